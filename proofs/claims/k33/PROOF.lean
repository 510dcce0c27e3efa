import PyProof.Rows.All
import Wide.All
import OpenK.AllK
import Wide.FinOn
import KE.KStateDown
import KE.DataCmp
import PyProof.ReprRoads
import HandS.ForMost
import HandS.ExcCtx
import HandS.HotCalls
import HandS.TupAny
import HandS.TupMul
import HandS.Style
import HandS.DictComp
import HandS.DictEq
import HandS.Deep
import HandS.Conv
import HandS.Flow
import HandS.Star
import HandS.Small
import HandS.More
import HandS.Evl
import HandS.Defaults
import HandS.HeadHook1
import HandS.HeadHook2
import KE.SortData
import HandS.ListEq
import HandS.TupLen
import HandS.Walk
import KE.GoesEnum
import KE.GoesMore
import HandS.Zip
import HandS.WideBits
import HandS.Words
import HandS.Strs
import KE.KDictZip
import HandS.ExcIs
import PyProof.SumWalk
import HandS.Head0
import HandS.Head1
import HandS.Head2
import HandS.HeadEnd
import HandS.HeadHook3
import PyProof.ExcBaseAll.ValueError
import PyProof.Rows.RegFStrParts
import KE.DatumOrd
import KE.KBits
import PySem.Challenge.RW_sayagainst_k33_whole_conditions_and_what
set_option Elab.async false
set_option linter.all false
set_option maxRecDepth 100000
set_option maxHeartbeats 0
/-! DA: plain data D, how a value holds it, the store of a frame -/
namespace DL
open PySem PySem.Spec PyProof.Rows L2

/-- plain data -/
inductive D where
  | non | bl (b : Bool) | int (i : Int) | str (x : Str)
  | tup (l : List D) | lst (l : List D)
  | dic (l : List (Key × D)) | dit (l : List (List Key × D))
  | obj (c : Str) (l : List (Str × D))
  | fn (f : Str) | st | scr (l : List Int) | kt (l : List D)

abbrev AP := Addr → Prop
/-- the drawing state: a list of the stream and a counter -/
def StO (a s : Addr) (n : Nat) : HO := .ext fun h => ∃ (t : Tok) (m : Nat), h.get? a = some { cls := .type "list", data := .seq #[.ref s, .int (n : Int) t] m }
theorem sto_inj {a a' s s' : Addr} {n n' : Nat} (h : StO a s n = StO a' s' n') (ha : a = a') : n = n' ∧ s = s' := by
  subst ha
  have e : (fun h : Heap => ∃ (t : Tok) (m : Nat), h.get? a = some { cls := .type "list", data := .seq #[.ref s, .int (n : Int) t] m }) = fun h : Heap => ∃ (t : Tok) (m : Nat), h.get? a = some { cls := .type "list", data := .seq #[.ref s', .int (n' : Int) t] m } := by
    unfold StO at h
    injection h
  obtain ⟨hp, hh⟩ : ∃ hp : Heap, hp.get? a = some { cls := .type "list", data := .seq #[.ref s, .int (n : Int) 0] 0 } := by
    refine ⟨⟨Array.replicate (a + 1) { cls := .type "list", data := .seq #[.ref s, .int (n : Int) 0] 0 }, default⟩, ?_⟩
    rw [Heap.get?_some_iff]
    exact ⟨by simp, rfl⟩
  have q : ∃ (t : Tok) (m : Nat), hp.get? a = some { cls := .type "list", data := .seq #[.ref s', .int (n' : Int) t] m } := by
    rw [← congrFun e hp]
    exact ⟨0, 0, hh⟩
  obtain ⟨t, m, q⟩ := q
  rw [hh] at q
  injection q with q
  injection q with _ _ q _
  injection q with q _
  have l := congrArg Array.toList q
  simp at l
  exact ⟨by omega, l.1⟩
/-- a state object moved on -/
def Std (b : Addr) (o : HO) (r : Option HO) : Prop := ∃ s n n', o = StO b s n ∧ r = some (StO b s n')
def isX : HO → Bool
  | .ext _ => true
  | _ => false
theorem Std.not {b : Addr} {o : HO} {r : Option HO} (h : Std b o r) (n : isX o = false) : False := by
  obtain ⟨s, k, k', rfl, _⟩ := h
  cases n
def RepSt (A : AP) (H : Hp) (v : V) : Prop :=
  ∃ (a s : Addr) (n : Nat) (ns : List Int), v = .ref a ∧ ¬ A a ∧ ¬ A s ∧ H a = some (StO a s n) ∧ H s = some (.lst (ns.map V.int)) ∧ ns ≠ [] ∧ (∀ n ∈ ns, 0 ≤ n ∧ n < 1009) ∧ ns.length ≤ 4000

section
variable (K : PySem.W.Frag)
mutual
def Rep (A : AP) (H : Hp) : D → V → Prop
  | .non, v => v = .non
  | .bl b, v => v = .bl b
  | .int i, v => v = .int i
  | .str x, v => v = .str x
  | .tup l, v => ∃ a vs, v = .ref a ∧ H a = some (.tup vs) ∧ RepL A H l vs
  | .lst l, v => ∃ a vs, v = .ref a ∧ ¬ A a ∧ H a = some (.lst vs) ∧ RepL A H l vs
  | .dic l, v => ∃ a kvs, v = .ref a ∧ ¬ A a ∧ Rd H a (.dK kvs) ∧ RepK A H l kvs
  | .dit l, v => ∃ a kvs, v = .ref a ∧ ¬ A a ∧ Rd H a (.dT kvs) ∧ RepT A H l kvs
  | .obj c l, v => ∃ a dx fs, v = .ref a ∧ ¬ A a ∧ H a = some (.ins (He.ga K c) dx fs) ∧ RepF A H l fs
  | .fn f, v => v = .ref (He.ga K f)
  | .st, v => RepSt A H v
  | .scr l, v => ∃ a, v = .ref a ∧ ((∃ o, ¬ A a ∧ H a = some (.frz o (.lst (l.map V.int)))) ∨ ∀ G, SqL K G a (l.map V.int))
  | .kt l, v => ∃ a vs, v = .ref a ∧ (∀ G, SqT K G a vs) ∧ RepL A H l vs
def RepL (A : AP) (H : Hp) : List D → List V → Prop
  | [], vs => vs = []
  | d :: l, vs => ∃ v r, vs = v :: r ∧ Rep A H d v ∧ RepL A H l r
def RepK (A : AP) (H : Hp) : List (Key × D) → List (Key × V) → Prop
  | [], vs => vs = []
  | (k, d) :: l, vs => ∃ v r, vs = (k, v) :: r ∧ Rep A H d v ∧ RepK A H l r
def RepT (A : AP) (H : Hp) : List (List Key × D) → List (List Key × V) → Prop
  | [], vs => vs = []
  | (k, d) :: l, vs => ∃ v r, vs = (k, v) :: r ∧ Rep A H d v ∧ RepT A H l r
def RepF (A : AP) (H : Hp) : List (Str × D) → List (Str × V) → Prop
  | [], vs => vs = []
  | (k, d) :: l, vs => ∃ v r, vs = (k, v) :: r ∧ Rep A H d v ∧ RepF A H l r
end
end

def isDc : HO → Bool
  | .dK _ => true
  | .dT _ => true
  | _ => false
def nfz : HO → Bool
  | .frz _ u => !isDc u
  | _ => true
/-- what may change -/
def isMt : HO → Bool
  | .lst _ => true
  | .dK _ => true
  | .dT _ => true
  | .set _ _ => true
  | .ins _ _ _ => true
  | .ext _ => true
  | .frz _ (.dK _) => true
  | .frz _ (.dT _) => true
  | _ => false
/-- a dict locked, or unlocked again -/
def Lkd (o : HO) (r : Option HO) : Prop := (∃ u od, isDc u = true ∧ o = u ∧ r = some (.frz od u)) ∨ ∃ u od, isDc u = true ∧ o = .frz od u ∧ r = some u
def Keeps (A : AP) (H H' : Hp) : Prop := ∀ b o, H b = some o → (A b → isMt o = false) → H' b = some o ∨ Lkd o (H' b) ∨ Std b o (H' b)
def Grows (H : Hp) (A A' : AP) : Prop := ∀ b o, H b = some o → ¬ A b → ¬ A' b

theorem Keeps.at {A : AP} {H H' : Hp} (k : Keeps A H H') {b : Addr} {o : HO} (h : H b = some o) (n : A b → isMt o = false) (h1 : isDc o = false) (h2 : nfz o = true) (h3 : isX o = false) : H' b = some o := by
  rcases k b o h n with z | (⟨u, od, d, rfl, _⟩ | ⟨u, od, d, rfl, _⟩) | z
  · exact z
  · rw [h1] at d
    cases d
  · have h3 : (!isDc u) = true := h2
    rw [d] at h3
    cases h3
  · exact (z.not h3).elim
theorem Keeps.rd {A : AP} {H H' : Hp} (k : Keeps A H H') {a : Addr} {u : HO} (h2 : nfz u = true) (h4 : isX u = false) (na : ¬ A a) (h : Rd H a u) : Rd H' a u := by
  rcases h with h | ⟨o, h⟩
  · rcases k a _ h (fun z => absurd z na) with z | (⟨u', od, d, e, z⟩ | ⟨u', od, d, e, z⟩) | z
    · exact .inl z
    · exact .inr ⟨od, by rw [z, e]⟩
    · rw [e] at h2
      have h3 : (!isDc u') = true := h2
      rw [d] at h3
      cases h3
    · exact (z.not h4).elim
  · rcases k a _ h (fun z => absurd z na) with z | (⟨u', od, d, e, z⟩ | ⟨u', od, d, e, z⟩) | z
    · exact .inr ⟨o, z⟩
    · rw [← e] at d
      cases d
    · cases e
      exact .inl z
    · exact (z.not rfl).elim
theorem Keeps.tup {K : PySem.W.Frag} {A : AP} {H H' : Hp} (k : Keeps A H H') {a : Addr} {vs : List V} (h : SqT K H a vs) : SqT K H' a vs := by
  rcases h with h | h
  · rcases h with h | ⟨o, h⟩
    · exact .inl (.inl (k.at h (fun _ => rfl) rfl rfl rfl))
    · exact .inl (.inr ⟨o, k.at h (fun _ => rfl) rfl rfl rfl⟩)
  · exact .inr h
theorem Grows.rd {A A' : AP} {H : Hp} (g : Grows H A A') {a : Addr} {u : HO} (na : ¬ A a) (h : Rd H a u) : ¬ A' a := by
  rcases h with h | ⟨o, h⟩
  · exact g a _ h na
  · exact g a _ h na

section
variable {K : PySem.W.Frag} {A A' : AP} {H H' : Hp}
mutual
theorem Rep.keep (k : Keeps A H H') (g : Grows H A A') : ∀ (d : D) (v : V), Rep K A H d v → Rep K A' H' d v
  | .non, v, h => h
  | .bl b, v, h => h
  | .int i, v, h => h
  | .str x, v, h => h
  | .tup l, v, h => by
    obtain ⟨a, vs, e, s, r⟩ := h
    exact ⟨a, vs, e, k.at s (fun _ => rfl) rfl rfl rfl, RepL.keep k g l vs r⟩
  | .lst l, v, h => by
    obtain ⟨a, vs, e, na, s, r⟩ := h
    exact ⟨a, vs, e, g a _ s na, k.at s (fun z => absurd z na) rfl rfl rfl, RepL.keep k g l vs r⟩
  | .dic l, v, h => by
    obtain ⟨a, vs, e, na, s, r⟩ := h
    exact ⟨a, vs, e, g.rd na s, k.rd rfl rfl na s, RepK.keep k g l vs r⟩
  | .dit l, v, h => by
    obtain ⟨a, vs, e, na, s, r⟩ := h
    exact ⟨a, vs, e, g.rd na s, k.rd rfl rfl na s, RepT.keep k g l vs r⟩
  | .obj c l, v, h => by
    obtain ⟨a, dx, vs, e, na, s, r⟩ := h
    exact ⟨a, dx, vs, e, g a _ s na, k.at s (fun z => absurd z na) rfl rfl rfl, RepF.keep k g l vs r⟩
  | .fn f, v, h => h
  | .st, v, h => by
    obtain ⟨a, s, n, ns, e, na, nb, ha, hs, hn, hb, hl⟩ := h
    have q : ∃ n', H' a = some (StO a s n') := by
      rcases k a _ ha (fun z => absurd z na) with z | (⟨u', od, d, e, z⟩ | ⟨u', od, d, e, z⟩) | ⟨s', m, m', e, z⟩
      · exact ⟨n, z⟩
      · rw [← e] at d
        cases d
      · cases e
      · obtain ⟨rfl, rfl⟩ := sto_inj e rfl
        exact ⟨m', z⟩
    obtain ⟨n', q⟩ := q
    exact ⟨a, s, n', ns, e, g a _ ha na, g s _ hs nb, q, k.at hs (fun z => absurd z nb) rfl rfl rfl, hn, hb, hl⟩
  | .scr l, v, h => by
    obtain ⟨a, e, h⟩ := h
    refine ⟨a, e, h.imp (fun q => ?_) id⟩
    obtain ⟨o, na, ha⟩ := q
    exact ⟨o, g a _ ha na, k.at ha (fun z => absurd z na) rfl rfl rfl⟩
  | .kt l, v, h => by
    obtain ⟨a, vs, e, s, r⟩ := h
    exact ⟨a, vs, e, s, RepL.keep k g l vs r⟩
theorem RepL.keep (k : Keeps A H H') (g : Grows H A A') : ∀ (l : List D) (vs : List V), RepL K A H l vs → RepL K A' H' l vs
  | [], vs, h => h
  | d :: l, vs, h => by
    obtain ⟨v, r, e, h1, h2⟩ := h
    exact ⟨v, r, e, Rep.keep k g d v h1, RepL.keep k g l r h2⟩
theorem RepK.keep (k : Keeps A H H') (g : Grows H A A') : ∀ (l : List (Key × D)) (vs : List (Key × V)), RepK K A H l vs → RepK K A' H' l vs
  | [], vs, h => h
  | (x, d) :: l, vs, h => by
    obtain ⟨v, r, e, h1, h2⟩ := h
    exact ⟨v, r, e, Rep.keep k g d v h1, RepK.keep k g l r h2⟩
theorem RepT.keep (k : Keeps A H H') (g : Grows H A A') : ∀ (l : List (List Key × D)) (vs : List (List Key × V)), RepT K A H l vs → RepT K A' H' l vs
  | [], vs, h => h
  | (x, d) :: l, vs, h => by
    obtain ⟨v, r, e, h1, h2⟩ := h
    exact ⟨v, r, e, Rep.keep k g d v h1, RepT.keep k g l r h2⟩
theorem RepF.keep (k : Keeps A H H') (g : Grows H A A') : ∀ (l : List (Str × D)) (vs : List (Str × V)), RepF K A H l vs → RepF K A' H' l vs
  | [], vs, h => h
  | (x, d) :: l, vs, h => by
    obtain ⟨v, r, e, h1, h2⟩ := h
    exact ⟨v, r, e, Rep.keep k g d v h1, RepF.keep k g l r h2⟩
end
end
end DL

/-! DB: a small language with slots, and what its pieces want (wp), over plain data -/
namespace DL
open PySem PySem.Spec PyProof.Rows L2

/-- an exception: its class, its line (of those that bear one) -/
structure Exn where
  cls : Str
  line : Option Int := none
abbrev DK := D → Prop
abbrev EK := Exn → Prop
/-- what a def does: its arguments, what is wanted of its value, of its exception -/
abbrev DSp := List D → DK → EK → Prop
structure Ent where
  k : Nat
  n : Nat
  c : Nat
  m : DSp
structure Tb where
  fn : Str → Option Ent
  meth : Str → Str → Option Ent
  new : Str → Option Ent
  glob : Str → Option D
  exc : Str → Bool
  err : Bool := false
  fld : Str → Str → Bool := fun _ _ => false
  tab : Str → Option (List (Str × Int)) := fun _ => none
abbrev DE := List (Option D)

inductive Pt where
  | one (i : Nat) | many (is : List Nat)
inductive BF where
  | len | all | any | sum | max | min | max2 | min2 | abs | int | str | repr | sorted | list | tuple
  deriving DecidableEq
inductive BM where
  | index | count | values | split | join | bitlen
  deriving DecidableEq
inductive E where
  | var (i : Nat) | own (i : Nat) | con (d : D) | glob (x : Str)
  | tup (es : List E) | lst (es : List E) | star (e : E)
  | bin (op : Operator) (a b : E) | binN (op : Operator) (a b : E) | lenset (a : E) | lrng (a : E) | dictzip (a b : E) | neg (a : E) | inv (a : E)
  | cmp (op : CmpOp) (a b : E) | chain (o1 o2 : CmpOp) (a b c : E)
  | inn (neg : Bool) (a b : E) | din (neg : Bool) (a b : E)
  | isn (neg : Bool) (a : E)
  | and (es : List E) | or (es : List E) | not (a : E) | ite (c a b : E)
  | sub (a i : E) | dget (a i : E) | dgetd (a i d : E) | tget (x : Str) (i d : E)
  | slice (a : E) (lo hi : Option E) | rev (a : E)
  | blt (f : BF) (es : List E)
  | call (f : Str) (es : List E)
  | pick (c : E) (es : List E)
  | bm (m : BM) (o : E) (es : List E)
  | meth (c m : Str) (o : E) (es : List E)
  | attr (c f : Str) (o : E)
  | mk (c : Str) (es : List E)
  | lc (own : List (Str × Nat)) (tg : Pt) (it : E) (ifs : List E) (e : E)
  | lck (own : List (Str × Nat)) (tg : Pt) (it : E) (ifs : List E) (e : E)
  | lc2 (own : List (Str × Nat)) (tg : Pt) (it : E) (ifs : List E) (own2 : List Nat) (tg2 : Pt) (it2 : E) (ifs2 : List E) (e : E)
  | dc (own : List (Str × Nat)) (tg : Pt) (it : E) (ifs : List E) (k v : E)
  | dnew (t : Bool)
  | rng (a : E) | rng2 (a b : E) | enum (e : E) | zip (a b : E) | items (e : E) | vals (e : E) | keys (e : E)
  | newst (e : E)

/-! ### the operations -/
def cutL {α : Type} (xs : List α) (lo hi : Option Int) : List α := (xs.drop (HT.sIx xs.length 0 lo)).take (HT.sIx xs.length xs.length hi - HT.sIx xs.length 0 lo)
def toPy : D → Option PyData
  | .non => some .none
  | .bl b => some (.bool b)
  | .int i => some (.int i)
  | .str x => some (.str x)
  | .tup l => (toPyL l).map .tuple
  | .lst l => (toPyL l).map .list
  | .kt l => (toPyL l).map .tuple
  | _ => none
where toPyL : List D → Option (List PyData)
  | [] => some []
  | d :: l => match toPy d, toPyL l with
    | some p, some q => some (p :: q)
    | _, _ => none
def binD (op : Operator) (x y : D) (Q : DK) : Prop := match op, x, y with
  | .Add, .int i, .int j => Q (.int (i + j))
  | .Sub, .int i, .int j => Q (.int (i - j))
  | .Mult, .int i, .int j => CMul i j ∧ Q (.int (i * j))
  | .FloorDiv, .int i, .int j => CDiv i j ∧ Q (.int (i / j))
  | .Mod, .int i, .int j => 0 < j ∧ Q (.int (i % j))
  | .Pow, .int i, .int j => CPow i j ∧ Q (.int (i ^ j.toNat))
  | .LShift, .int i, .int j => CPow i j ∧ Q (.int (i * 2 ^ j.toNat))
  | .RShift, .int i, .int j => 0 ≤ j ∧ Q (.int (i / 2 ^ j.toNat))
  | .BitAnd, .int i, .int j => Q (.int (Builtin.bitAnd i j))
  | .BitOr, .int i, .int j => Q (.int (Builtin.bitOr i j))
  | .BitXor, .int i, .int j => Q (.int (Builtin.bitXor i j))
  | .Add, .str a, .str b => a.length + b.length ≤ sizeLine ∧ Q (.str (a ++ b))
  | .Add, .tup a, .tup b => a.length + b.length ≤ sizeLine ∧ Q (.tup (a ++ b))
  | .Add, .lst a, .lst b => a.length + b.length ≤ sizeLine ∧ Q (.lst (a ++ b))
  | .Mult, .lst a, .int k => -(2 ^ 63) ≤ k ∧ k < 2 ^ 63 ∧ a.length * k.toNat ≤ sizeLine ∧ Q (.lst (List.replicate k.toNat a).flatten)
  | .Mult, .tup a, .int k => -(2 ^ 63) ≤ k ∧ k ≤ 1000 ∧ a.length ≤ 1000 ∧ Q (.tup (List.replicate k.toNat a).flatten)
  | _, _, _ => False
/-- p can be compared to q: two texts always can -/
def shEq : PyData → PyData → Bool
  | .str _, .str _ => true
  | p, _ => SeqAt.shaped p
/-- a field stored -/
def putFD (f : Str) (d : D) : List (Str × D) → List (Str × D)
  | [] => [(f, d)]
  | (g, x) :: r => if g = f then (g, d) :: r else (g, x) :: putFD f d r
/-- dicts of truth values -/
def dicB (l : List (Key × Bool)) : List (Key × D) := l.map fun kv => (kv.1, .bl kv.2)
def valB (l : List (Key × Bool)) (k : Key) : Option Bool := (l.find? fun kv => decide (kv.1 = k)).map (·.2)
def eqDic (l m : List (Key × Bool)) : Bool := l.length == m.length && l.all fun kv => decide (valB m kv.1 = some kv.2)
/-- what can be sorted, and how it then stands -/
def encD (d : D) : PyData := (toPy d).getD .none
def SortXD (ds : List PyData) : Prop := PySem.W.Sortable ds ∨ ((∀ d ∈ ds, ∃ xs, d = .tuple xs) ∧ ∃ r, ds = .tuple [] :: r)
def SortC (l : List D) : Prop := (∃ ps, toPy.toPyL l = some ps) ∧ PySem.W.AllAlike (l.map encD) ∧ SortXD (l.map encD) ∧ ∀ d ∈ l, (encD d).depth ≤ 60
def sortD (l : List D) : List D := l.mergeSort (PySem.W.dataLe false encD)
def cmpD (op : CmpOp) (x y : D) (Q : DK) : Prop := match op, x, y with
  | .Lt, .int i, .int j => Q (.bl (decide (i < j)))
  | .LtE, .int i, .int j => Q (.bl (decide (i ≤ j)))
  | .Gt, .int i, .int j => Q (.bl (decide (j < i)))
  | .GtE, .int i, .int j => Q (.bl (decide (j ≤ i)))
  | .Lt, .str a, .str b => Q (.bl (decide (a.cps.toList < b.cps.toList)))
  | .Lt, .tup a, .tup b => ∃ p q, toPy.toPyL a = some p ∧ toPy.toPyL b = some q ∧ PySem.W.alikeAll p q = true ∧ (PyData.tuple p).depth ≤ 60 ∧ Q (.bl (PySem.W.dataLt (.tuple p) (.tuple q)))
  | .Eq, .dic l, .dic m => ∃ l' m' : List (Key × Bool), l = dicB l' ∧ m = dicB m' ∧ Q (.bl (eqDic l' m'))
  | .Eq, x, y => ∃ p q, toPy x = some p ∧ toPy y = some q ∧ shEq p q = true ∧ shEq q p = true ∧ Q (.bl (PyData.eqv p q))
  | .NotEq, x, y => ∃ p q, toPy x = some p ∧ toPy y = some q ∧ shEq p q = true ∧ shEq q p = true ∧ Q (.bl (!PyData.eqv p q))
  | _, _, _ => False
/-- what makes a new list -/
def binND (op : Operator) (x y : D) (Q : DK) : Prop := match op, x, y with
  | .Add, .lst a, .lst b => a.length + b.length ≤ sizeLine ∧ Q (.lst (a ++ b))
  | .Mult, .lst a, .int k => -(2 ^ 63) ≤ k ∧ k < 2 ^ 63 ∧ a.length * k.toNat ≤ sizeLine ∧ Q (.lst (List.replicate k.toNat a).flatten)
  | _, _, _ => False
def distS (l : List Str) : List Str := l.foldl (fun acc x => if x ∈ acc then acc else acc ++ [x]) []
def negB (neg b : Bool) : Bool := if neg then !b else b
def innD (neg : Bool) (x y : D) (Q : DK) : Prop := match x, y with
  | .str a, .str b => ∃ c, a = ⟨#[c]⟩ ∧ Q (.bl (negB neg (decide (c ∈ b.cps.toList))))
  | x, .lst l => ∃ p ps, toPy x = some p ∧ toPy.toPyL l = some ps ∧ SeqAt.shaped p = true ∧ SeqAt.shaped (.list ps) = true ∧ Q (.bl (negB neg (ps.any fun z => PyData.eqv z p)))
  | x, .kt l => ∃ p ps, toPy x = some p ∧ toPy.toPyL l = some ps ∧ SeqAt.shaped p = true ∧ SeqAt.shaped (.list ps) = true ∧ Q (.bl (negB neg (ps.any fun z => PyData.eqv z p)))
  | x, .tup l => ∃ p ps, toPy x = some p ∧ toPy.toPyL l = some ps ∧ SeqAt.shaped p = true ∧ SeqAt.shaped (.list ps) = true ∧ Q (.bl (negB neg (ps.any fun z => PyData.eqv z p)))
  | _, _ => False
/-- a key of a dict -/
def keyK : D → Option Key
  | .int i => some (.inl i)
  | .str x => some (.inr x)
  | _ => none
def keyKs : List D → Option (List Key)
  | [] => some []
  | d :: l => match keyK d, keyKs l with
    | some p, some q => some (p :: q)
    | _, _ => none
def keyT : D → Option (List Key)
  | .tup l => keyKs l
  | _ => none
def dK : Key → D
  | .inl i => .int i
  | .inr x => .str x
def valD {κ : Type} [DecidableEq κ] (kvs : List (κ × D)) (k : κ) : Option D := (kvs.find? fun kv => decide (kv.1 = k)).map (·.2)
def putD {κ : Type} [DecidableEq κ] (kvs : List (κ × D)) (k : κ) (v : D) : List (κ × D) :=
  if (kvs.any fun kv => decide (kv.1 = k)) = true then kvs.map (fun kv => if kv.1 = k then (kv.1, v) else kv) else kvs ++ [(k, v)]
def dinD (neg : Bool) (x y : D) (Q : DK) : Prop := match y with
  | .dic l => ∃ k, keyK x = some k ∧ Q (.bl (negB neg (valD l k).isSome))
  | .dit l => ∃ k, keyT x = some k ∧ Q (.bl (negB neg (valD l k).isSome))
  | _ => False
def dgetD (y x : D) (Q : DK) : Prop := match y with
  | .dic l => ∃ k d, keyK x = some k ∧ valD l k = some d ∧ Q d
  | .dit l => ∃ k d, keyT x = some k ∧ valD l k = some d ∧ Q d
  | _ => False
def dgetdD (y x z : D) (Q : DK) : Prop := match y with
  | .dic l => ∃ k, keyK x = some k ∧ Q ((valD l k).getD z)
  | .dit l => ∃ k, keyT x = some k ∧ Q ((valD l k).getD z)
  | _ => False
def subD (x y : D) (Q : DK) : Prop := match x, y with
  | .lst l, .int i => ∃ d, atI l i = some d ∧ Q d
  | .tup l, .int i => ∃ d, atI l i = some d ∧ Q d
  | .kt l, .int i => ∃ d, atI l i = some d ∧ Q d
  | .str z, .int i => ∃ c, z.length ≤ sizeLine ∧ atI z.cps.toList i = some c ∧ Q (.str ⟨#[c]⟩)
  | _, _ => False
def sliceD (x : D) (lo hi : Option Int) (Q : DK) : Prop := match x with
  | .lst l => Q (.lst (cutL l lo hi))
  | .tup l => Q (.tup (cutL l lo hi))
  | .str z => z.length ≤ sizeLine ∧ Q (.str (cutS z lo hi))
  | .scr l => Q (.lst ((cutL l lo hi).map .int))
  | _ => False
def revD (x : D) (Q : DK) : Prop := match x with
  | .lst l => Q (.lst l.reverse)
  | .tup l => Q (.tup l.reverse)
  | _ => False
def bfD (f : BF) (ds : List D) (Q : DK) : Prop := match f, ds with
  | .len, [.lst l] => Q (.int l.length)
  | .len, [.tup l] => Q (.int l.length)
  | .len, [.kt l] => Q (.int l.length)
  | .len, [.str z] => z.length ≤ sizeLine ∧ Q (.int z.length)
  | .len, [.dic l] => Q (.int l.length)
  | .all, [.lst l] => ∃ bs : List Bool, l = bs.map .bl ∧ Q (.bl (bs.all id))
  | .any, [.lst l] => ∃ bs : List Bool, l = bs.map .bl ∧ Q (.bl (bs.any id))
  | .sum, [.lst l] => ∃ ns : List Int, l = ns.map .int ∧ Q (.int ns.sum)
  | .max, [.lst l] => ∃ ns : List Int, l = ns.map .int ∧ 0 < ns.length ∧ ∀ m, m ∈ ns → (∀ y, y ∈ ns → y ≤ m) → Q (.int m)
  | .min, [.lst l] => ∃ ns : List Int, l = ns.map .int ∧ 0 < ns.length ∧ ∀ m, m ∈ ns → (∀ y, y ∈ ns → m ≤ y) → Q (.int m)
  | .max2, [.int i, .int j] => Q (.int (if j > i then j else i))
  | .min2, [.int i, .int j] => Q (.int (if j < i then j else i))
  | .abs, [.int i] => Q (.int (if i < 0 then -i else i))
  | .int, [.int i] => Q (.int i)
  | .int, [.bl b] => Q (.int (b2i b))
  | .repr, [.tup l] => ∃ p, toPy.toPyL l = some p ∧ (PyData.tuple p).showable = true ∧ (PyData.tuple p).hasDict = false ∧ (PyData.tuple p).depth ≤ 60 ∧ (PyData.tuple p).shown.length ≤ sizeLine ∧ Q (.str (PyData.tuple p).shown)
  | .repr, [.lst l] => ∃ p, toPy.toPyL l = some p ∧ (PyData.list p).showable = true ∧ (PyData.list p).hasDict = false ∧ (PyData.list p).depth ≤ 60 ∧ (PyData.list p).shown.length ≤ sizeLine ∧ Q (.str (PyData.list p).shown)
  | .str, [.int i] => i.natAbs.log2 < 1920 ∧ Q (.str (toString i))
  | .list, [.lst l] => Q (.lst l)
  | .list, [.tup l] => Q (.lst l)
  | .list, [.kt l] => Q (.lst l)
  | .list, [.dic l] => Q (.lst (l.map fun kv => dK kv.1))
  | .tuple, [.lst l] => Q (.tup l)
  | .tuple, [.tup l] => Q (.tup l)
  | .sorted, [.lst l] => SortC l ∧ Q (.lst (sortD l))
  | .sorted, [.tup l] => SortC l ∧ Q (.lst (sortD l))
  | _, _ => False
def bmD (m : BM) (o : D) (ds : List D) (Q : DK) : Prop := match m, o, ds with
  | .index, .lst l, [x] => ∃ p ps j z, toPy x = some p ∧ toPy.toPyL l = some ps ∧ SeqAt.shaped (.list ps) = true ∧ SeqAt.shaped p = true ∧ ps[j]? = some z ∧ PyData.eqv z p = true ∧ (∀ (m : Nat) z', m < j → ps[m]? = some z' → PyData.eqv z' p = false) ∧ Q (.int (j : Nat))
  | _, _, _ => False
/-- what the receiver is -/
def bmTy (m : BM) (o : D) : Prop := match m, o with
  | .index, .lst _ => True
  | _, _ => False
def attrD (c f : Str) (o : D) (Q : DK) : Prop := match o with
  | .obj c' l => c' = c ∧ ∃ d, l.lookup f = some d ∧ Q d
  | _ => False
/-- what is walked -/
def walkD : D → Option (List D)
  | .lst l => some l
  | .tup l => some l
  | .kt l => some l
  | .str z => some (z.cps.toList.map fun c => .str ⟨#[c]⟩)
  | _ => none
def setPt (tg : Pt) (d : D) (ρ : DE) (Q : DE → Prop) : Prop := match tg with
  | .one i => Q (ρ.set i (some d))
  | .many is => ∃ ds, (d = .tup ds) ∧ ds.length = is.length ∧ Q ((is.zip ds).foldl (fun r p => r.set p.1 (some p.2)) ρ)
def wipeD (ρ : DE) : List Nat → DE
  | [] => ρ
  | v :: vs => (wipeD ρ vs).set v none
/-- a walk that gives a list -/
def lcW (step : D → (Option D → Prop) → Prop) : List D → List D → (List D → Prop) → Prop
  | [], acc, Q => Q acc
  | d :: l, acc, Q => acc.length < sizeLine ∧ step d fun r => match r with
    | some x => lcW step l (acc ++ [x]) Q
    | none => lcW step l acc Q
def lcW2 (inner : D → List D → (List D → Prop) → Prop) : List D → List D → (List D → Prop) → Prop
  | [], acc, Q => Q acc
  | d :: l, acc, Q => inner d acc fun acc' => lcW2 inner l acc' Q
def dcW (step : D → (Option (D × D) → Prop) → Prop) : List D → List (Key × D) → (List (Key × D) → Prop) → Prop
  | [], acc, Q => Q acc
  | d :: l, acc, Q => acc.length < sizeLine ∧ step d fun r => match r with
    | some (x, y) => ∃ k, keyK x = some k ∧ dcW step l (putD acc k y) Q
    | none => dcW step l acc Q

def ownB : E → Bool
  | .own _ => true
  | _ => false
def ownS : E → Bool
  | .own _ => true
  | .enum e => ownB e
  | .zip a b => ownB a || ownB b
  | _ => false
/-- holds no list, no dict, no object -/
def flatD : D → Bool
  | .non => true
  | .bl _ => true
  | .int _ => true
  | .str _ => true
  | .tup l => flatL l
  | .fn _ => true
  | _ => false
where flatL : List D → Bool
  | [] => true
  | d :: l => flatD d && flatL l
/-- holds no object -/
def noB : D → Bool
  | .obj _ _ => false
  | .st => false
  | .scr _ => false
  | .tup l => noL l
  | .lst l => noL l
  | .kt l => noL l
  | .dic l => noK l
  | .dit l => noT l
  | _ => true
where
  noL : List D → Bool
  | [] => true
  | d :: l => noB d && noL l
  noK : List (Key × D) → Bool
  | [] => true
  | (_, d) :: l => noB d && noK l
  noT : List (List Key × D) → Bool
  | [] => true
  | (_, d) :: l => noB d && noT l
/-! ### the cost in draws, at most -/
def wkL : Nat := 2 ^ 32
section
variable (T : Tb)
mutual
def dcE : E → Nat
  | .tup es => dcEs es
  | .lst es => dcEs es
  | .star e => dcE e
  | .bin _ a b => dcE a + dcE b
  | .binN _ a b => dcE a + dcE b
  | .lenset a => dcE a
  | .lrng a => dcE a
  | .dictzip a b => dcE a + dcE b
  | .neg a => dcE a
  | .inv a => dcE a
  | .cmp _ a b => dcE a + dcE b
  | .chain _ _ a b c => dcE a + (dcE b + dcE c)
  | .inn _ a b => dcE a + dcE b
  | .din _ a b => dcE a + dcE b
  | .isn _ a => dcE a
  | .and es => dcEs es
  | .or es => dcEs es
  | .not a => dcE a
  | .ite c a b => dcE c + (dcE a + dcE b)
  | .sub a i => dcE a + dcE i
  | .dget a i => dcE a + dcE i
  | .dgetd a i d => dcE a + (dcE i + dcE d)
  | .tget _ i d => dcE i + dcE d
  | .slice a lo hi => dcE a + (dcO lo + dcO hi)
  | .rev a => dcE a
  | .blt _ es => dcEs es
  | .call f es => dcEs es + (match T.fn f with
    | some e => e.c
    | none => 0)
  | .pick c es => dcE c + dcEs es
  | .bm _ o es => dcE o + dcEs es
  | .meth c m o es => dcE o + (dcEs es + (match T.meth c m with
    | some e => e.c
    | none => 0))
  | .attr _ _ o => dcE o
  | .mk c es => dcEs es + (match T.new c with
    | some e => e.c
    | none => 0)
  | .lc _ _ it ifs e => dcE it + wkL * (dcEs ifs + dcE e)
  | .lck _ _ it ifs e => dcE it + wkL * (dcEs ifs + dcE e)
  | .lc2 _ _ it ifs _ _ it2 ifs2 e => dcE it + wkL * (dcEs ifs + (dcE it2 + wkL * (dcEs ifs2 + dcE e)))
  | .dc _ _ it ifs k v => dcE it + wkL * (dcEs ifs + (dcE k + dcE v))
  | .rng a => dcE a
  | .rng2 a b => dcE a + dcE b
  | .enum e => dcE e
  | .zip a b => dcE a + dcE b
  | .items e => dcE e
  | .vals e => dcE e
  | .keys e => dcE e
  | .newst e => dcE e
  | _ => 0
def dcEs : List E → Nat
  | [] => 0
  | e :: es => dcE e + dcEs es
def dcO : Option E → Nat
  | none => 0
  | some e => dcE e
end
end
/-! ### expressions -/
section
variable (T : Tb)
mutual
def wpE (X : EK) : E → DE → DK → Prop
  | .var i, ρ, Q => ∃ d, ρ[i]? = some (some d) ∧ Q d
  | .own i, ρ, Q => ∃ d, ρ[i]? = some (some d) ∧ Q d
  | .con d, _, Q => Q d
  | .glob x, _, Q => ∃ d, T.glob x = some d ∧ Q d
  | .tup es, ρ, Q => wpEs X es ρ fun ds => ds.length ≤ sizeLine ∧ Q (.tup ds)
  | .lst es, ρ, Q => wpEs X es ρ fun ds => ds.length ≤ sizeLine ∧ Q (.lst ds)
  | .star _, _, _ => False
  | .bin op a b, ρ, Q => wpE X a ρ fun x => wpE X b ρ fun y => binD op x y Q
  | .binN op a b, ρ, Q => wpE X a ρ fun x => wpE X b ρ fun y => binND op x y Q
  | .lrng a, ρ, Q => wpE X a ρ fun x => ∃ n, x = .int n ∧ 0 ≤ n ∧ n ≤ 16777216 ∧ Q (.lst ((List.range n.toNat).map fun (k : Nat) => .int (0 + (k : Int))))
  | .lenset a, ρ, Q => wpE X a ρ fun x => ∃ ss : List Str, x = .lst (ss.map .str) ∧ ss.length ≤ 4000 ∧ Q (.int (distS ss).length)
  | .dictzip a b, ρ, Q => wpE X a ρ fun x => wpE X b ρ fun y => ∃ l m ks, x = .tup l ∧ y = .tup m ∧ keyKs l = some ks ∧ l.length ≤ 4000 ∧ Q (.dic ((ks.zip m).foldl (fun acc p => putD acc p.1 p.2) []))
  | .neg a, ρ, Q => wpE X a ρ fun x => ∃ i, x = .int i ∧ Q (.int (-i))
  | .inv a, ρ, Q => wpE X a ρ fun x => ∃ i, x = .int i ∧ Q (.int (Builtin.bitNot i))
  | .cmp op a b, ρ, Q => wpE X a ρ fun x => wpE X b ρ fun y => cmpD op x y Q
  | .chain o1 o2 a b c, ρ, Q => wpE X a ρ fun x => wpE X b ρ fun y => cmpD o1 x y fun r => ∃ k, r = .bl k ∧ if k = true then wpE X c ρ fun z => cmpD o2 y z Q else Q (.bl false)
  | .inn neg a b, ρ, Q => wpE X a ρ fun x => wpE X b ρ fun y => innD neg x y Q
  | .din neg a b, ρ, Q => wpE X a ρ fun x => wpE X b ρ fun y => dinD neg x y Q
  | .isn neg a, ρ, Q => wpE X a ρ fun x => Q (.bl (negB neg (match x with
      | .non => true
      | _ => false)))
  | .and es, ρ, Q => wpAnd X es ρ Q
  | .or es, ρ, Q => wpOr X es ρ Q
  | .not a, ρ, Q => wpE X a ρ fun x => ∃ c, x = .bl c ∧ Q (.bl (!c))
  | .ite c a b, ρ, Q => wpE X c ρ fun x => ∃ k, x = .bl k ∧ if k = true then wpE X a ρ Q else wpE X b ρ Q
  | .sub a i, ρ, Q => wpE X a ρ fun x => wpE X i ρ fun y => subD x y Q
  | .dget a i, ρ, Q => wpE X a ρ fun x => wpE X i ρ fun y => dgetD x y Q
  | .tget x i d, ρ, Q => wpE X i ρ fun y => wpE X d ρ fun z => ∃ l s, T.tab x = some l ∧ y = .str s ∧ Q (((l.lookup s).map .int).getD z)
  | .dgetd a i d, ρ, Q => wpE X a ρ fun x => wpE X i ρ fun y => wpE X d ρ fun z => dgetdD x y z Q
  | .slice a lo hi, ρ, Q => wpE X a ρ fun x => wpO X lo ρ fun l => wpO X hi ρ fun h => sliceD x l h Q
  | .rev a, ρ, Q => wpE X a ρ fun x => revD x Q
  | .blt f es, ρ, Q => wpEs X es ρ fun ds => bfD f ds Q
  | .call f es, ρ, Q => wpEs X es ρ fun ds => ∃ e, T.fn f = some e ∧ ds.length = e.n ∧ e.m ds (fun d => (es.any ownB = true → flatD d = true) ∧ Q d) X
  | .pick c es, ρ, Q => wpE X c ρ fun x => ∃ f, x = .fn f ∧ (T.glob f).isSome = true ∧ (match T.glob f with
      | some (.fn g) => g = f
      | _ => False) ∧ (∃ e, T.fn f = some e ∧ e.c = 0) ∧ wpEs X es ρ fun ds => ∃ e, T.fn f = some e ∧ ds.length = e.n ∧ e.m ds (fun d => (es.any ownB = true → flatD d = true) ∧ Q d) X
  | .bm m o es, ρ, Q => wpE X o ρ fun x => bmTy m x ∧ wpEs X es ρ fun ds => bmD m x ds Q
  | .meth c m o es, ρ, Q => wpE X o ρ fun x => ∃ l, x = .obj c l ∧ l.lookup m = none ∧ wpEs X es ρ fun ds => ∃ e, T.meth c m = some e ∧ ds.length + 1 = e.n ∧ e.m (.obj c l :: ds) (fun d => ((es.any ownB = true → flatD d = true) ∧ (ownB o = true → noB d = true)) ∧ Q d) X
  | .attr c f o, ρ, Q => wpE X o ρ fun x => attrD c f x Q
  | .mk c es, ρ, Q => wpEs X es ρ fun ds => ∃ e, T.new c = some e ∧ ds.length = e.n ∧ e.m ds Q X
  | .lc own tg it ifs e, ρ, Q => wpE X it ρ fun w => ∃ l, walkD w = some l ∧ (dcEs T ifs + dcE T e = 0 ∨ l.length ≤ wkL) ∧ lcW (fun d R => setPt tg d (wipeD ρ (own.map (·.2))) fun ρ' => wpT (fun _ => False) ifs ρ' fun b => if b = true then wpE (fun _ => False) e ρ' fun x => R (some x) else R none) l [] fun r => Q (.lst r)
  | .lck own tg it ifs e, ρ, Q => wpE X it ρ fun w => ∃ l, w = .dic l ∧ (dcEs T ifs + dcE T e = 0 ∨ (l.map fun kv => dK kv.1).length ≤ wkL) ∧ lcW (fun d R => setPt tg d (wipeD ρ (own.map (·.2))) fun ρ' => wpT (fun _ => False) ifs ρ' fun b => if b = true then wpE (fun _ => False) e ρ' fun x => R (some x) else R none) (l.map fun kv => dK kv.1) [] fun r => Q (.lst r)
  | .lc2 own tg it ifs vs1 tg1 it1 ifs1 e, ρ, Q => wpE X it ρ fun w => ∃ l, walkD w = some l ∧ (dcEs T ifs + (dcE T it1 + wkL * (dcEs T ifs1 + dcE T e)) = 0 ∨ l.length ≤ wkL) ∧ lcW2 (fun d acc R => setPt tg d (wipeD ρ (own.map (·.2))) fun ρ1 => wpT (fun _ => False) ifs ρ1 fun b => if b = true then wpE (fun _ => False) it1 ρ1 fun w => ∃ l, walkD w = some l ∧ (dcEs T ifs1 + dcE T e = 0 ∨ l.length ≤ wkL) ∧ lcW (fun d R => setPt tg1 d (wipeD ρ1 vs1) fun ρ' => wpT (fun _ => False) ifs1 ρ' fun b => if b = true then wpE (fun _ => False) e ρ' fun x => R (some x) else R none) l acc R else R acc) l [] fun r => Q (.lst r)
  | .dc own tg it ifs k v, ρ, Q => wpE X it ρ fun w => ∃ l, walkD w = some l ∧ (dcEs T ifs + (dcE T k + dcE T v) = 0 ∨ l.length ≤ wkL) ∧ dcW (fun d R => setPt tg d (wipeD ρ (own.map (·.2))) fun ρ' => wpT (fun _ => False) ifs ρ' fun b => if b = true then wpE (fun _ => False) k ρ' fun x => wpE (fun _ => False) v ρ' fun y => R (some (x, y)) else R none) l [] fun r => Q (.dic r)
  | .dnew t, _, Q => if t = true then Q (.dit []) else Q (.dic [])
  | .rng a, ρ, Q => wpE X a ρ fun x => ∃ n, x = .int n ∧ -(2 ^ 62) ≤ n ∧ n < 2 ^ 62 ∧ Q (.lst ((List.range n.toNat).map fun (k : Nat) => .int (0 + (k : Int))))
  | .rng2 a b, ρ, Q => wpE X a ρ fun x => wpE X b ρ fun y => ∃ i j, x = .int i ∧ y = .int j ∧ (-(2 ^ 62) ≤ i ∧ i < 2 ^ 62 ∧ -(2 ^ 62) ≤ j ∧ j < 2 ^ 62) ∧ Q (.lst ((List.range (j - i).toNat).map fun (k : Nat) => .int (i + (k : Int))))
  | .enum e, ρ, Q => wpE X e ρ fun d => match d with
    | .lst l => Q (.lst (l.zipIdx.map fun p => .tup [.int (p.2 : Int), p.1]))
    | .tup l => Q (.lst (l.zipIdx.map fun p => .tup [.int (p.2 : Int), p.1]))
    | _ => False
  | .zip a b, ρ, Q => wpE X a ρ fun x => wpE X b ρ fun y => match x, y with
    | .lst l, .lst m => Q (.lst ((l.zip m).map fun p => .tup [p.1, p.2]))
    | .tup l, .tup m => Q (.lst ((l.zip m).map fun p => .tup [p.1, p.2]))
    | _, _ => False
  | .items _, _, _ => False
  | .keys e, ρ, Q => wpE X e ρ fun d => match d with
    | .dic l => Q (.lst (l.map fun kv => dK kv.1))
    | _ => False
  | .vals _, _, _ => False
  | .newst e, ρ, Q => wpE X e ρ fun d => ∃ ns : List Int, d = .lst (ns.map .int) ∧ ns ≠ [] ∧ (∀ n ∈ ns, 0 ≤ n ∧ n < 1009) ∧ ns.length ≤ 4000 ∧ Q .st
def wpO (X : EK) : Option E → DE → (Option Int → Prop) → Prop
  | none, _, Q => Q none
  | some e, ρ, Q => wpE X e ρ fun d => ∃ i, d = .int i ∧ Q (some i)
def wpEs (X : EK) : List E → DE → (List D → Prop) → Prop
  | [], _, Q => Q []
  | .star e :: es, ρ, Q => wpE X e ρ fun d => ∃ l, (d = .tup l ∨ d = .lst l) ∧ wpEs X es ρ fun ds => Q (l ++ ds)
  | e :: es, ρ, Q => wpE X e ρ fun d => wpEs X es ρ fun ds => Q (d :: ds)
def wpAnd (X : EK) : List E → DE → DK → Prop
  | [], _, _ => False
  | [e], ρ, Q => wpE X e ρ Q
  | e :: es, ρ, Q => wpE X e ρ fun x => ∃ c, x = .bl c ∧ if c = true then wpAnd X es ρ Q else Q (.bl false)
def wpOr (X : EK) : List E → DE → DK → Prop
  | [], _, _ => False
  | [e], ρ, Q => wpE X e ρ Q
  | e :: es, ρ, Q => wpE X e ρ fun x => ∃ c, x = .bl c ∧ if c = true then Q (.bl true) else wpOr X es ρ Q
def wpT (X : EK) : List E → DE → (Bool → Prop) → Prop
  | [], _, Q => Q true
  | e :: es, ρ, Q => wpE X e ρ fun d => ∃ b, d = .bl b ∧ if b = true then wpT X es ρ Q else Q false
end
end
end DL

/-! DS: statements, and what they want -/
namespace DL
open PySem PySem.Spec PyProof.Rows L2

inductive S where
  | asg (i : Nat) (e : E)
  | own (i : Nat) (e : E)
  | move (i j : Nat)
  | asgT (tg : Pt) (e : E)
  | setL (i : Nat) (ix e : E)
  | par (i j : Nat) (a b : E)
  | setF (i : Nat) (c f : Str) (e : E)
  | setD (i : Nat) (k e : E)
  | app (i : Nat) (e : E)
  | ext (i : Nat) (e : E)
  | upd (i : Nat) (e : E)
  | iff (c : E) (a b : List S)
  | for (tg : Pt) (it : E) (b : List S)
  | while (c : E) (b : List S)
  | ret (e : E) | retn
  | raise (c : Str)
  | try (b : List S) (i : Nat)
  | expr (e : E) | brk | cont | pass

structure KD where
  nx : DE → Prop
  rt : DK
  bk : DE → Prop
  ct : DE → Prop
  xc : EK

def lend (it : E) (ρ : DE) : DE := match it with
  | .own i => ρ.set i none
  | _ => ρ
def forL (step : D → DE → KD → Prop) (K : KD) : List D → DE → Prop
  | [], ρ => K.nx ρ
  | d :: l, ρ => step d ρ { nx := forL step K l, rt := K.rt, bk := K.nx, ct := forL step K l, xc := K.xc }
def whileL (test : DE → (Bool → Prop) → Prop) (body : DE → KD → Prop) (K : KD) : Nat → DE → Prop
  | 0, _ => False
  | n + 1, ρ => test ρ fun b => if b = true then body ρ { nx := whileL test body K n, rt := K.rt, bk := K.nx, ct := whileL test body K n, xc := K.xc } else K.nx ρ
/-- what _law_error says -/
def errT (c : Str) : Option Str :=
  if c = "NotAllowed" then some "refused" else if c = "TooLarge" then some "large" else if c = "Missing" then some "missing" else if c = "BadPaper" then some "paper" else none
def mergeD {κ : Type} [DecidableEq κ] (l : List (κ × D)) : List (κ × D) → List (κ × D)
  | [] => l
  | (k, v) :: r => mergeD (putD l k v) r

section
variable (T : Tb)
mutual
/-- the cost in draws of a statement, at most -/
def dcS : S → Nat
  | .asg _ e => dcE T e
  | .own _ e => dcE T e
  | .asgT _ e => dcE T e
  | .setL _ ix e => dcE T e + dcE T ix
  | .par _ _ a b => dcE T a + dcE T b
  | .setF _ _ _ e => dcE T e
  | .setD _ k e => dcE T e + dcE T k
  | .app _ e => dcE T e
  | .ext _ e => dcE T e
  | .upd _ e => dcE T e
  | .iff c a b => dcE T c + (dcSs a + dcSs b)
  | .for _ it b => dcE T it + wkL * dcSs b
  | .while c b => 0
  | .ret e => dcE T e
  | .try b _ => dcSs b
  | .expr e => dcE T e
  | _ => 0
def dcSs : List S → Nat
  | [] => 0
  | s :: r => dcS s + dcSs r
end
end
/-- a dict's item put -/
def putX (x y d : D) (Q : DK) : Prop := match x with
  | .dic l => ∃ k, keyK y = some k ∧ l.length < sizeLine ∧ Q (.dic (putD l k d))
  | .dit l => ∃ k, keyT y = some k ∧ l.length < sizeLine ∧ Q (.dit (putD l k d))
  | _ => False
section
variable (T : Tb)
mutual
def wpS : S → DE → KD → Prop
  | .asg i e, ρ, K => wpE T K.xc e ρ fun d => K.nx (ρ.set i (some d))
  | .own i e, ρ, K => wpE T K.xc e ρ fun d => K.nx (ρ.set i (some d))
  | .move i j, ρ, K => ∃ d, ρ[j]? = some (some d) ∧ K.nx ((ρ.set j none).set i (some d))
  | .asgT tg e, ρ, K => wpE T K.xc e ρ fun d => setPt tg d ρ K.nx
  | .setL i ix e, ρ, K => ∃ l, ρ[i]? = some (some (.lst l)) ∧ wpE T K.xc e ρ fun d => wpE T K.xc ix ρ fun y => ∃ k j, y = .int k ∧ ixN l.length k = some j ∧ K.nx (ρ.set i (some (.lst (l.set j d))))
  | .par i j a b, ρ, K => wpE T K.xc a ρ fun x => wpE T K.xc b ρ fun y => K.nx ((ρ.set i (some x)).set j (some y))
  | .setF i c f e, ρ, K => ∃ l, ρ[i]? = some (some (.obj c l)) ∧ wpE T K.xc e ρ fun d => l.length < 1000 ∧ K.nx (ρ.set i (some (.obj c (putFD f d l))))
  | .setD i k e, ρ, K => ∃ x, ρ[i]? = some (some x) ∧ wpE T K.xc e ρ fun d => wpE T K.xc k ρ fun y => putX x y d fun x' => K.nx (ρ.set i (some x'))
  | .app i e, ρ, K => ∃ l, ρ[i]? = some (some (.lst l)) ∧ wpE T K.xc e ρ fun d => l.length < sizeLine ∧ K.nx (ρ.set i (some (.lst (l ++ [d]))))
  | .ext i e, ρ, K => ∃ l, ρ[i]? = some (some (.lst l)) ∧ wpE T K.xc e ρ fun d => ∃ m, d = .lst m ∧ l.length + m.length ≤ sizeLine ∧ K.nx (ρ.set i (some (.lst (l ++ m))))
  | .upd i e, ρ, K => ∃ l, ρ[i]? = some (some (.dic l)) ∧ wpE T K.xc e ρ fun d => ∃ m, d = .dic m ∧ l.length + m.length ≤ 4000 ∧ K.nx (ρ.set i (some (.dic (mergeD l m))))
  | .iff c a b, ρ, K => wpE T K.xc c ρ fun d => ∃ k, d = .bl k ∧ if k = true then wpSs a ρ K else wpSs b ρ K
  | .for tg it b, ρ, K => wpE T K.xc it ρ fun w => ∃ l, walkD w = some l ∧ (dcSs T b = 0 ∨ l.length ≤ wkL) ∧ forL (fun d ρ K => setPt tg d ρ fun ρ' => wpSs b ρ' K) K l (lend it ρ)
  | .while c b, ρ, K => ∃ n, whileL (fun ρ Q => wpE T K.xc c ρ fun d => ∃ k, d = .bl k ∧ Q k) (fun ρ K => wpSs b ρ K) K n ρ
  | .ret e, ρ, K => wpE T K.xc e ρ K.rt
  | .retn, _, K => K.rt .non
  | .raise c, _, K => K.xc ⟨c, none⟩
  | .try b _, ρ, K => wpSs b ρ { K with xc := fun x => x.line = none ∧ ∃ t, errT x.cls = some t ∧ K.rt (.str t) }
  | .expr e, ρ, K => wpE T K.xc e ρ fun _ => K.nx ρ
  | .brk, ρ, K => K.bk ρ
  | .cont, ρ, K => K.ct ρ
  | .pass, ρ, K => K.nx ρ
def wpSs : List S → DE → KD → Prop
  | [], ρ, K => K.nx ρ
  | s :: r, ρ, K => wpS s ρ { K with nx := fun ρ' => wpSs r ρ' K }
end
/-- a def's body, from its arguments -/
def wpF (n : Nat) (b : List S) (ds : List D) (Q : DK) (X : EK) : Prop :=
  wpSs T b (ds.map some ++ List.replicate (n - ds.length) none) { nx := fun _ => Q .non, rt := Q, bk := fun _ => False, ct := fun _ => False, xc := X }
end
end DL

/-! DC: the checker (does the text match?), the frame, the readings -/
namespace DL
open PySem PySem.Spec PyProof.Rows L2

/-! ### the checker -/
def visB (sc : Scope) (x : Str) : Bool := match sc.names.lookup x with
  | some .local => true
  | some .cell => true
  | some .free => true
  | _ => false
def locB (sc : Scope) (x : Str) : Bool := match sc.names.lookup x with
  | some .local => true
  | some .cell => true
  | _ => false
def okNm (x : Str) : Bool := (!(x == ("__debug__" : Str))) && !(x == ("__classdict__" : Str))
def glB (sc : Scope) (x : Str) : Bool := decide (sc.names.lookup x = some .globalImplicit) && (decide (x ≠ "__debug__") && decide (x ≠ "__name__"))
def conB : D → Const → Bool
  | .non, .none => true
  | .bl b, .bool c => b == c
  | .int i, .int j => decide (i = j)
  | .str x, .str y => decide (x = y)
  | _, _ => false
def bfName : BF → Str
  | .len => "len" | .all => "all" | .any => "any" | .sum => "sum" | .max => "max" | .min => "min" | .max2 => "max" | .min2 => "min"
  | .abs => "abs" | .int => "int" | .str => "str" | .repr => "repr" | .sorted => "sorted" | .list => "list" | .tuple => "tuple"
def bfOk (_ : BF) : Bool := true
/-- what comes in a subscript -/
def noSlice : Expr → Bool
  | .Slice _ _ _ _ => false
  | .Tuple _ _ _ => true
  | .Constant _ _ _ => true
  | _ => true
def noSet : Expr → Bool
  | .Set _ _ _ => false
  | _ => true
def noCall : Expr → Bool
  | .Call _ _ _ _ => false
  | _ => true
def noStar : Expr → Bool
  | .Starred _ _ => false
  | _ => true
def recvE : Expr → Bool
  | .Name _ _ => true
  | .Call (.Name _ _) (_ :: _) _ _ => true
  | _ => false
def nameE : Expr → Bool
  | .Name _ _ => true
  | _ => false
def newB : E → Bool
  | .lst _ => true
  | .binN _ _ _ => true
  | .lc _ _ _ _ _ => true
  | .dc _ _ _ _ _ _ => true
  | .lck _ _ _ _ _ => true
  | .lc2 _ _ _ _ _ _ _ _ _ => true
  | .dnew _ => true
  | _ => false
def isLck : E → Bool
  | .lck _ _ _ _ _ => true
  | _ => false
/-- a name that is stored: slot i, not an own one, of those that vs allows -/
def mNm (N : List Str) (ow : List Nat) (vs : Option (Scope × List Nat)) (sc : Scope) (i : Nat) (x : Str) : Bool := decide (N[i]? = some x) && (locB sc x && (!ow.contains i && (match vs with
  | none => true
  | some (s0, l) => l.contains i && (decide (s0.names.lookup x = some .cell) || decide (sc.names.lookup x = some .local)))))
def mPts (N : List Str) (ow : List Nat) (vs : Option (Scope × List Nat)) (sc : Scope) : List Nat → List Expr → Bool
  | [], [] => true
  | i :: is, .Name x _ :: es => mNm N ow vs sc i x && mPts N ow vs sc is es
  | _, _ => false
def mPt (N : List Str) (ow : List Nat) (vs : Option (Scope × List Nat)) (sc : Scope) : Pt → Expr → Bool
  | .one i, .Name x _ => mNm N ow vs sc i x
  | .many is, .Tuple es _ _ => mPts N ow vs sc is es
  | _, _ => false
/-- how a piece is read: as a value, as a test, as what is walked -/
inductive Md where
  | val | tst | itr
  deriving DecidableEq
def tupT : E → Expr → Bool
  | .enum _, .Tuple _ _ _ => true
  | .zip _ _, .Tuple _ _ _ => true
  | .items _, .Tuple _ _ _ => true
  | .enum _, _ => false
  | .zip _ _, _ => false
  | .items _, _ => false
  | _, _ => true
section
variable (T : Tb) (N : List Str) (ow : List Nat)
mutual
def mE : Md → Scope → E → Expr → Bool
  | _, sc, .var i, .Name x _ => decide (N[i]? = some x) && (visB sc x && (okNm x && !ow.contains i))
  | _, sc, .own i, .Name x _ => decide (N[i]? = some x) && (visB sc x && (okNm x && ow.contains i))
  | _, _, .con d, .Constant c _ _ => conB d c
  | _, sc, .glob x, .Name y _ => decide (x = y) && glB sc x
  | _, sc, .tup es, .Tuple xs _ _ => es.all (fun e => !ownB e) && mEs .val sc es xs
  | _, sc, .lst es, .List xs _ => es.all (fun e => !ownB e) && mEs .val sc es xs
  | _, sc, .newst e, .List [x, .Constant (.int 0) _ _] _ => !ownB e && (noStar x && mE .val sc e x)
  | _, sc, .lrng a, .Call (.Name x _) [.Call (.Name y _) [z] [] _] [] _ => decide (x = "list") && (decide (y = "range") && (glB sc x && (glB sc y && (noStar z && mE .val sc a z))))
  | _, sc, .lenset a, .Call (.Name x _) [.Call (.Name y _) [z] [] _] [] _ => decide (x = "len") && (decide (y = "set") && (glB sc x && (glB sc y && (noStar z && mE .val sc a z))))
  | _, sc, .dictzip a b, .Call (.Name x _) [.Call (.Name y _) [z, u] [] _] [] _ => decide (x = "dict") && (decide (y = "zip") && (glB sc x && (glB sc y && (noStar z && (noStar u && (mE .val sc a z && mE .val sc b u))))))
  | _, sc, .bin op a b, .BinOp x op' y _ => decide (op = op') && (mE .val sc a x && mE .val sc b y)
  | _, sc, .binN op a b, .BinOp x op' y _ => decide (op = op') && (mE .val sc a x && mE .val sc b y)
  | _, sc, .neg a, .UnaryOp .USub x _ => mE .val sc a x
  | _, sc, .inv a, .UnaryOp .Invert x _ => mE .val sc a x
  | _, sc, .bm .index o es, .Call (.Attribute x m ap) [y] [] cp => decide (m = "index") && ((ap.endLine == cp.line) && (noStar y && (noCall x && (mE .val sc o x && mEs .val sc es [y]))))
  | _, sc, .pick c es, .Call (.Subscript o i p) xs [] _ => decide (1 ≤ xs.length) && (xs.all noStar && (mE .val sc c (.Subscript o i p) && mEs .val sc es xs))
  | _, sc, .rev a, .Subscript x (.Slice none none (some (.UnaryOp .USub (.Constant (.int 1) _ _) _)) _) _ => mE .val sc a x
  | _, sc, .cmp op a b, .Compare x [op'] [y] _ => decide (op = op') && (decide (op ≠ .In) && (decide (op ≠ .NotIn) && (mE .val sc a x && mE .val sc b y)))
  | _, sc, .chain o1 o2 a b c, .Compare x [p1, p2] [y, z] _ => decide (o1 = p1) && (decide (o2 = p2) && (decide (o2 ≠ .In) && (decide (o2 ≠ .NotIn) && (mE .val sc a x && (mE .val sc b y && mE .val sc c z)))))
  | _, sc, .inn neg a b, .Compare x [op] [y] _ => decide (op = if neg then .NotIn else .In) && (!behindInMarks op y && (mE .val sc a x && mE .val sc b y))
  | _, sc, .din neg a b, .Compare x [op] [y] _ => decide (op = if neg then .NotIn else .In) && (!behindInMarks op y && (mE .val sc a x && mE .val sc b y))
  | _, sc, .isn neg a, .Compare x [op] [.Constant .none _ _] _ => decide (op = if neg then .IsNot else .Is) && mE .val sc a x
  | md, sc, .and es, .BoolOp .And xs _ => decide (md ≠ .itr) && (es.all (fun e => !ownB e) && (xs.all noStar && (mEs md sc es xs && decide (1 ≤ xs.length))))
  | md, sc, .or es, .BoolOp .Or xs _ => decide (md ≠ .itr) && (es.all (fun e => !ownB e) && (xs.all noStar && (mEs md sc es xs && decide (1 ≤ xs.length))))
  | md, sc, .not a, .UnaryOp .Not x _ => decide (md ≠ .itr) && mE md sc a x
  | md, sc, .ite c a b, .IfExp z x y _ => decide (md = .val) && (!ownB a && (!ownB b && (mE .tst sc c z && (mE .val sc a x && mE .val sc b y))))
  | _, sc, .sub a i, .Subscript x y _ => noSlice y && (mE .val sc a x && mE .val sc i y)
  | _, sc, .dget a i, .Subscript x y _ => noSlice y && (mE .val sc a x && mE .val sc i y)
  | _, sc, .tget t i d, .Call (.Attribute (.Name x _) g ap) [y, z] [] cp => (ap.endLine == cp.line) && (decide (x = t) && (decide (g = "get") && (glB sc x && ((T.tab t).isSome && (noStar y && (noStar z && (!ownB d && (mE .val sc i y && mE .val sc d z))))))))
  | _, sc, .slice a lo hi, .Subscript x (.Slice l h none _) _ => mE .val sc a x && (mO sc lo l && mO sc hi h)
  | _, sc, .blt f es, .Call (.Name x _) xs [] _ => bfOk f && (decide (x = bfName f) && (glB sc x && (decide (1 ≤ xs.length) && (xs.all noStar && mEs .val sc es xs))))
  | _, sc, .call f es, .Call (.Name x _) xs [] _ => decide (x = f) && (glB sc x && (decide (1 ≤ xs.length) && (xs.all noStar && ((T.fn f).isSome && mEs .val sc es xs))))
  | _, sc, .attr c f o, .Attribute x g _ => decide (f = g) && (nameE x && (T.fld c f && mE .val sc o x))
  | _, sc, .meth c m o es, .Call (.Attribute x g ap) xs [] cp => ((ap.endLine == cp.line) && decide (xs.length < 30)) && (decide (m = g) && (recvE x && (xs.all noStar && ((T.meth c m).isSome && (mE .val sc o x && mEs .val sc es xs)))))
  | _, sc, .mk c es, .Call (.Name x _) xs [] _ => decide (x = c) && (glB sc x && (decide (1 ≤ xs.length) && (xs.all noStar && (es.all (fun e => !ownB e) && ((T.new c).isSome && mEs .val sc es xs)))))
  | _, sc, .lc own tg it ifs e, .ListComp x [⟨t, i, cs, 0⟩] scope _ => !ownB e && (noSet i && (tupT it t && (blkC N sc scope own && (own.all (fun p => !ow.contains p.2) && (mE .itr sc it i && (mPt N ow (some (scope, own.map (·.2))) (relS scope sc) tg t && (decide (cs.length ≤ 1) && (cs.all noStar && (mEs .tst (relS scope sc) ifs cs && mE .val (relS scope sc) e x)))))))))
  | _, sc, .lck own tg it ifs e, .ListComp x [⟨t, i, cs, 0⟩] scope _ => !ownB e && (noSet i && (!ownB it && (blkC N sc scope own && (own.all (fun p => !ow.contains p.2) && (mE .val sc it i && (mPt N ow (some (scope, own.map (·.2))) (relS scope sc) tg t && (decide (cs.length ≤ 1) && (cs.all noStar && (mEs .tst (relS scope sc) ifs cs && mE .val (relS scope sc) e x)))))))))
  | _, sc, .lc2 own tg it ifs vs1 tg1 it1 ifs1 e, .ListComp x [⟨t, i, cs, 0⟩, ⟨t1, i1, cs1, 0⟩] scope _ => !ownB e && (noSet i && (noSet i1 && (tupT it t && (tupT it1 t1 && (blkC N sc scope own && (own.all (fun p => !ow.contains p.2) && (vs1.all (fun j => (own.map (·.2)).contains j) && (!ownS it1 && (mE .itr sc it i && (mPt N ow (some (scope, own.map (·.2))) (relS scope sc) tg t && (mE .itr (relS scope sc) it1 i1 && (mPt N ow (some (scope, vs1)) (relS scope sc) tg1 t1 && (decide (cs.length ≤ 1) && (cs.all noStar && (decide (cs1.length ≤ 1) && (cs1.all noStar && (mEs .tst (relS scope sc) ifs cs && (mEs .tst (relS scope sc) ifs1 cs1 && mE .val (relS scope sc) e x))))))))))))))))))
  | _, sc, .dc own tg it ifs k v, .DictComp y x [⟨t, i, cs, 0⟩] scope _ => !ownB k && (!ownB v && (noSet i && (tupT it t && (blkC N sc scope own && (own.all (fun p => !ow.contains p.2) && (mE .itr sc it i && (mPt N ow (some (scope, own.map (·.2))) (relS scope sc) tg t && (decide (cs.length ≤ 1) && (cs.all noStar && (mEs .tst (relS scope sc) ifs cs && (mE .val (relS scope sc) k y && mE .val (relS scope sc) v x)))))))))))
  | _, _, .dnew _, .Dict [] [] _ => true
  | md, sc, .rng a, .Call (.Name x _) [y] [] _ => decide (md = .itr) && (decide (x = "range") && (glB sc x && (noStar y && mE .val sc a y)))
  | md, sc, .rng2 a b, .Call (.Name x _) [y, z] [] _ => decide (md = .itr) && (decide (x = "range") && (glB sc x && (noStar y && (noStar z && (mE .val sc a y && mE .val sc b z)))))
  | md, sc, .enum a, .Call (.Name x _) [y] [] _ => decide (md = .itr) && (decide (x = "enumerate") && (glB sc x && (noStar y && (!ownB a && mE .val sc a y))))
  | md, sc, .zip a b, .Call (.Name x _) [y, z] [] _ => decide (md = .itr) && (decide (x = "zip") && (glB sc x && (noStar y && (noStar z && (!ownB a && (!ownB b && (mE .val sc a y && mE .val sc b z)))))))
  | _, _, _, _ => false
def mEs : Md → Scope → List E → List Expr → Bool
  | _, _, [], [] => true
  | md, sc, .star e :: es, .Starred x _ :: xs => mE md sc e x && mEs md sc es xs
  | md, sc, e :: es, x :: xs => noStar x && (mE md sc e x && mEs md sc es xs)
  | _, _, _, _ => false
def mO : Scope → Option E → Option Expr → Bool
  | _, none, none => true
  | sc, some e, some x => mE .val sc e x
  | _, _, _ => false
end
end
end DL

/-! DG: what a def promises where no repr is under way; its call; the law's own call -/
namespace DL
open PySem PySem.Spec PyProof.Rows L2 Evl

/-- as FnOk, where no repr is under way -/
structure FnG (P : Program) (w : World) (K : PySem.W.Frag) (mg : Str → Option Value) (base : Heap) (k : Nat) (f : Addr) (fd : FuncData) (ps : List Str) (sp : Sp) : Prop where
  len : ∀ vs H Q E, sp vs H Q E → vs.length = ps.length
  run : ∀ (A : Around) (outer : List PySem.Env) (s : Shared) (H : Hp) (args : Args) (us : List Value) (vs : List V) (Q : VK) (E : XK), Room k A → A.guards = some [] → Env0 P w K mg base A outer s H →
    BindsTo s fd args (ps.zip us) → Vals vs us → sp vs H Q E → codeAny (model P w) A (.call (.ref f) args) (CR (L2N.CX P w) outer P w H s Q E) s
section
variable {P : Program} {w : World} {K : PySem.W.Frag} {mg : Str → Option Value} {base : Heap} {j k : Nat} {f : Addr} {fd : FuncData} {ps : List Str} {sp sp' : Sp}
theorem FnG.of (F : FnOk P w K mg base (L2N.CX P w) k f fd ps sp) : FnG P w K mg base k f fd ps sp := ⟨F.len, fun A outer s H args us vs Q E hr _ e0 => F.run A outer s H args us vs Q E hr e0⟩
theorem FnG.mono (F : FnG P w K mg base j f fd ps sp) (h : j ≤ k) : FnG P w K mg base k f fd ps sp := ⟨F.len, fun A outer s H args us vs Q E hr => F.run A outer s H args us vs Q E (hr.mono h)⟩
theorem FnG.imp (F : FnG P w K mg base k f fd ps sp) (h : ∀ vs H Q E, sp' vs H Q E → sp vs H Q E) : FnG P w K mg base k f fd ps sp' :=
  ⟨fun vs H Q E q => F.len vs H Q E (h _ _ _ _ q), fun A outer s H args us vs Q E hr hg he hb hv hs => F.run A outer s H args us vs Q E hr hg he hb hv (h _ _ _ _ hs)⟩
/-- by its body -/
theorem FnG.body {x qual : Str} {params : Arguments} {body : List Stmt} {scope : Scope} {kws : List (Str × V)} {N : List Str} (F : FunD K x qual params body scope [] kws f fd) (S : FnScope N ps scope) (len : ∀ vs H Q E, sp vs H Q E → vs.length = ps.length)
    (hbody : ∀ (cdv : Value) (A : Around) (outer : List PySem.Env) (s : Shared) (H : Hp) (vs : List V) (Q : VK) (E : XK), Room k (A.deeper (envOfC qual scope s.heap.objs.size f cdv)) → A.guards = some [] → sp vs H Q E →
      ∃ t, PSs (cxOf (L2N.CX P w) P w K mg base N qual scope f cdv A outer s H E) body t ∧ t { nx := fun _ H' => Q .non H', rt := Q } (start N vs) H) : FnG P w K mg base (k + 1) f fd ps sp := by
  obtain ⟨oc, od, dV, kV, doc, pm, an, cdv, ct, osl, rfl, lk, hcd, _, _⟩ := F.ex
  refine ⟨len, fun A outer s H args us vs Q E hr hg e0 hb rv hs => ?_⟩
  have hk := e0.mod.kin.keeps fun b o e => (e0.bs b o e).1
  have hp : ∀ y ∈ ps.zip us, scope.names.lookup y.1 = some .local ∨ (scope.names.lookup y.1 = some .cell ∧ ((cellsFrom (s.heap.objs.size + 1) scope.names []).lookup y.1).isSome = true) := by
    intro y hy
    obtain ⟨z, u⟩ := y
    have hz := S.par z (List.of_mem_zip hy).1
    exact hz.imp id fun q => ⟨q, PySem.W.cellsFrom_some _ _ _ (.inl q)⟩
  refine codeAny_call_function hr.depth (hk _ _ lk) rfl S.co S.gen rfl (PySem.W.codeRec_of hk hcd) (hb _ _ _ _ (wpAny_newFunctionEnv_cells S.kind hp fun env he s1 ic => ?_))
  subst he
  obtain ⟨t, ht, hq⟩ := hbody cdv A outer s H vs Q E (hr.deeper _) hg hs
  have I := inv_start (CX := L2N.CX P w) (E := E) S hr.hd e0 (len _ _ _ _ hs) rv ic
  refine ⟨(e0.mod.nolimit.keeps fun b o e => (e0.bs b o e).1).keeps ic.toInCall.keep, codeAny_func (wpAny_mono (ht.run [] s1 (start N vs) H _ I hq) (fun fl s' hf => ?_) fun _ _ z => z)⟩
  cases fl with
  | next =>
    obtain ⟨σ', H', J, q⟩ := hf
    exact ⟨.non, H', J.os, J.bare, J.base, J.hok, rfl, q⟩
  | brk =>
    obtain ⟨_, _, _, q⟩ := hf
    exact q.elim
  | cont =>
    obtain ⟨_, _, _, q⟩ := hf
    exact q.elim
  | ret u =>
    obtain ⟨v, σ', H', J, r, q⟩ := hf
    exact ⟨v, H', J.os, J.bare, J.base, J.hok, r, q⟩
end

section
variable {X : Cx} {k : Nat} {f : Addr} {fd : FuncData} {ps : List Str} {sp : Sp} {E : L2.St → XK} {x : Str} {p pos : Pos} {e : Expr} {es : List Expr} {t : TA}
theorem runG {pins : List (Addr × Obj)} {σ : L2.St} {H : Hp} {s : Shared} {Q : VK} {us : List Value} {vs : List V} (F : FnG X.prog X.w X.K X.mg X.base k f fd ps sp) (hr : Room k X.A) (hg : X.A.guards = some []) (hb : Binds X.K fd ps [])
    (hx : PassesAt (L2N.CX X.prog X.w) X σ (E σ)) (I : Inv X pins σ H s) (r : Vals vs us) (h : sp vs H Q (E σ)) : wpAny (model X.prog X.w) X.A (call (.ref f) us) (EP X pins σ Q) X.xe s := by
  have hl : (us ++ ([] : List Value)).length = ps.length := by
    rw [List.append_nil, ← r.length]
    exact F.len _ _ _ _ h
  have b := hb s us I.kIn hl
  rw [List.append_nil] at b
  refine wpAny_call (codeAny_mono (F.run X.A X.stack s H ⟨us, []⟩ us vs Q (E σ) hr hg I.env0 b r h) fun q s' hq => ?_)
  match q, hq with
  | .error e, hq => exact hx pins H s e s' I hq
  | .ok (.ret u), hq => exact I.after hq
theorem pe_callG (F : FnG X.prog X.w X.K X.mg X.base k f fd ps sp) (hr : Room k X.A) (hgu : X.A.guards = some []) (hg : Gl X x) (hm : X.mg x = some (.ref f)) (hk : PySem.W.keepIn X.K (.ref f) = true) (hb : Binds X.K fd ps [])
    (hx : ∀ σ, PassesAt (L2N.CX X.prog X.w) X σ (E σ)) (ha : PA X (e :: es) t) (hdb : (x == ("__debug__" : Str)) = false) (he : starEach (e :: es) X.env = (false, eval e X.env) :: starEach es X.env)
    (hpl : (backTo pos (starEach es X.env)).any (·.1) = false) : PE X (.Call (.Name x p) (e :: es) [] pos) (tCallS sp E t) :=
  ⟨fun pins s σ H Q I h => wpAny_Call_Name_kw (ld_glob I hg hm (PySem.W.callWith_K (h₀ := X.base) I.ok.mod.kin hk (thn (ha.run pos pins s σ H _ I h) fun us s1 ⟨vs, H1, I1, r, q⟩ =>
    ⟨I1.kIn, runG F hr hgu hb (hx σ) I1 r q⟩) he hpl) hdb)⟩
end

/-! ### the law's own call -/
/-- the script at a: told and locked, or an object of the module's own -/
def ScrAt (K : PySem.W.Frag) (H : Hp) (a : Addr) (ns : List Int) : Prop := (∃ o, H a = some (.frz o (.lst (ns.map V.int)))) ∨ ∀ G, SqL K G a (ns.map V.int)
theorem callLaw {P : Program} {w : World} {K : PySem.W.Frag} {mg mb : Str → Option Value} {k : Nat} {fa a : Addr} {fd : FuncData} {x : Str} {sp : Sp} {s₁ : Shared} {vs : List Value} {ns : List Int}
    (KX : K.In s₁.heap) (hns : s₁.heap.Ns mainGlobals mg) (hb : s₁.heap.Ns builtinsNs mb) (hbb : ∀ x : Str, x ≠ "__name__" → mb x = bootBuiltins x) (hlim : s₁.heap.NoLimit) (hg : s₁.gens = #[])
    (ha : s₁.heap.get? a = some { cls := .type "list", data := .seq vs.toArray }) (hi : IntsAre vs ns) (hl : ns.length ≤ sizeLine) (hr : Room k callerA)
    (F : ∀ base : Heap, K.In base → base.Ns mainGlobals mg → FnG P w K mg base k fa fd [x] sp) (hbind : ∀ (s : Shared) (u : Value), BindsTo s fd ⟨[u], []⟩ [(x, u)])
    (hsp : ∀ H : Hp, (∀ b u, H b = some u → isX u = false) → ScrAt K H a ns → sp [.ref a] H (fun v _ => v = .bl true) fun _ _ _ => False)
    (hCX : ∀ H e s', L2N.CX P w [] H s₁ (fun _ _ _ => False) e s' → False) :
    codeAny (model P w) callerA (.call (.ref fa) ⟨[.ref a], []⟩) (fun r s' => r = .ok (.ret (.bool true)) ∧ OldK s₁.heap s'.heap ∧ s'.os = s₁.os ∧ AllBare s'.gens) s₁ := by
  obtain ⟨H, hHb, hHk, hHa, hsc, hok⟩ : ∃ H : Hp, (∀ b, b ≠ a → H b = none) ∧ (H a ≠ none → K.lookup a = none) ∧ (H a = none ∨ ∃ xs, H a = some (.frz { cls := .type "list", data := .seq vs.toArray } xs)) ∧ ScrAt K H a ns ∧ HOk P w H s₁.heap := by
    cases hk : K.lookup a with
    | some o =>
      have e := KX a o hk
      rw [ha] at e
      cases e
      refine ⟨fun _ => none, fun _ _ => rfl, fun z => absurd rfl z, .inl rfl, .inr fun G => .inr ⟨_, vs.toArray, _, hk, rfl, rfl, rfl, ?_, ?_⟩, fun b u z => by cases z⟩
      · rw [List.size_toArray, hi.length]
        exact hl
      · simpa using vals_ints hi
    | none =>
      refine ⟨fun b => if b = a then some (.frz { cls := .type "list", data := .seq vs.toArray } (.lst (ns.map V.int))) else none, fun b h => if_neg h, fun _ => rfl, .inr ⟨_, if_pos rfl⟩, .inl ⟨_, if_pos rfl⟩, fun b u z => ?_⟩
      by_cases eb : b = a
      · subst eb
        have z' := (if_pos rfl).symm.trans z
        cases z'
        exact ⟨ha, by rw [List.length_map]; exact hl, vs, _, vals_ints hi, ha⟩
      · have z' := (if_neg eb).symm.trans z
        cases z'
  have off : ∀ {b : Addr} {o : Obj}, s₁.heap.get? b = some o → H b = none → (hidT s₁.heap H).get? b = some o := fun e n => hidT_get e n
  have nd : ∀ {b : Addr} {m : Str → Option Value}, s₁.heap.Ns b m → (hidT s₁.heap H).Ns b m := fun {b m} h => by
    obtain ⟨o, es, ep, e, d, r⟩ := h
    refine ⟨o, es, ep, off e (hHb b fun z => ?_), d, r⟩
    rw [z, ha] at e
    cases e
    cases d
  have kb : K.In (hidT s₁.heap H) := fun b o e => off (KX b o e) (by
    by_cases eb : b = a
    · subst eb
      refine Classical.byContradiction fun n => ?_
      rw [hHk n] at e
      cases e
    · exact hHb b eb)
  have nl : (hidT s₁.heap H).NoLimit := by
    obtain ⟨mc, h1, h2⟩ := hlim
    exact ⟨mc, nd h1, h2⟩
  have noF : ∀ b : Addr, b ∉ frs ([] : List PySem.Env) := fun b z => absurd (show b ∈ ([] : List Addr) from z) List.not_mem_nil
  have e0 : Env0 P w K mg (hidT s₁.heap H) callerA [] s₁ H := ⟨rfl, ⟨kb, nd hns, ⟨mb, nd hb, hbb⟩, nl⟩, fun b o e => of_hidT e, Nat.le_of_eq (hidT_size _ _), trivial, fun b z => absurd z (noF b), hok, .of_eq hg⟩
  refine codeAny_mono ((F _ kb (nd hns)).run callerA [] s₁ H ⟨[.ref a], []⟩ [.ref a] [.ref a] _ _ hr rfl e0 (hbind s₁ (.ref a)) (.cons rfl .nil) (hsp H (fun b u e => ?_) hsc)) fun r s' h => ?_
  · by_cases eb : b = a
    · subst eb
      rcases hHa with z | ⟨xs, z⟩ <;> rw [z] at e <;> cases e
      rfl
    · rw [hHb b eb] at e
      cases e
  match r, h with
  | .error e, h => exact (hCX H e s' h).elim
  | .ok (.ret u), h =>
    obtain ⟨v, H', os, bare, un, hok', rv, q⟩ := h
    cases (show v = .bl true from q)
    cases (show u = Value.bool true from rv)
    refine ⟨rfl, OldK.of_keep fun b o e => ?_, os, bare⟩
    cases hb : H b with
    | none => exact un.keep b o e hb (noF b) List.not_mem_nil
    | some z =>
      have eb : b = a := Classical.byContradiction fun n => by
        rw [hHb b n] at hb
        cases hb
      subst eb
      rcases hHa with n | ⟨xs, n⟩
      · rw [n] at hb
        cases hb
      · have q := (hok' b _ (un.frzs b _ _ n)).1
        rw [ha] at e
        cases e
        exact q
end DL

/-! DD: the frame, the readings, the promise of a def -/
namespace DL
open PySem PySem.Spec PyProof.Rows L2 Evl

/-- the counters of the drawing states are at most c -/
def Cnt (H : Hp) (c : Nat) : Prop := ∀ a s n, H a = some (StO a s n) → n ≤ c
def big : Nat := 2 ^ 1000
/-- room for δ draws -/
def Rm (H : Hp) (δ : Nat) : Prop := ∃ c, Cnt H c ∧ c + δ ≤ big
/-- old things stay, at most δ draws -/
structure Ex (δ : Nat) (H H' : Hp) : Prop where
  kp : ∀ b o, H b = some o → H' b = some o ∨ Std b o (H' b)
  ct : ∀ c, Cnt H c → Cnt H' (c + δ)
theorem Ex.refl (H : Hp) : Ex 0 H H := ⟨fun _ _ h => .inl h, fun _ h => h⟩
theorem Ex.trans {H H1 H2 : Hp} {i j : Nat} (a : Ex i H H1) (b : Ex j H1 H2) : Ex (i + j) H H2 := by
  refine ⟨fun x o h => ?_, fun c h => ?_⟩
  · rcases a.kp x o h with q | ⟨s, n, n', rfl, q⟩
    · exact b.kp x o q
    · rcases b.kp x _ q with q' | ⟨s', m, m', e, q'⟩
      · exact .inr ⟨s, n, n', rfl, q'⟩
      · obtain ⟨rfl, rfl⟩ := sto_inj e rfl
        exact .inr ⟨s, n, m', rfl, q'⟩
  · rw [← Nat.add_assoc]
    exact b.ct _ (a.ct c h)
theorem Ex.le {H H1 : Hp} {i j : Nat} (a : Ex i H H1) (h : i ≤ j) : Ex j H H1 := ⟨a.kp, fun c q x s n e => Nat.le_trans (a.ct c q x s n e) (Nat.add_le_add_left h c)⟩
theorem Ex.any {H H1 : Hp} {j : Nat} (a : Ex 0 H H1) : Ex j H H1 := a.le (Nat.zero_le j)
theorem Ex.new {H : Hp} {p : Addr} {o : HO} (h : H p = none) (hx : isX o = false := by rfl) : Ex 0 H (upd H p o) := by
  refine ⟨fun b u e => .inl ?_, fun c q a s n e => ?_⟩
  · rw [upd_ne (ne_of_none e h)]
    exact e
  · by_cases z : a = p
    · subst z
      rw [upd_same] at e
      cases e
      cases hx
    · rw [upd_ne z] at e
      exact q a s n e
theorem Ex.at {H H1 : Hp} {i : Nat} (a : Ex i H H1) {b : Addr} {o : HO} (h : H b = some o) (hx : isX o = false) : H1 b = some o := (a.kp b o h).resolve_right fun z => z.not hx
theorem Ex.mt {H H1 : Hp} {i : Nat} (a : Ex i H H1) {b : Addr} {o : HO} (h : H b = some o) : ∃ o', H1 b = some o' ∧ (o' = o ∨ isX o' = true) := by
  rcases a.kp b o h with q | ⟨s, n, n', rfl, q⟩
  · exact ⟨o, q, .inl rfl⟩
  · exact ⟨_, q, .inr rfl⟩
theorem Ex.none {H H1 : Hp} {i : Nat} (a : Ex i H H1) {p : Addr} (h : H1 p = none) : H p = none := by
  cases q : H p with
  | none => rfl
  | some o =>
    obtain ⟨o', z, _⟩ := a.mt q
    rw [z] at h
    cases h
theorem Rm.le {H : Hp} {i j : Nat} (r : Rm H j) (h : i ≤ j) : Rm H i := let ⟨c, q, l⟩ := r; ⟨c, q, by omega⟩
theorem Rm.l {H : Hp} {i j : Nat} (r : Rm H (i + j)) : Rm H i := r.le (Nat.le_add_right i j)
theorem Rm.ex {H H1 : Hp} {i j : Nat} (r : Rm H (i + j)) (e : Ex i H H1) : Rm H1 j := let ⟨c, q, l⟩ := r; ⟨c + i, e.ct c q, by omega⟩
theorem Rm.ex0 {H H1 : Hp} {j : Nat} (r : Rm H j) (e : Ex 0 H H1) : Rm H1 j := let ⟨c, q, l⟩ := r; ⟨c, e.ct c q, l⟩
abbrev U (B O : AP) : AP := fun a => B a ∨ O a
def noA : AP := fun _ => False
section
variable (K : PySem.W.Frag)
/-- an object of one's own: what it holds does not lean on what may change -/
def OwnAt (A : AP) (H : Hp) (a : Addr) : D → Prop
  | .lst l => ∃ vs, H a = some (.lst vs) ∧ RepL K A H l vs
  | .dic l => ∃ vs, H a = some (.dK vs) ∧ RepK K A H l vs
  | .dit l => ∃ vs, H a = some (.dT vs) ∧ RepT K A H l vs
  | .obj c l => ∃ dx fs, H a = some (.ins (He.ga K c) dx fs) ∧ RepF K A H l fs
  | _ => False
def RepB (A : AP) (H : Hp) (d : D) (v : V) : Prop := Rep K A H d v ∨ ∃ a, v = .ref a ∧ OwnAt K A H a d
def RepBL (A : AP) (H : Hp) : List D → List V → Prop
  | [], vs => vs = []
  | d :: l, vs => ∃ v r, vs = v :: r ∧ RepB K A H d v ∧ RepBL A H l r
def NewAt (A : AP) (H H' : Hp) (d : D) (v : V) : Prop := ∃ a, v = .ref a ∧ H a = none ∧ OwnAt K (U A (· = a)) H' a d
/-- what a value of e is known to be; H the heap ahead of it -/
def Res (e : E) (A : AP) (H H' : Hp) (d : D) (v : V) : Prop :=
  RepB K A H' d v ∧ (ownB e = false → Rep K A H' d v) ∧ (newB e = true → NewAt K A H H' d v)
def XIs (x : Exn) (cls : Value) (d : Option Addr) (H : Hp) : Prop :=
  cls = .ref (He.ga K x.cls) ∧ (match x.line with
    | none => d = none
    | some n => ∃ a, d = some a ∧ H a = some (.xd [("line", .int n)]))
structure Fr (own : Nat → Bool) (B O : AP) (H : Hp) (σ : L2.St) (ρ : DE) : Prop where
  len : σ.length = ρ.length
  fz : ∀ i d, own i = false → ρ[i]? = some (some d) → ∃ v, σ[i]? = some (some v) ∧ Rep K (U B O) H d v
  ow : ∀ i d, own i = true → ρ[i]? = some (some d) → ∃ a, σ[i]? = some (some (.ref a)) ∧ O a ∧ OwnAt K (U B O) H a d
  dj : ∀ i j a, own i = true → own j = true → (∃ d, ρ[i]? = some (some d)) → (∃ d, ρ[j]? = some (some d)) → σ[i]? = some (some (.ref a)) → σ[j]? = some (some (.ref a)) → i = j
  mt : ∀ a, U B O a → ∃ o, H a = some o ∧ isMt o = true
end

/-! ### facts -/
section
variable {K : PySem.W.Frag} {A A' : AP} {H H' H1 : Hp} {δ δ' : Nat}
theorem keeps_ex (e : Ex δ H H') : Keeps A H H' := fun b o h _ => (e.kp b o h).imp id .inr
theorem grows_refl : Grows H A A := fun _ _ _ h => h
theorem Rep.ex (e : Ex δ H H') {d : D} {v : V} (h : Rep K A H d v) : Rep K A H' d v := Rep.keep (keeps_ex e) grows_refl d v h
theorem RepL.ex (e : Ex δ H H') {d : List D} {v : List V} (h : RepL K A H d v) : RepL K A H' d v := RepL.keep (keeps_ex e) grows_refl d v h
theorem OwnAt.keep (k : Keeps A H H') (g : Grows H A A') {a : Addr} (ha : ∀ o, H a = some o → isX o = false → H' a = some o) {d : D} (h : OwnAt K A H a d) : OwnAt K A' H' a d := by
  cases d with
  | lst l =>
    obtain ⟨vs, e, r⟩ := h
    exact ⟨vs, ha _ e rfl, RepL.keep k g _ _ r⟩
  | dic l =>
    obtain ⟨vs, e, r⟩ := h
    exact ⟨vs, ha _ e rfl, RepK.keep k g _ _ r⟩
  | dit l =>
    obtain ⟨vs, e, r⟩ := h
    exact ⟨vs, ha _ e rfl, RepT.keep k g _ _ r⟩
  | obj c l =>
    obtain ⟨dx, vs, e, r⟩ := h
    exact ⟨dx, vs, ha _ e rfl, RepF.keep k g _ _ r⟩
  | _ => exact h.elim
theorem OwnAt.ex (e : Ex δ H H') {a : Addr} {d : D} (h : OwnAt K A H a d) : OwnAt K A H' a d := OwnAt.keep (keeps_ex e) grows_refl (fun o q z => e.at q z) h
theorem RepB.ex (e : Ex δ H H') {d : D} {v : V} (h : RepB K A H d v) : RepB K A H' d v := by
  rcases h with h | ⟨a, ea, h⟩
  · exact .inl (h.ex e)
  · exact .inr ⟨a, ea, h.ex e⟩
theorem RepBL.ex (e : Ex δ H H') : ∀ {d : List D} {v : List V}, RepBL K A H d v → RepBL K A H' d v
  | [], _, h => h
  | _ :: _, _, h => by
    obtain ⟨v, r, ev, h1, h2⟩ := h
    exact ⟨v, r, ev, h1.ex e, h2.ex e⟩
theorem RepBL.length : ∀ {d : List D} {v : List V}, RepBL K A H d v → v.length = d.length
  | [], _, h => by rw [show _ = [] from h]; rfl
  | _ :: _, _, h => by
    obtain ⟨v, r, ev, _, h2⟩ := h
    rw [ev, List.length_cons, List.length_cons, h2.length]
theorem RepL.length : ∀ {d : List D} {v : List V}, RepL K A H d v → v.length = d.length
  | [], _, h => by rw [show _ = [] from h]; rfl
  | _ :: _, _, h => by
    obtain ⟨v, r, ev, _, h2⟩ := h
    rw [ev, List.length_cons, List.length_cons, RepL.length h2]
theorem RepL.toB : ∀ {d : List D} {v : List V}, RepL K A H d v → RepBL K A H d v
  | [], _, h => h
  | _ :: _, _, h => by
    obtain ⟨v, r, ev, h1, h2⟩ := h
    exact ⟨v, r, ev, .inl h1, RepL.toB h2⟩
theorem RepL.append : ∀ {d e : List D} {v u : List V}, RepL K A H d v → RepL K A H e u → RepL K A H (d ++ e) (v ++ u)
  | [], _, v, u, h, h2 => by
    rw [show v = [] from h]
    exact h2
  | _ :: _, _, _, u, h, h3 => by
    obtain ⟨v, r, ev, h1, h2⟩ := h
    rw [ev]
    exact ⟨v, r ++ u, rfl, h1, RepL.append h2 h3⟩
theorem RepBL.append : ∀ {d e : List D} {v u : List V}, RepBL K A H d v → RepBL K A H e u → RepBL K A H (d ++ e) (v ++ u)
  | [], _, v, u, h, h2 => by
    rw [show v = [] from h]
    exact h2
  | _ :: _, _, _, u, h, h3 => by
    obtain ⟨v, r, ev, h1, h2⟩ := h
    rw [ev]
    exact ⟨v, r ++ u, rfl, h1, RepBL.append h2 h3⟩
theorem RepL.get : ∀ {l : List D} {vs : List V} {i : Nat} {d : D}, RepL K A H l vs → l[i]? = some d → ∃ v, vs[i]? = some v ∧ Rep K A H d v
  | [], _, i, d, _, e => by simp at e
  | x :: l, vs, i, d, h, e => by
    obtain ⟨v, r, rfl, h1, h2⟩ := h
    cases i with
    | zero =>
      rw [List.getElem?_cons_zero] at e
      cases e
      exact ⟨v, rfl, h1⟩
    | succ i =>
      rw [List.getElem?_cons_succ] at e
      obtain ⟨u, hu, ru⟩ := RepL.get h2 e
      exact ⟨u, by rw [List.getElem?_cons_succ]; exact hu, ru⟩
theorem RepL.get' : ∀ {l : List D} {vs : List V} {i : Nat} {v : V}, RepL K A H l vs → vs[i]? = some v → ∃ d, l[i]? = some d ∧ Rep K A H d v := fun {l vs i v} h e => by
  have hl := RepL.length h
  have hi : i < l.length := by
    rw [← hl]
    exact (List.getElem?_eq_some_iff.mp e).1
  obtain ⟨u, hu, ru⟩ := RepL.get h (List.getElem?_eq_getElem hi)
  rw [e] at hu
  cases hu
  exact ⟨_, List.getElem?_eq_getElem hi, ru⟩
theorem RepL.drop : ∀ {l : List D} {vs : List V} (n : Nat), RepL K A H l vs → RepL K A H (l.drop n) (vs.drop n)
  | _, _, 0, h => h
  | [], vs, n + 1, h => by
    rw [show vs = [] from h]
    rfl
  | x :: l, vs, n + 1, h => by
    obtain ⟨v, r, rfl, h1, h2⟩ := h
    exact RepL.drop n h2
theorem RepL.take : ∀ {l : List D} {vs : List V} (n : Nat), RepL K A H l vs → RepL K A H (l.take n) (vs.take n)
  | _, _, 0, _ => rfl
  | [], vs, n + 1, h => by
    rw [show vs = [] from h]
    rfl
  | x :: l, vs, n + 1, h => by
    obtain ⟨v, r, rfl, h1, h2⟩ := h
    exact ⟨v, r.take n, rfl, h1, RepL.take n h2⟩
theorem RepL.reverse : ∀ {l : List D} {vs : List V}, RepL K A H l vs → RepL K A H l.reverse vs.reverse
  | [], vs, h => by
    rw [show vs = [] from h]
    rfl
  | x :: l, vs, h => by
    obtain ⟨v, r, rfl, h1, h2⟩ := h
    rw [List.reverse_cons, List.reverse_cons]
    exact RepL.append (RepL.reverse h2) ⟨v, [], rfl, h1, rfl⟩
theorem RepL.set : ∀ {l : List D} {vs : List V} {d : D} {v : V} (i : Nat), RepL K A H l vs → Rep K A H d v → RepL K A H (l.set i d) (vs.set i v)
  | [], vs, d, v, i, h, _ => by
    rw [show vs = [] from h]
    rfl
  | x :: l, vs, d, v, 0, h, hd => by
    obtain ⟨u, r, rfl, h1, h2⟩ := h
    exact ⟨v, r, rfl, hd, h2⟩
  | x :: l, vs, d, v, i + 1, h, hd => by
    obtain ⟨u, r, rfl, h1, h2⟩ := h
    exact ⟨u, r.set i v, rfl, h1, RepL.set i h2 hd⟩
theorem repL_rep : ∀ {l : List D} {vs : List V} (n : Nat), RepL K A H l vs → RepL K A H (List.replicate n l).flatten (List.replicate n vs).flatten
  | l, vs, 0, _ => rfl
  | l, vs, n + 1, h => by
    rw [List.replicate_succ, List.flatten_cons, List.replicate_succ, List.flatten_cons]
    exact RepL.append h (repL_rep n h)
theorem repL_nil : RepL K A H [] [] := rfl
theorem repL_one {d : D} {v : V} (h : Rep K A H d v) : RepL K A H [d] [v] := ⟨v, [], rfl, h, rfl⟩
/-- ints, bools, texts -/
theorem repL_map {α : Type} {f : α → D} {g : α → V} (h : ∀ x, Rep K A H (f x) (g x)) : ∀ l : List α, RepL K A H (l.map f) (l.map g)
  | [] => rfl
  | x :: l => ⟨g x, l.map g, rfl, h x, repL_map h l⟩
theorem repL_of_map {α : Type} {f : α → D} {g : α → V} (h : ∀ x v, Rep K A H (f x) v → v = g x) : ∀ {l : List α} {vs : List V}, RepL K A H (l.map f) vs → vs = l.map g
  | [], _, r => r
  | x :: l, _, r => by
    obtain ⟨v, w, rfl, h1, h2⟩ := r
    rw [h x v h1, repL_of_map h h2]
    rfl
/-- a new address -/
theorem grows_new {p : Addr} (hp : H p = none) : Grows H A (U A (· = p)) := fun b o e na z => by
  rcases z with z | z
  · exact na z
  · rw [z, hp] at e
    cases e
theorem grows_less (h : ∀ a, A' a → A a) : Grows H A A' := fun _ _ _ na z => na (h _ z)
theorem keeps_refl : Keeps A H H := fun _ _ e _ => .inl e
theorem keeps_new {p : Addr} {o : HO} (hp : H p = none) : Keeps A H (upd H p o) := fun b u e _ => .inl (by rw [upd_ne (ne_of_none e hp)]; exact e)
/-- a fresh list, from its items -/
theorem newLst {l : List D} {vs : List V} {p : Addr} (r : RepL K A H l vs) (hp : H p = none) : OwnAt K (U A (· = p)) (upd H p (.lst vs)) p (.lst l) :=
  ⟨vs, upd_same, RepL.keep (keeps_new hp) (grows_new hp) _ _ r⟩
theorem own_rep {a : Addr} {d : D} (na : ¬ A a) (h : OwnAt K (U A (· = a)) H a d) : Rep K A H d (.ref a) := by
  have less : ∀ b, A b → U A (· = a) b := fun b z => .inl z
  cases d with
  | lst l =>
    obtain ⟨vs, e, r⟩ := h
    exact ⟨a, vs, rfl, na, e, RepL.keep keeps_refl (grows_less less) _ _ r⟩
  | dic l =>
    obtain ⟨vs, e, r⟩ := h
    exact ⟨a, vs, rfl, na, .inl e, RepK.keep keeps_refl (grows_less less) _ _ r⟩
  | dit l =>
    obtain ⟨vs, e, r⟩ := h
    exact ⟨a, vs, rfl, na, .inl e, RepT.keep keeps_refl (grows_less less) _ _ r⟩
  | obj c l =>
    obtain ⟨dx, vs, e, r⟩ := h
    exact ⟨a, dx, vs, rfl, na, e, RepF.keep keeps_refl (grows_less less) _ _ r⟩
  | _ => exact h.elim
end
section
variable {K : PySem.W.Frag} {own : Nat → Bool} {B O : AP} {H H' : Hp} {σ : L2.St} {ρ : DE} {δ : Nat}
theorem mt_ex (e : Ex δ H H') {a : Addr} (h : ∃ o, H a = some o ∧ isMt o = true) : ∃ o, H' a = some o ∧ isMt o = true := by
  obtain ⟨o, h1, h2⟩ := h
  obtain ⟨o', q, z⟩ := e.mt h1
  refine ⟨o', q, ?_⟩
  rcases z with rfl | z
  · exact h2
  · cases o' <;> first | rfl | cases z
theorem Fr.ex (f : Fr K own B O H σ ρ) (e : Ex δ H H') : Fr K own B O H' σ ρ :=
  ⟨f.len, fun i d h1 h2 => by
    obtain ⟨v, h3, h4⟩ := f.fz i d h1 h2
    exact ⟨v, h3, h4.ex e⟩, fun i d h1 h2 => by
    obtain ⟨a, h3, h4, h5⟩ := f.ow i d h1 h2
    exact ⟨a, h3, h4, h5.ex e⟩, f.dj, fun a h => mt_ex e (f.mt a h)⟩
theorem Fr.fresh (f : Fr K own B O H σ ρ) {p : Addr} (hp : H p = none) : ¬ U B O p := fun z => by
  obtain ⟨o, h, _⟩ := f.mt p z
  rw [hp] at h
  cases h
end

/-! ### readings -/
section
variable (T : Tb) (K : PySem.W.Frag) (own : Nat → Bool) (W : WX)
def XOk (xk : EK) (σ : L2.St) (δ : Nat) (H : Hp) : Prop := ∀ x, xk x → ∀ cls d H', Ex δ H H' → XIs K x cls d H' → W cls d σ H'
/-- the frame, with room for δ draws, and what its exceptions come to -/
structure FX (xk : EK) (B O : AP) (δ : Nat) (H : Hp) (σ : L2.St) (ρ : DE) : Prop where
  fr : Fr K own B O H σ ρ
  rm : Rm H δ
  xo : XOk K W xk σ δ H
def rdE (e : E) : TE := fun σ H Q => ∃ B O ρ xk Qd, FX K own W xk B O (dcE T e) H σ ρ ∧ wpE T xk e ρ Qd ∧ (∀ d, Qd d → ∀ v H', Ex (dcE T e) H H' → Res K e (U B O) H H' d v → Q v H')
def rdEs (es : List E) : TA := fun σ H Q => ∃ B O ρ xk Qd, FX K own W xk B O (dcEs T es) H σ ρ ∧ wpEs T xk es ρ Qd ∧
  (∀ ds, Qd ds → ∀ vs H', Ex (dcEs T es) H H' → RepBL K (U B O) H' ds vs → (es.all (fun e => !ownB e) = true → RepL K (U B O) H' ds vs) → Q vs H')
def rdT (e : E) : TT := fun σ H Q => ∃ B O ρ xk Qd, FX K own W xk B O (dcE T e) H σ ρ ∧ wpE T xk e ρ Qd ∧ (∀ d, Qd d → ∃ b, d = .bl b ∧ ∀ H', Ex (dcE T e) H H' → Q b H')
end
section
variable {K : PySem.W.Frag} {own : Nat → Bool} {W : WX} {xk : EK} {B O : AP} {i j : Nat} {H H' : Hp} {σ : L2.St} {ρ : DE}
/-- the first part -/
theorem FX.l (f : FX K own W xk B O (i + j) H σ ρ) : FX K own W xk B O i H σ ρ := ⟨f.fr, f.rm.l, fun x hx cls d H' e q => f.xo x hx cls d H' (e.le (Nat.le_add_right i j)) q⟩
/-- what is left behind the first part -/
theorem FX.ex (f : FX K own W xk B O (i + j) H σ ρ) (e : Ex i H H') : FX K own W xk B O j H' σ ρ := ⟨f.fr.ex e, f.rm.ex e, fun x hx cls d H2 e2 q => f.xo x hx cls d H2 (e.trans e2) q⟩
theorem FX.ex0 (f : FX K own W xk B O j H σ ρ) (e : Ex 0 H H') : FX K own W xk B O j H' σ ρ := ⟨f.fr.ex e, f.rm.ex0 e, fun x hx cls d H2 e2 q => f.xo x hx cls d H2 (by have := e.trans e2; rwa [Nat.zero_add] at this) q⟩
theorem FX.le (f : FX K own W xk B O j H σ ρ) (h : i ≤ j) : FX K own W xk B O i H σ ρ := ⟨f.fr, f.rm.le h, fun x hx cls d H' e q => f.xo x hx cls d H' (e.le h) q⟩
end

/-- a def's promise: B what the callers may still change; c draws at most -/
def spOf (K : PySem.W.Frag) (n c : Nat) (m : DSp) : Sp := fun vs H Q E => ∃ B ds Qd Xd, vs.length = n ∧ Rm H c ∧ (∀ a, B a → ∃ o, H a = some o ∧ isMt o = true) ∧ RepL K B H ds vs ∧ m ds Qd Xd ∧
  (∀ d, Qd d → ∀ v H', Ex c H H' → Rep K B H' d v → Q v H') ∧ (∀ x, Xd x → ∀ cls d H', Ex c H H' → XIs K x cls d H' → E cls d H')

/-- an exception class of the module's own -/
structure ExcD (K : PySem.W.Frag) (mg : Str → Option Value) (c : Str) : Prop where
  ex : ∃ B newId initId bmB, ExcBaseFacts B newId initId bmB ∧ PySem.W.excIn K (He.ga K c) bmB newId = true
  gl : mg c = some (.ref (He.ga K c))
  kp : PySem.W.keepIn K (.ref (He.ga K c)) = true
  sub : PySem.W.subIn K (.ref (He.ga K c)) (.type "BaseException") = some true
  ty : PySem.W.typeIn K (.ref (He.ga K c)) = some (.type "type")
/-- what _law_error tells of an exception that is handled -/
def ErrOk (P : Program) (w : World) (K : PySem.W.Frag) (mg : Str → Option Value) (base : Heap) : Prop := ∃ (fa : Addr) (fd : FuncData), mg "_law_error" = some (.ref fa) ∧ PySem.W.keepIn K (.ref fa) = true ∧ Binds K fd (["e"] : List Str) [] ∧
  ∀ (A : Around) (outer : List PySem.Env) (s : Shared) (H : Hp) (args : Args) (pr : Addr × Obj) (c t : Str) (Q : VK), L2H.RoomH 1 A → L2H.Hot1 A pr → L2H.PinOk outer H s pr → Env0 P w K mg base A outer s H → BindsTo s fd args [("e", .ref pr.1)] → errT c = some t → Zc (.ref (He.ga K c)) none pr.2 →
    (∀ H', Ex 0 H H' → Q (.str t) H') → codeAny (model P w) A (.call (.ref fa) args) (CR (L2N.CX P w) outer P w H s Q fun _ _ _ => False) s
/-- a dict of the module's top, texts to numbers -/
def TabAt (K : PySem.W.Frag) (w : World) (a : Addr) (l : List (Str × Int)) : Prop := ∃ es n, KDict K w a es n ∧ ∀ z, ∃ r, PySem.W.nsIn K a z = some r ∧ match l.lookup z with
  | some i => ∃ t, r = some (.int i t)
  | none => r = none
/-- the table is kept by the module -/
structure TOk (P : Program) (w : World) (K : PySem.W.Frag) (mg : Str → Option Value) (base : Heap) (T : Tb) (L : Nat) : Prop where
  fn : ∀ f e, T.fn f = some e → ∃ fa fd ps, ps.length = e.n ∧ e.k ≤ L ∧ FnG P w K mg base e.k fa fd ps (spOf K e.n e.c e.m) ∧ mg f = some (.ref fa) ∧ PySem.W.keepIn K (.ref fa) = true ∧ Binds K fd ps []
  glob : ∀ x d, T.glob x = some d → ∃ u v, mg x = some u ∧ RelV v u ∧ ∀ A H, Rep K A H d v
  exc : ∀ c, T.exc c = true → ExcD K mg c
  free : ∀ f : BF, mg (bfName f) = none
  set : mg "set" = none
  range : mg "range" = none
  enum : mg "enumerate" = none
  zip : mg "zip" = none
  dict : mg "dict" = none
  err : T.err = true → 1 ≤ L ∧ ErrOk P w K mg base ∧ mg "SayError" = some (.ref (He.ga K "SayError")) ∧ ∀ c t, errT c = some t → PySem.W.exmOne K (.ref (He.ga K c)) (.ref (He.ga K "SayError")) = some true
  fld : ∀ c f, T.fld c f = true → Cls K (He.ga K c) ∧ NoAttr K (He.ga K c) f
  meth : ∀ c m e, T.meth c m = some e → ∃ fa fd ps, ps.length = e.n ∧ e.k ≤ L ∧ FnG P w K mg base e.k fa fd ps (spOf K e.n e.c e.m) ∧ Cls K (He.ga K c) ∧ Meth K (He.ga K c) m fa ∧ Binds K fd ps []
  tab : ∀ x l, T.tab x = some l → ∃ a, mg x = some (.ref a) ∧ TabAt K w a l
  new : ∀ c e, T.new c = some e → ∃ fa fd ps spI, e.k + 1 ≤ L ∧ FnG P w K mg base e.k fa fd ps spI ∧ mg c = some (.ref (He.ga K c)) ∧ Mk K (He.ga K c) fa ∧ Binds K fd ps [] ∧ ∀ vs H Q E, spOf K e.n e.c e.m vs H Q E → ∀ x dx, H x = none → H dx = none → dx ≠ x →
    spI (.ref x :: vs) (upd (upd H dx (.own x)) x (.ins (He.ga K c) dx [])) (fun v H2 => v = .non ∧ Q (.ref x) H2) E
/-- a context of a def's body -/
structure Good (T : Tb) (L : Nat) (W : WX) (X : Cx) : Prop where
  nd : X.N.Nodup
  calm : X.calm = true
  room : Room L X.A
  guards : X.A.guards = some []
  tk : L2N.Takes X W
  tab : TOk X.prog X.w X.K X.mg X.base T L
end DL

/-! DE: == of dicts of truth values -/
namespace DL
open PySem PySem.Spec PyProof.Rows L2 Evl

theorem vb_val {K : PySem.W.Frag} {A : AP} {H : Hp} : ∀ {m : List (Key × Bool)} {ws : List (Key × V)}, RepK K A H (dicB m) ws → ∀ k, valV ws k = (valB m k).map V.bl
  | [], ws, h, k => by
    rw [show ws = [] from h]
    rfl
  | (k', b) :: m, ws, h, k => by
    obtain ⟨v, r, rfl, h1, h2⟩ := (show ∃ v r, ws = (k', v) :: r ∧ Rep K A H (.bl b) v ∧ RepK K A H (dicB m) r from h)
    obtain rfl : v = .bl b := h1
    by_cases e : k' = k
    · subst e
      rw [valV_pos rfl]
      unfold valB
      rw [List.find?_cons_of_pos (by simp)]
      rfl
    · have q := vb_val h2 k
      unfold valV at q ⊢
      unfold valB at q ⊢
      rw [List.find?_cons_of_neg (by simpa using e), List.find?_cons_of_neg (by simpa using e)]
      exact q
theorem vb_at {ws : List (Key × V)} {vs : List (Key × Value)} {m : List (Key × Bool)} {k : Key} (r : KV ws vs) (h : valV ws k = (valB m k).map V.bl) : PySem.valueAt vs k = (valB m k).map Value.bool := by
  have q := r.val k
  rw [h] at q
  cases e : valB m k with
  | none =>
    rw [e] at q
    cases e2 : PySem.valueAt vs k with
    | none => rfl
    | some u => rw [e2] at q; exact q.elim
  | some b =>
    rw [e] at q
    cases e2 : PySem.valueAt vs k with
    | none => rw [e2] at q; exact q.elim
    | some u =>
      rw [e2] at q
      exact congrArg some (show u = Value.bool b from q)
theorem keq_of {prog : Program} {w : World} {A : Around} {s : Shared} {K : PySem.W.Frag} {B : AP} {H : Hp} {m : List (Key × Bool)} {kb : List (Key × Value)} (hv : ∀ k, PySem.valueAt kb k = (valB m k).map Value.bool) :
    ∀ {l : List (Key × Bool)} {ws : List (Key × V)} {ka : List (Key × Value)}, RepK K B H (dicB l) ws → KV ws ka → PySem.W.KeqHitsP prog w A s kb ka (l.all fun kv => decide (valB m kv.1 = some kv.2))
  | [], ws, ka, h, r => by
    rw [show ws = [] from h] at r
    cases r
    exact .nil
  | (k, b) :: l, ws, ka, h, r => by
    obtain ⟨v, rest, rfl, h1, h2⟩ := (show ∃ v r, ws = (k, v) :: r ∧ Rep K B H (.bl b) v ∧ RepK K B H (dicB l) r from h)
    obtain rfl : v = .bl b := h1
    cases r with
    | cons r1 r2 =>
      rename_i q ka'
      obtain ⟨k2, u⟩ := q
      obtain ⟨e1, e2⟩ := r1
      obtain rfl : k = k2 := e1
      obtain rfl : u = Value.bool b := e2
      have ih := keq_of hv h2 r2 (prog := prog) (w := w) (A := A) (s := s)
      rw [List.all_cons]
      cases e : valB m k with
      | none =>
        have : (decide ((none : Option Bool) = some b) && l.all fun kv => decide (valB m kv.1 = some kv.2)) = false := by simp
        show PySem.W.KeqHitsP prog w A s kb _ (decide ((none : Option Bool) = some b) && _)
        rw [this]
        exact .miss (by rw [hv, e]; rfl)
      | some b' =>
        have z : decide (some b' = some b) = (b == b') := by cases b <;> cases b' <;> rfl
        show PySem.W.KeqHitsP prog w A s kb _ (decide (some b' = some b) && _)
        rw [z]
        exact .hit (by rw [hv, e]; rfl) (SeqAt.EqAt.eqP (SeqAt.EqAt.bool_bool b b')) ih
end DL

/-! DI: tuple * int, whatever the number -/
namespace DL
open PySem PySem.Spec PyProof.Rows L2

theorem tuple_mul1 (l : Addr) (items : Array Value) (n : Nat) (dd : Option Addr) (sl : Array (Option Value)) (x : Int) (u : Tok) (c0 : (decide (x < -(2 ^ 63)) || decide (x ≥ 2 ^ 63)) = false) (c1 : (items.isEmpty || x == 1) = true) :
    Meets (Builtin.«tuple.__mul__» ⟨[.ref l, .int x u], []⟩) (fun _ R s => s.heap.get? l = some { cls := .type "tuple", dict := dd, data := .seq items n, slots := sl } ∧ R (.ok (.ret (Value.ref l))) { s with heap := s.heap, toks := s.toks }) :=
  .of_wp fun prog w A R s h => by
    obtain ⟨hp, g, d, tk, os⟩ := s
    obtain ⟨hl, h⟩ := h
    have f1 := AutoSeq1.idx_int
    have f2 := AutoSeq1.sub_tuple_tuple
    wp_walk using wpAny_loadPart' hl
    repeat (first
      | (refine wpAny_ite_false (decide_eq_false (by rw [c0]; exact Bool.false_ne_true)) ?_; wp_walk using wpAny_loadPart' hl)
      | (refine wpAny_ite_true (decide_eq_true c1) ?_; wp_walk using wpAny_loadPart' hl))
    exact ⟨_, rfl, h⟩
theorem tuple_mul0 (l : Addr) (items : Array Value) (n : Nat) (dd : Option Addr) (sl : Array (Option Value)) (x : Int) (u : Tok) (c0 : (decide (x < -(2 ^ 63)) || decide (x ≥ 2 ^ 63)) = false) (c1 : (items.isEmpty || x == 1) = false) (c2 : (decide (x ≤ 0) || items.isEmpty) = true) :
    Meets (Builtin.«tuple.__mul__» ⟨[.ref l, .int x u], []⟩) (fun _ R s => s.heap.get? l = some { cls := .type "tuple", dict := dd, data := .seq items n, slots := sl } ∧
      R (.ok (.ret (Value.ref s.heap.objs.size))) { s with heap := s.heap.push { cls := Value.type "tuple", data := Data.seq #[] }, toks := s.toks }) :=
  .of_wp fun prog w A R s h => by
    obtain ⟨hp, g, d, tk, os⟩ := s
    obtain ⟨hl, h⟩ := h
    have f1 := AutoSeq1.idx_int
    wp_walk using wpAny_loadPart' hl
    repeat (first
      | (refine wpAny_ite_false (decide_eq_false (by rw [c0]; exact Bool.false_ne_true)) ?_; wp_walk using wpAny_loadPart' hl)
      | (refine wpAny_ite_false (decide_eq_false (by rw [c1]; exact Bool.false_ne_true)) ?_; wp_walk using wpAny_loadPart' hl)
      | (refine wpAny_ite_true (decide_eq_true c2) ?_; wp_walk using wpAny_loadPart' hl))
    exact ⟨_, rfl, h⟩
def rRepA (K : PySem.W.Frag) : R2 := fun x y H Q => ∃ l k xs, x = .ref l ∧ y = .int k ∧ SqT K H l xs ∧ -(2 ^ 63) ≤ k ∧ k ≤ 1000 ∧ xs.length ≤ 1000 ∧ (xs = [] ∨ k = 1 → Q (.ref l) H) ∧ (¬ (xs = [] ∨ k = 1) → ∀ p, H p = none → Q (.ref p) (upd H p (.tup (List.replicate k.toNat xs).flatten)))
section
variable {X : Cx}
theorem op_repA : OpR X (binaryOp .Mult) (rRepA X.K) := by
  intro pins s σ H x y v u Q I rx ry h
  obtain ⟨l, k, xs, rfl, rfl, hT, h1, h2, hz, q1, q2⟩ := h
  by_cases hs : ¬ (xs = [] ∨ k = 1) ∧ 2 ≤ k
  · exact op_repT pins s σ H _ _ v u Q I rx ry ⟨l, k, xs, rfl, rfl, hT, fun e => hs.1 (.inl e), hs.2, h2, hz, q2 hs.1⟩
  cases rx
  obtain ⟨t, rfl⟩ := ry
  obtain ⟨its, r, ⟨⟨cls, dd, data, sl⟩, ho, hc, n, hd⟩, hs'⟩ := I.tuple hT
  simp only at hc hd
  subst hc hd
  have hle : its.length = xs.length := r.length.symm
  have c0 : (decide (k < -(2 ^ 63)) || decide (k ≥ 2 ^ 63)) = false := by
    rw [decide_eq_false (by omega), decide_eq_false (by omega)] <;> rfl
  refine wpAny_binaryOp_repeat_ref (T := "tuple") (U := "int") (by decide) ⟨_, ho, rfl⟩ (fun s' => typeIs_int s' k t) noFill_tuple_mul F.fills_int_mul F.slot_int_rmul repeat_tuple F.slot_int_index.lookup
    (call_meets F.slot_int_rmul (typeIs_int s k t) F.entry_int_rmul (F.args_int_rmul_2 _ _) (int_rmul_tuple k t l its.toArray n dd sl) ⟨ho, rfl, ⟨_, ho, rfl⟩, ?_⟩)
  by_cases hc : xs = [] ∨ k = 1
  · refine call_meets F.slot_tuple_mul ⟨_, ho, rfl⟩ F.entry_tuple_mul (F.args_tuple_mul_2 _ _) (tuple_mul1 l its.toArray n dd sl k t c0 ?_) ⟨ho, .ref l, H, I, rfl, q1 hc⟩
    rcases hc with hc | hc
    · rw [hc] at hle
      rw [List.eq_nil_of_length_eq_zero hle]
      rfl
    · rw [hc]
      simp
  · have hk : k ≤ 0 := by
      by_cases z : 2 ≤ k
      · exact absurd ⟨hc, z⟩ hs
      · have : k ≠ 1 := fun e => hc (.inr e)
        omega
    have hn : its ≠ [] := fun e => hc (.inl (by
      rw [e] at hle
      exact List.eq_nil_of_length_eq_zero hle.symm))
    have hi : its.toArray.isEmpty = false := by
      cases its with
      | nil => exact absurd rfl hn
      | cons a b => rfl
    refine call_meets F.slot_tuple_mul ⟨_, ho, rfl⟩ F.entry_tuple_mul (F.args_tuple_mul_2 _ _) (tuple_mul0 l its.toArray n dd sl k t c0 ?_ ?_) ⟨ho, ?_⟩
    · rw [hi, Bool.false_or]
      exact beq_eq_false_iff_ne.mpr (by omega)
    · rw [decide_eq_true hk]
      rfl
    · have e0 : (List.replicate k.toNat xs).flatten = [] := by
        rw [show k.toNat = 0 by omega]
        rfl
      have q := q2 hc
      rw [e0] at q
      refine ⟨.ref s.heap.objs.size, _, I.laid (t' := s.toks) (o := .tup []) (fun b ob q => Heap.get?_push_of_some _ q) (Nat.le_refl _) ?_, rfl, q _ (I.hok.fresh (Nat.le_refl _))⟩
      exact ⟨by rw [sizeLine_eq]; exact Nat.zero_le _, [], .nil, IsTup.new _ _⟩
end
end DL

/-! DV: the operations by values -/
namespace DL
open PySem PySem.Spec PyProof.Rows L2 Evl

section
variable {K : PySem.W.Frag} {A : AP} {H : Hp} {v : V}
theorem rb_non (h : RepB K A H .non v) : v = .non := by
  rcases h with h | ⟨_, _, h⟩
  · exact h
  · exact h.elim
theorem rb_bl {b : Bool} (h : RepB K A H (.bl b) v) : v = .bl b := by
  rcases h with h | ⟨_, _, h⟩
  · exact h
  · exact h.elim
theorem rb_int {i : Int} (h : RepB K A H (.int i) v) : v = .int i := by
  rcases h with h | ⟨_, _, h⟩
  · exact h
  · exact h.elim
theorem rb_str {x : Str} (h : RepB K A H (.str x) v) : v = .str x := by
  rcases h with h | ⟨_, _, h⟩
  · exact h
  · exact h.elim
theorem rb_tup0 {l : List D} (h : RepB K A H (.tup l) v) : ∃ a vs, v = .ref a ∧ H a = some (.tup vs) ∧ RepL K A H l vs := by
  rcases h with h | ⟨_, _, h⟩
  · exact h
  · exact h.elim
theorem rb_tup {l : List D} (h : RepB K A H (.tup l) v) : ∃ a vs, v = .ref a ∧ SqT K H a vs ∧ RepL K A H l vs := by
  obtain ⟨a, vs, e, h1, h2⟩ := rb_tup0 h
  exact ⟨a, vs, e, .inl (.inl h1), h2⟩
theorem rb_kt {l : List D} (h : RepB K A H (.kt l) v) : ∃ a vs, v = .ref a ∧ SqT K H a vs ∧ RepL K A H l vs := by
  rcases h with h | ⟨_, _, h⟩
  · obtain ⟨a, vs, e, h1, h2⟩ := h
    exact ⟨a, vs, e, h1 H, h2⟩
  · exact h.elim
theorem rb_lst {l : List D} (h : RepB K A H (.lst l) v) : ∃ a vs, v = .ref a ∧ H a = some (.lst vs) ∧ RepL K A H l vs := by
  rcases h with h | ⟨a, e, h⟩
  · obtain ⟨a, vs, e, _, h1, h2⟩ := h
    exact ⟨a, vs, e, h1, h2⟩
  · obtain ⟨vs, h1, h2⟩ := h
    exact ⟨a, vs, e, h1, h2⟩
theorem rb_dic {l : List (Key × D)} (h : RepB K A H (.dic l) v) : ∃ a vs, v = .ref a ∧ Rd H a (.dK vs) ∧ RepK K A H l vs := by
  rcases h with h | ⟨a, e, h⟩
  · obtain ⟨a, vs, e, _, h1, h2⟩ := h
    exact ⟨a, vs, e, h1, h2⟩
  · obtain ⟨vs, h1, h2⟩ := h
    exact ⟨a, vs, e, .inl h1, h2⟩
theorem rb_dit {l : List (List Key × D)} (h : RepB K A H (.dit l) v) : ∃ a vs, v = .ref a ∧ Rd H a (.dT vs) ∧ RepT K A H l vs := by
  rcases h with h | ⟨a, e, h⟩
  · obtain ⟨a, vs, e, _, h1, h2⟩ := h
    exact ⟨a, vs, e, h1, h2⟩
  · obtain ⟨vs, h1, h2⟩ := h
    exact ⟨a, vs, e, .inl h1, h2⟩
theorem rb_scr {l : List Int} (h : RepB K A H (.scr l) v) : ∃ a, v = .ref a ∧ SqL K H a (l.map V.int) := by
  rcases h with h | ⟨a, e, h⟩
  · obtain ⟨a, e, h1⟩ := h
    refine ⟨a, e, ?_⟩
    rcases h1 with ⟨o, _, h1⟩ | h1
    · exact .inl (.inr ⟨o, h1⟩)
    · exact h1 H
  · exact h.elim
theorem rep_tup {l : List D} {vs : List V} {p : Addr} (r : RepL K A H l vs) (hp : H p = none) : Rep K A (upd H p (.tup vs)) (.tup l) (.ref p) :=
  ⟨p, vs, rfl, upd_same, r.ex (Ex.new hp)⟩
theorem rep_lst {l : List D} {vs : List V} {p : Addr} (na : ¬ A p) (r : RepL K A H l vs) (hp : H p = none) : Rep K A (upd H p (.lst vs)) (.lst l) (.ref p) :=
  ⟨p, vs, rfl, na, upd_same, r.ex (Ex.new hp)⟩
end
/-- what follows a value that is held -/
abbrev Fin (K : PySem.W.Frag) (A : AP) (H : Hp) (Qd : DK) (Q : VK) : Prop := ∀ d, Qd d → ∀ v H', Ex 0 H H' → Rep K A H' d v → Q v H'
def AOk (A : AP) (H : Hp) : Prop := ∀ a, A a → ∃ o, H a = some o ∧ isMt o = true
theorem AOk.fresh {A : AP} {H : Hp} (h : AOk A H) {p : Addr} (hp : H p = none) : ¬ A p := fun z => by
  obtain ⟨o, e, _⟩ := h p z
  rw [hp] at e
  cases e
def r2D (K : PySem.W.Frag) (f : D → D → DK → Prop) : R2 := fun x y H Q => ∃ A dx dy Qd, AOk A H ∧ RepB K A H dx x ∧ RepB K A H dy y ∧ f dx dy Qd ∧ Fin K A H Qd Q

section
variable {X : Cx}
theorem op_binD (op : Operator) : OpR X (binaryOp op) (r2D X.K (binD op)) := by
  intro pins s σ H x y v u Q I rx ry h
  obtain ⟨A, dx, dy, Qd, hA, hx, hy, hb, hq⟩ := h
  unfold binD at hb
  split at hb
  · obtain rfl := rb_int hx
    obtain rfl := rb_int hy
    exact op_add pins s σ H _ _ v u Q I rx ry ⟨_, _, rfl, rfl, hq _ hb _ _ (Ex.refl _) rfl⟩
  · obtain rfl := rb_int hx
    obtain rfl := rb_int hy
    exact op_sub pins s σ H _ _ v u Q I rx ry ⟨_, _, rfl, rfl, hq _ hb _ _ (Ex.refl _) rfl⟩
  · obtain rfl := rb_int hx
    obtain rfl := rb_int hy
    exact op_mul pins s σ H _ _ v u Q I rx ry ⟨_, _, rfl, rfl, hb.1, hq _ hb.2 _ _ (Ex.refl _) rfl⟩
  · obtain rfl := rb_int hx
    obtain rfl := rb_int hy
    exact op_fdiv pins s σ H _ _ v u Q I rx ry ⟨_, _, rfl, rfl, hb.1, hq _ hb.2 _ _ (Ex.refl _) rfl⟩
  · obtain rfl := rb_int hx
    obtain rfl := rb_int hy
    exact op_mod pins s σ H _ _ v u Q I rx ry ⟨_, _, rfl, rfl, hb.1, hq _ hb.2 _ _ (Ex.refl _) rfl⟩
  · obtain rfl := rb_int hx
    obtain rfl := rb_int hy
    exact op_pow pins s σ H _ _ v u Q I rx ry ⟨_, _, rfl, rfl, hb.1, hq _ hb.2 _ _ (Ex.refl _) rfl⟩
  · obtain rfl := rb_int hx
    obtain rfl := rb_int hy
    exact op_shl pins s σ H _ _ v u Q I rx ry ⟨_, _, rfl, rfl, hb.1, hq _ hb.2 _ _ (Ex.refl _) rfl⟩
  · obtain rfl := rb_int hx
    obtain rfl := rb_int hy
    exact op_shr pins s σ H _ _ v u Q I rx ry ⟨_, _, rfl, rfl, hb.1, hq _ hb.2 _ _ (Ex.refl _) rfl⟩
  · obtain rfl := rb_int hx
    obtain rfl := rb_int hy
    exact op_and pins s σ H _ _ v u Q I rx ry ⟨_, _, rfl, rfl, hq _ hb _ _ (Ex.refl _) rfl⟩
  · obtain rfl := rb_int hx
    obtain rfl := rb_int hy
    exact op_or pins s σ H _ _ v u Q I rx ry ⟨_, _, rfl, rfl, hq _ hb _ _ (Ex.refl _) rfl⟩
  · obtain rfl := rb_int hx
    obtain rfl := rb_int hy
    exact op_xor pins s σ H _ _ v u Q I rx ry ⟨_, _, rfl, rfl, hq _ hb _ _ (Ex.refl _) rfl⟩
  · obtain rfl := rb_str hx
    obtain rfl := rb_str hy
    exact op_add_str pins s σ H _ _ v u Q I rx ry ⟨_, _, rfl, rfl, hb.1, hq _ hb.2 _ _ (Ex.refl _) rfl⟩
  · obtain ⟨a, xs, rfl, ha0, hl⟩ := rb_tup0 hx
    obtain ⟨b, ys, rfl, hb0, hm⟩ := rb_tup0 hy
    have ha : SqT X.K H a xs := .inl (.inl ha0)
    have hb' : SqT X.K H b ys := .inl (.inl hb0)
    have e1 := RepL.length hl
    have e2 := RepL.length hm
    refine op_catA pins s σ H _ _ v u Q I rx ry ⟨a, b, xs, ys, rfl, rfl, ha, hb', by rw [e1, e2]; exact hb.1, fun e => ?_, fun _ e => ?_, fun _ _ p hp => ?_⟩
    · subst e
      refine hq _ hb.2 _ _ (Ex.refl _) ⟨b, ys, rfl, hb0, ?_⟩
      have := RepL.append hl hm
      simpa using this
    · subst e
      refine hq _ hb.2 _ _ (Ex.refl _) ⟨a, xs, rfl, ha0, ?_⟩
      have := RepL.append hl hm
      simpa using this
    · exact hq _ hb.2 _ _ (Ex.new hp) (rep_tup (RepL.append hl hm) hp)
  · obtain ⟨a, xs, rfl, ha, hl⟩ := rb_lst hx
    obtain ⟨b, ys, rfl, hb', hm⟩ := rb_lst hy
    have e1 := RepL.length hl
    have e2 := RepL.length hm
    exact op_cat pins s σ H _ _ v u Q I rx ry ⟨a, b, xs, ys, rfl, rfl, ha, hb', by rw [e1, e2]; exact hb.1, fun p hp => hq _ hb.2 _ _ (Ex.new hp) (rep_lst (hA.fresh hp) (RepL.append hl hm) hp)⟩
  · obtain ⟨a, xs, rfl, ha, hl⟩ := rb_lst hx
    obtain rfl := rb_int hy
    have e1 := RepL.length hl
    exact op_rep pins s σ H _ _ v u Q I rx ry ⟨a, _, xs, rfl, rfl, ha, hb.1, hb.2.1, by rw [e1]; exact hb.2.2.1, fun p hp => hq _ hb.2.2.2 _ _ (Ex.new hp) (rep_lst (hA.fresh hp) (repL_rep _ hl) hp)⟩
  · obtain ⟨a, xs, rfl, ha, hl⟩ := rb_tup0 hx
    obtain rfl := rb_int hy
    have e1 := RepL.length hl
    refine op_repA pins s σ H _ _ v u Q I rx ry ⟨a, _, xs, rfl, rfl, .inl (.inl ha), hb.1, hb.2.1, by rw [e1]; exact hb.2.2.1, fun hc => hq _ hb.2.2.2 _ _ (Ex.refl _) ⟨a, xs, rfl, ha, ?_⟩, fun _ p hp => hq _ hb.2.2.2 _ _ (Ex.new hp) (rep_tup (repL_rep _ hl) hp)⟩
    rcases hc with hc | hc
    · rw [hc] at e1 hl ⊢
      have e2 := List.eq_nil_of_length_eq_zero e1.symm
      subst e2
      simp only [List.flatten_replicate_nil]
      exact rfl
    · rw [hc]
      simpa using hl
  · exact hb.elim

/-! data as the library has it -/
mutual
theorem toPy_dp {A : AP} {H : Hp} {K : PySem.W.Frag} : ∀ (d : D) (p : PyData) (v : V), toPy d = some p → RepB K A H d v → Dp K H v p
  | .non, p, v, e, h => by
    cases e
    rw [rb_non h]
    exact .non
  | .bl b, p, v, e, h => by
    cases e
    rw [rb_bl h]
    exact .bl b
  | .int i, p, v, e, h => by
    cases e
    rw [rb_int h]
    exact .int i
  | .str x, p, v, e, h => by
    cases e
    rw [rb_str h]
    exact .str x
  | .tup l, p, v, e, h => by
    obtain ⟨ps, e1, rfl⟩ := Option.map_eq_some_iff.mp (show (toPy.toPyL l).map PyData.tuple = some p from e)
    obtain ⟨a, vs, rfl, hs, hl⟩ := rb_tup h
    exact .tup hs (toPyL_dp l ps vs e1 hl)
  | .lst l, p, v, e, h => by
    obtain ⟨ps, e1, rfl⟩ := Option.map_eq_some_iff.mp (show (toPy.toPyL l).map PyData.list = some p from e)
    obtain ⟨a, vs, rfl, hs, hl⟩ := rb_lst h
    exact .lst (.inl (.inl hs)) (toPyL_dp l ps vs e1 hl)
  | .dic _, p, v, e, h => by cases e
  | .dit _, p, v, e, h => by cases e
  | .obj _ _, p, v, e, h => by cases e
  | .fn _, p, v, e, h => by cases e
  | .st, p, v, e, h => by cases e
  | .scr _, p, v, e, h => by cases e
  | .kt l, p, v, e, h => by
    obtain ⟨ps, e1, rfl⟩ := Option.map_eq_some_iff.mp (show (toPy.toPyL l).map PyData.tuple = some p from e)
    obtain ⟨a, vs, rfl, hs, hl⟩ := rb_kt h
    exact .tup hs (toPyL_dp l ps vs e1 hl)
theorem toPyL_dp {A : AP} {H : Hp} {K : PySem.W.Frag} : ∀ (l : List D) (ps : List PyData) (vs : List V), toPy.toPyL l = some ps → RepL K A H l vs → DpAll K H vs ps
  | [], ps, vs, e, h => by
    cases e
    rw [show vs = [] from h]
    exact .nil
  | d :: l, ps, vs, e, h => by
    obtain ⟨v, r, rfl, h1, h2⟩ := h
    have e' : (match toPy d, toPy.toPyL l with
      | some p, some q => some (p :: q)
      | _, _ => none) = some ps := e
    cases hp : toPy d with
    | none =>
      rw [hp] at e'
      cases e'
    | some p =>
      cases hq : toPy.toPyL l with
      | none =>
        rw [hp, hq] at e'
        cases e'
      | some q =>
        rw [hp, hq] at e'
        cases e'
        exact .cons (toPy_dp d p v hp (.inl h1)) (toPyL_dp l q r hq h2)
end
theorem toPy_str {d : D} {a : Str} (h : toPy d = some (.str a)) : d = .str a := by
  cases d with
  | str x => cases h; rfl
  | tup l =>
    have h : (toPy.toPyL l).map PyData.tuple = some (.str a) := h
    cases e : toPy.toPyL l <;> rw [e] at h <;> cases h
  | lst l =>
    have h : (toPy.toPyL l).map PyData.list = some (.str a) := h
    cases e : toPy.toPyL l <;> rw [e] at h <;> cases h
  | kt l =>
    have h : (toPy.toPyL l).map PyData.tuple = some (.str a) := h
    cases e : toPy.toPyL l <;> rw [e] at h <;> cases h
  | _ => cases h
/-- two texts, or what is shaped -/
theorem shEq_or {p q : PyData} (h1 : shEq p q = true) (h2 : shEq q p = true) : (∃ a b, p = .str a ∧ q = .str b) ∨ (SeqAt.shaped p = true ∧ SeqAt.shaped q = true) := by
  cases p <;> cases q <;> first | exact .inl ⟨_, _, rfl, rfl⟩ | exact .inr ⟨h1, h2⟩
theorem eqv_strs (a b : Str) : PyData.eqv (.str a) (.str b) = decide (V.str a = V.str b) := by
  rw [dec_str]
  simp only [PyData.eqv]
theorem repK_lenV {K : PySem.W.Frag} {A : AP} {H : Hp} : ∀ {l : List (Key × D)} {vs : List (Key × V)}, RepK K A H l vs → vs.length = l.length
  | [], _, h => by rw [show _ = [] from h]; rfl
  | (k, d) :: l, _, h => by
    obtain ⟨v, r, rfl, _, h2⟩ := h
    rw [List.length_cons, List.length_cons, repK_lenV h2]
theorem op_cmpD (hu : X.A.units + 64 < cLine) (op : CmpOp) : OpR X (compareOp op) (r2D X.K (cmpD op)) := by
  intro pins s σ H x y v u Q I rx ry h
  obtain ⟨A, dx, dy, Qd, hA, hx, hy, hb, hq⟩ := h
  unfold cmpD at hb
  split at hb
  · obtain rfl := rb_int hx
    obtain rfl := rb_int hy
    exact op_lt pins s σ H _ _ v u Q I rx ry ⟨_, _, rfl, rfl, hq _ hb _ _ (Ex.refl _) rfl⟩
  · obtain rfl := rb_int hx
    obtain rfl := rb_int hy
    exact op_le pins s σ H _ _ v u Q I rx ry ⟨_, _, rfl, rfl, hq _ hb _ _ (Ex.refl _) rfl⟩
  · obtain rfl := rb_int hx
    obtain rfl := rb_int hy
    exact op_gt pins s σ H _ _ v u Q I rx ry ⟨_, _, rfl, rfl, hq _ hb _ _ (Ex.refl _) rfl⟩
  · obtain rfl := rb_int hx
    obtain rfl := rb_int hy
    exact op_ge pins s σ H _ _ v u Q I rx ry ⟨_, _, rfl, rfl, hq _ hb _ _ (Ex.refl _) rfl⟩
  · obtain rfl := rb_str hx
    obtain rfl := rb_str hy
    exact op_lt_str pins s σ H _ _ v u Q I rx ry ⟨_, _, rfl, rfl, hq _ hb _ _ (Ex.refl _) rfl⟩
  · obtain ⟨p, q, h1, h2, h3, h4, h5⟩ := hb
    have d1 := toPy_dp _ (.tuple p) x (by show (toPy.toPyL _).map PyData.tuple = _; rw [h1]; rfl) hx
    have d2 := toPy_dp _ (.tuple q) y (by show (toPy.toPyL _).map PyData.tuple = _; rw [h2]; rfl) hy
    obtain ⟨as, r1⟩ := Dp.reads I _ x v d1 rx
    obtain ⟨bs, r2⟩ := Dp.reads I _ y u d2 ry
    have m := Nat.min_le_left (PyData.tuple p).depth (PyData.tuple q).depth
    exact PySem.W.lt_data r1 r2 (by rw [PySem.W.alike]; exact h3) (fun z => by cases z) (by omega) ⟨.bl _, H, I, rfl, hq _ h5 _ _ (Ex.refl _) rfl⟩
  · obtain ⟨l', m', rfl, rfl, q⟩ := hb
    obtain ⟨a, vs, rfl, ha, hl⟩ := rb_dic hx
    obtain ⟨b, ws, rfl, hb', hm⟩ := rb_dic hy
    cases rx
    cases ry
    obtain ⟨z1, sm1, va, kv1, do1⟩ := dk_rd I.hok ha
    obtain ⟨z2, sm2, vb, kv2, do2⟩ := dk_rd I.hok hb'
    have len : ∀ {l : List (Key × Bool)} {vs : List (Key × V)} {va : List (Key × Value)}, RepK X.K A H (dicB l) vs → KV vs va → va.length = l.length := fun h r => by
      rw [← Paired.length r, repK_lenV h]
      exact List.length_map _
    refine PySem.W.rcP_dicts sm1 sm2 do1 do2 (by omega) (fun _ => keq_of (fun k => vb_at kv2 (vb_val hm k)) hl kv1) _ _ ⟨.bl _, H, I, rfl, hq _ q _ _ (Ex.refl _) ?_⟩
    rw [len hl kv1, len hm kv2]
    rfl
  · obtain ⟨p, q, h1, h2, s1, s2, h3⟩ := hb
    rcases shEq_or s1 s2 with ⟨a, b, rfl, rfl⟩ | ⟨s1, s2⟩
    · obtain rfl := toPy_str h1
      obtain rfl := toPy_str h2
      obtain rfl := rb_str hx
      obtain rfl := rb_str hy
      rw [eqv_strs] at h3
      exact op_eq pins s σ H _ _ v u Q I rx ry ⟨rfl, hq _ h3 _ _ (Ex.refl _) rfl⟩
    exact op_eqD hu pins s σ H _ _ v u Q I rx ry ⟨p, q, toPy_dp _ _ _ h1 hx, toPy_dp _ _ _ h2 hy, s1, s2, hq _ h3 _ _ (Ex.refl _) rfl⟩
  · obtain ⟨p, q, h1, h2, s1, s2, h3⟩ := hb
    rcases shEq_or s1 s2 with ⟨a, b, rfl, rfl⟩ | ⟨s1, s2⟩
    · obtain rfl := toPy_str h1
      obtain rfl := toPy_str h2
      obtain rfl := rb_str hx
      obtain rfl := rb_str hy
      rw [eqv_strs] at h3
      exact op_ne pins s σ H _ _ v u Q I rx ry ⟨rfl, hq _ h3 _ _ (Ex.refl _) rfl⟩
    exact op_neD hu pins s σ H _ _ v u Q I rx ry ⟨p, q, toPy_dp _ _ _ h1 hx, toPy_dp _ _ _ h2 hy, s1, s2, hq _ h3 _ _ (Ex.refl _) rfl⟩
  · exact hb.elim
end
end DL

/-! DF: sorted, of a list or a tuple that reads as data -/
namespace PySem.W
open PySem PySem.Calls PyProof.Rows
section
variable {prog : Program} {w : World} {A : Around} {E : Value → Shared → Prop} {s : Shared}
theorem collect_tupT {l : Addr} {vs : List Value} {Q : List Value → Shared → Prop} (hl : IsTup s.heap l vs.toArray)
    (h : Q vs { s with heap := (s.heap.push (seqObj "list" #[] 0)).update s.heap.objs.size (Obj.mapSeq (· ++ vs.toArray)) }) (hsz : vs.length ≤ sizeLine) : wpAny (model prog w) A (collect (.ref l)) Q E s := by
  obtain ⟨o, ho, hc, n, hd⟩ := id hl
  unfold collect
  refine wpAny_bind (wpAny_runValue (codeAny_builtin PySem.F.entry_proto_collect ?_))
  rw [Around.under_plainId PySem.F.plain_proto_collect _]
  show wpAny _ A.in1 (do again (.builtin "list.__iadd__" ⟨[← newList [], .ref l], []⟩)) _ _ s
  refine wpAny_bind (wpAny_newList (wpAny_pure ⟨Code.quiet_builtin _ (by decide +kernel), codeAny_builtin PySem.F.entry_list_iadd ?_⟩) (Nat.zero_le _))
  rw [Around.under_plainId PySem.F.plain_list_iadd _]
  show wpAny _ A.in1 (Builtin.List.listExtendWith (.ref s.heap.objs.size) (.ref l) (.ref s.heap.objs.size)) _ _ { s with heap := s.heap.push (seqObj "list" #[] 0) }
  unfold Builtin.List.listExtendWith
  have hol : (s.heap.push (seqObj "list" #[] 0)).get? l = some o := Heap.get?_push_of_some _ ho
  refine wpAny_bind (wpAny_typeOf (T := "tuple") ⟨o, hol, hc⟩ ?_)
  have isT : (Value.type "tuple" == Value.type "tuple") = true := by rfl
  rw [if_pos (by rw [isT]; simp)]
  refine wpAny_bind (listItems_at hol hd ?_)
  refine wpAny_bind (listItems_at (xs := #[]) (n := 0) (Heap.get?_push_size _ rfl) rfl ?_)
  rw [if_neg (by simp)]
  refine wpAny_bind (listUpdate_at (xs := #[]) (n := 0) (Heap.get?_push_size _ rfl) rfl ?_ (Nat.zero_le _) (by show (#[] ++ vs.toArray).size ≤ sizeLine + 1; simp only [Array.size_append, List.size_toArray, List.length_nil]; omega))
  refine wpAny_pure ?_
  show wpAny (model prog w) A (do
      let o ← load s.heap.objs.size
      match o.data with
      | .seq xs _ => pure xs.toList
      | _ => unsupported "internal:collect") Q E { s with heap := (s.heap.push (seqObj "list" #[] 0)).update s.heap.objs.size (Obj.mapSeq (· ++ vs.toArray)) }
  refine wpAny_bind (wpAny_load (get?_update_seq (Heap.get?_push_size _ rfl) _) ?_)
  show wpAny _ _ (pure ((#[] : Array Value) ++ vs.toArray).toList) Q E _
  rw [show ((#[] : Array Value) ++ vs.toArray).toList = vs by simp]
  exact wpAny_pure h
theorem sorted_of_tup {κ : PyProof.Rows.KeyKind} {l : Addr} {vs : List Value} {Q : Value → Shared → Prop} (hl : IsTup s.heap l vs.toArray) (hL : vs.length ≤ sizeLine) (S : SortsAt prog w A.in1.in1 { s with heap := sortingHeap (copyHeap s.heap vs) (s.heap.objs.size + 1) vs } κ vs)
    (h : Q (.ref (s.heap.objs.size + 1)) { s with heap := sortedAll s.heap vs (sortVals κ false vs vs).toArray }) : wpAny (model prog w) A (call (.builtin "sorted") [.ref l]) Q E s := by
  refine call_function_entry_kw kind_sorted plain_sorted entry_sorted (args_sorted1 _) ?_
  unfold Builtin.«sorted»
  refine wpAny_bind (m := checkCount "sorted" 1 1 _) (wpAny_pure ?_)
  refine wpAny_bind (collect_tupT hl ?_ hL)
  refine wpAny_bind (wpAny_newList ?_ hL)
  have hsz : ((s.heap.push (seqObj "list" #[] 0)).update s.heap.objs.size (Obj.mapSeq (· ++ vs.toArray))).objs.size = s.heap.objs.size + 1 := by
    rw [Heap.size_update, size_push']
  show wpAny _ _ _ _ _ { s with heap := copyHeap s.heap vs }
  rw [hsz]
  refine wpAny_bind (wpAny_holding (wpAny_call_entry_kw slot_list_sort ⟨_, copyHeap_at s.heap vs, rfl⟩ entry_list_sort ?body (args_list_sort _)))
  case body =>
    show wpAny (model prog w) A.in1.in1 (Builtin.«list.sort» ⟨[.ref (s.heap.objs.size + 1)], []⟩) _ _ _
    exact list_sort_vals (s := { s with heap := copyHeap s.heap vs }) (copyHeap_at s.heap vs) S hL ⟨_, rfl, wpAny_pure ⟨_, rfl, h⟩⟩
/-- the call of tuple's own __lt__, as a sort makes it -/
theorem call_tup_lt {Q : Value → Shared → Prop} {l b : Addr} {items items2 : Array Value} {e r : Nat → Bool} (hl : s.heap.IsTuple l items) (hb : s.heap.IsTuple b items2)
    (he : ∀ j (h1 : j < items.size) (h2 : j < items2.size), SeqAt.EqAt A.in1 s items[j] items2[j] (e j)) (hr : ∀ j (h1 : j < items.size) (h2 : j < items2.size), e j = false → SeqAt.RcLt A.in1 s items[j] items2[j] (r j))
    (h : Q (.bool (SeqAt.firstLt e r (decide (items.size < items2.size)) (List.range (min items.size items2.size)))) s) : wpAny (model prog w) A (call (.builtin "tuple.__lt__") [.ref l, .ref b]) Q E s := by
  obtain ⟨⟨c1, dd, data, sl⟩, ho, hc, n, hd⟩ := id hl
  obtain ⟨⟨c2, dd2, data2, sl2⟩, ho2, hc2, n2, hd2⟩ := id hb
  simp only at hc hd hc2 hd2
  subst hc hd hc2 hd2
  exact call_meets PySem.F.slot_tuple_lt ⟨_, ho, rfl⟩ PySem.F.entry_tuple_lt (PySem.F.args_tuple_lt_2 _ _) (SeqAt.tuple_ltAt l b items items2 n n2 dd dd2 sl sl2 e r) ⟨ho, ho2, he, hr, h⟩
/-- one tuple against another, where the kind is: one type -/
theorem oneLt_tup {xs ys : List PyData} {a b : Value} {as bs : List Addr} {Q : Bool → Shared → Prop} (ra : Reads s.heap a (.tuple xs) as) (rb : Reads s.heap b (.tuple ys) bs) (hal : alikeAll xs ys = true)
    (hu : A.units + min (PyData.tuple xs).depth (PyData.tuple ys).depth < cLine) (hq : Q (dataLt (.tuple xs) (.tuple ys)) s) : wpAny (model prog w) A (oneLt' true a b) Q E s := by
  cases ra with
  | @tuple l o vs n _ as₁ h1 h2 h3 h4 =>
    cases rb with
    | @tuple l' o' vs' n' _ bs₁ k1 k2 k3 k4 =>
      have n1 : vs.size = xs.length := by simpa using SeqAt.ReadsAll.length _ _ _ h4
      have n2 : vs'.size = ys.length := by simpa using SeqAt.ReadsAll.length _ _ _ k4
      rw [dataLt_tuple, ← firstLt_toks xs ys hal, ← n1, ← n2] at hq
      rw [oneLt'_eq]
      simp only [if_true]
      refine wpAny_bind (wpAny_cRoomFor (SeqAt.room_here hu) ?_)
      refine wpAny_bind (wpAny_callSpecialIfBound?_slot (T := "tuple") ⟨_, h1, h2⟩ PySem.F.slot_tuple_lt (call_tup_lt (e := SeqAt.pairEq xs ys) (r := fun j => dataLt (xs.getD j .none) (ys.getD j .none)) ⟨_, h1, h2, _, h3⟩ ⟨_, k1, k2, _, k3⟩ (fun j j1 j2 => ?_) (fun j j1 j2 hj => ?_) ?_))
      · have z := eqAt_alikeAll xs ys A.in1 s vs.toList vs'.toList _ _ h4 k4 hal (SeqAt.room_in hu) j (by simpa using j1) (by simpa using j2)
        simpa using z
      · have z := rcLt_alikeAll xs ys A.in1 s vs.toList vs'.toList _ _ h4 k4 hal (SeqAt.room_in hu) j (by simpa using j1) (by simpa using j2) hj
        simpa using z
      · exact wpAny_truthy_bool hq
theorem firsts_any : ∀ (vs : List Value), (∀ v ∈ vs, ∃ a its, v = .ref a ∧ IsTup s.heap a its) → ∀ {Q : List (Option Value) → Shared → Prop}, (∀ fs, fs.length = vs.length → Q fs s) → wpAny (model prog w) A (vs.mapM firstOfTuple') Q E s
  | [], _, Q, h => by rw [List.mapM_nil]; exact wpAny_pure (h [] rfl)
  | v :: vs, ht, Q, h => by
    obtain ⟨a, its, rfl, o, ho, hc, n, hd⟩ := ht v List.mem_cons_self
    rw [List.mapM_cons]
    refine wpAny_bind ?_
    rw [kas_first_eq]
    refine wpAny_bind (wpAny_typeOf (T := "tuple") ⟨o, ho, hc⟩ ?_)
    rw [if_neg (by decide)]
    refine wpAny_bind (listItems_at ho hd (wpAny_pure ?_))
    exact wpAny_bind (firsts_any vs (fun u hu => ht u (List.mem_cons_of_mem _ hu)) fun fs hf => wpAny_pure (h _ (by rw [List.length_cons, List.length_cons, hf])))
/-- all are tuples, the first is empty: their kind is one type -/
theorem kind_tups {a : Addr} {v2 : Value} {rest : List Value} {Q : SortKind → Shared → Prop} (h0 : IsTup s.heap a #[]) (ht : ∀ v ∈ v2 :: rest, ∃ a its, v = .ref a ∧ IsTup s.heap a its) (h : Q oneType' s) : wpAny (model prog w) A (keyKind' (.ref a :: v2 :: rest).toArray) Q E s := by
  have hall : ∀ v ∈ .ref a :: v2 :: rest, ∃ a its, v = .ref a ∧ IsTup s.heap a its := fun v hv => by
    rcases List.mem_cons.mp hv with rfl | hv
    · exact ⟨a, _, rfl, h0⟩
    · exact ht v hv
  rw [keyKind'_eq, List.mapM_toArray, map_eq_pure_bind, List.mapM_cons]
  refine wpAny_bind (wpAny_bind (wpAny_bind ?_))
  obtain ⟨o, ho, hc, n, hd⟩ := h0
  rw [kas_first_eq]
  refine wpAny_bind (wpAny_typeOf (T := "tuple") ⟨o, ho, hc⟩ ?_)
  rw [if_neg (by decide)]
  refine wpAny_bind (listItems_at ho hd (wpAny_pure ?_))
  refine wpAny_bind (firsts_any _ ht fun fs _ => wpAny_pure (wpAny_pure ?_))
  have e0 : ((#[] : Array Value)[0]?) = none := rfl
  rw [if_neg (by simp), if_neg (by simp)]
  rw [oneTypeOnly'_eq, List.mapM_toArray, map_eq_pure_bind]
  refine wpAny_bind (wpAny_bind (wpAny_bind (kas_mapM (r := Value.type "tuple") _ (fun v hv Q' hq => ?_) (wpAny_pure ?_))))
  · obtain ⟨b, its, rfl, o', ho', hc', _⟩ := hall v hv
    exact wpAny_typeOf (T := "tuple") ⟨o', ho', hc'⟩ hq
  have ha : ((List.map (fun _ => Value.type "tuple") (.ref a :: v2 :: rest)).toArray.all fun x => x == Value.type "tuple") = true := by
    simp only [List.all_toArray, List.all_map, List.all_eq_true]
    intro _ _
    rfl
  have hz : (List.map (fun _ => Value.type "tuple") (.ref a :: v2 :: rest)).toArray[0]? = some (Value.type "tuple") := by simp
  rw [hz]
  simp only [ha, if_true]
  exact wpAny_pure (wpAny_pure h)
def SortX (ds : List PyData) : Prop := Sortable ds ∨ ((∀ d ∈ ds, ∃ xs, d = .tuple xs) ∧ ∃ r, ds = .tuple [] :: r)
theorem sortsX {vs : List Value} {ds : List PyData} (e : EachIs (fun v d => ∃ as, Reads s.heap v d as) vs ds) (hal : AllAlike ds) (hk : SortX ds) (hu : ∀ d, d ∈ ds → A.units + d.depth < cLine) : SortsAt prog w A s (dataKind s.heap ds) vs := by
  rcases hk with hk | ⟨ht, r, rfl⟩
  · exact SortsAt.data e hal hk hu
  refine ⟨fun v hv => ?_, oneType', ?_, fun h2 E Q hq => ?_⟩
  · obtain ⟨d, hd, as, r⟩ := e.left v hv
    exact ⟨_, dataKind_some hal hd r⟩
  · intro E x y a b Q ha hb hq
    obtain ⟨d, as, hd, ra, rfl⟩ := dataKind_inv ha
    obtain ⟨d', as', hd', rb, rfl⟩ := dataKind_inv hb
    rw [keyLt'_oneType]
    obtain ⟨xs, rfl⟩ := ht d hd
    obtain ⟨ys, rfl⟩ := ht d' hd'
    have q := hal _ hd _ hd'
    rw [alike] at q
    exact oneLt_tup ra rb q (Nat.lt_of_le_of_lt (Nat.add_le_add_left (Nat.min_le_left _ _) _) (hu _ hd)) hq
  · have isT : ∀ v d, (∃ xs, d = PyData.tuple xs) → (∃ as, Reads s.heap v d as) → ∃ a its, v = .ref a ∧ IsTup s.heap a its := fun v d ⟨xs, e⟩ ⟨as, r⟩ => by
      subst e
      cases r with
      | tuple h1 h2 h3 h4 => exact ⟨_, _, rfl, _, h1, h2, _, h3⟩
    cases e with
    | cons r0 t =>
      rename_i v0 vs'
      obtain ⟨as, r0⟩ := r0
      cases r0 with
      | @tuple l o its n _ as₁ h1 h2 h3 h4 =>
        have hz : its = #[] := by
          have := SeqAt.ReadsAll.length _ _ _ h4
          apply Array.eq_empty_of_size_eq_zero
          simpa using this
        subst hz
        match vs', t, h2 with
        | [], _, _ => exact absurd (show 2 ≤ 1 from by assumption) (by decide)
        | v2 :: rest, t, _ =>
          exact kind_tups ⟨_, h1, by assumption, _, h3⟩ (fun v hv => by
            obtain ⟨d, hd, as, r⟩ := t.left v hv
            exact isT v d (ht d (List.mem_cons_of_mem _ hd)) ⟨as, r⟩) hq
theorem sorted_ldata {β : Type} {R : Value → β → Prop} {enc : β → PyData} {bs : List β} {vs : List Value} {l : Addr} {Q : Value → Shared → Prop} (hl : s.heap.IsList l vs.toArray) (e : EachIs R vs bs) (er : EachIs (fun v b => ∃ as, Reads s.heap v (enc b) as) vs bs) (hal : AllAlike (bs.map enc)) (hk : SortX (bs.map enc)) (hL : bs.length ≤ sizeLine)
    (hu : ∀ b, b ∈ bs → A.units + 2 + (enc b).depth < cLine) (h : ∀ out, out.length = bs.length → EachIs R out (bs.mergeSort (dataLe false enc)) → Q (.ref (s.heap.objs.size + 1)) { s with heap := sortedAll s.heap vs (List.toArray out) }) :
    wpAny (model prog w) A (call (.builtin "sorted") [.ref l]) Q E s := by
  have er2 : EachIs (fun v b => ∃ as, Reads (sortingHeap (copyHeap s.heap vs) (s.heap.objs.size + 1) vs) v (enc b) as) vs bs := er.mono fun _ _ ⟨as, r⟩ => ⟨as, PyProof.Rows.Reads.keeps (fun _ _ => sorting_copy_old) r⟩
  exact sorted_vals hl (sortsX (s := { s with heap := sortingHeap (copyHeap s.heap vs) (s.heap.objs.size + 1) vs }) (each_map (R := fun v d => ∃ as, Reads (sortingHeap (copyHeap s.heap vs) (s.heap.objs.size + 1) vs) v d as) enc er2) hal hk (bound_map hu)) (by rw [e.length]; exact hL)
    (h _ (by rw [sortVals_length false rfl]; exact e.length) (sortVals_data false e er2 hal))
theorem sorted_tdata {β : Type} {R : Value → β → Prop} {enc : β → PyData} {bs : List β} {vs : List Value} {l : Addr} {Q : Value → Shared → Prop} (hl : IsTup s.heap l vs.toArray) (e : EachIs R vs bs) (er : EachIs (fun v b => ∃ as, Reads s.heap v (enc b) as) vs bs) (hal : AllAlike (bs.map enc)) (hk : SortX (bs.map enc)) (hL : bs.length ≤ sizeLine)
    (hu : ∀ b, b ∈ bs → A.units + 2 + (enc b).depth < cLine) (h : ∀ out, out.length = bs.length → EachIs R out (bs.mergeSort (dataLe false enc)) → Q (.ref (s.heap.objs.size + 1)) { s with heap := sortedAll s.heap vs (List.toArray out) }) :
    wpAny (model prog w) A (call (.builtin "sorted") [.ref l]) Q E s := by
  have er2 : EachIs (fun v b => ∃ as, Reads (sortingHeap (copyHeap s.heap vs) (s.heap.objs.size + 1) vs) v (enc b) as) vs bs := er.mono fun _ _ ⟨as, r⟩ => ⟨as, PyProof.Rows.Reads.keeps (fun _ _ => sorting_copy_old) r⟩
  exact sorted_of_tup hl (by rw [e.length]; exact hL) (sortsX (s := { s with heap := sortingHeap (copyHeap s.heap vs) (s.heap.objs.size + 1) vs }) (each_map (R := fun v d => ∃ as, Reads (sortingHeap (copyHeap s.heap vs) (s.heap.objs.size + 1) vs) v d as) enc er2) hal hk (bound_map hu))
    (h _ (by rw [sortVals_length false rfl]; exact e.length) (sortVals_data false e er2 hal))
end
end PySem.W
namespace DL
open PySem PySem.Spec PyProof.Rows L2 Evl
theorem toPyL_each {l : List D} {ps : List PyData} (h : toPy.toPyL l = some ps) : ∀ d ∈ l, toPy d = some (encD d) := by
  induction l generalizing ps with
  | nil => exact fun d hd => absurd hd List.not_mem_nil
  | cons x l ih =>
    have h' : (match toPy x, toPy.toPyL l with
      | some p, some q => some (p :: q)
      | _, _ => none) = some ps := h
    cases hp : toPy x with
    | none => rw [hp] at h'; cases h'
    | some p =>
      cases hq : toPy.toPyL l with
      | none => rw [hp, hq] at h'; cases h'
      | some q =>
        intro d hd
        rcases List.mem_cons.mp hd with rfl | hd
        · unfold encD
          rw [hp]
          rfl
        · exact ih hq d hd
section
variable {K : PySem.W.Frag} {A : AP} {H : Hp}
theorem each_zip : ∀ {l : List D} {vs : List V} {its : List Value}, vs.length = l.length → Vals vs its → PySem.W.EachIs (fun u (b : D × V) => RelV b.2 u) its (l.zip vs)
  | [], [], its, _, r => by cases r; exact .nil
  | d :: l, v :: vs, its, h, r => by
    cases r with
    | cons r1 r2 => exact .cons r1 (each_zip (Nat.succ.inj h) r2)
  | [], _ :: _, _, h, _ => by cases h
  | _ :: _, [], _, h, _ => by cases h
theorem vals_of_each : ∀ {out : List Value} {S : List (D × V)}, PySem.W.EachIs (fun u (b : D × V) => RelV b.2 u) out S → Vals (S.map (·.2)) out
  | _, _, .nil => .nil
  | _, _, .cons r t => .cons r (vals_of_each t)
theorem rep_zip : ∀ {l : List D} {vs : List V}, RepL K A H l vs → ∀ b ∈ l.zip vs, Rep K A H b.1 b.2
  | [], _, h, b, hb => by rw [List.zip_nil_left] at hb; exact absurd hb List.not_mem_nil
  | d :: l, _, h, b, hb => by
    obtain ⟨v, r, rfl, h1, h2⟩ := h
    rw [List.zip_cons_cons] at hb
    rcases List.mem_cons.mp hb with rfl | hb
    · exact h1
    · exact rep_zip h2 b hb
theorem repL_pairs : ∀ {S : List (D × V)}, (∀ b ∈ S, Rep K A H b.1 b.2) → RepL K A H (S.map (·.1)) (S.map (·.2))
  | [], _ => rfl
  | b :: S, h => ⟨b.2, S.map (·.2), rfl, h b List.mem_cons_self, repL_pairs fun x hx => h x (List.mem_cons_of_mem _ hx)⟩
theorem zip_fst : ∀ {l : List D} {vs : List V}, vs.length = l.length → (l.zip vs).map (·.1) = l
  | [], [], _ => rfl
  | d :: l, v :: vs, h => by rw [List.zip_cons_cons, List.map_cons, zip_fst (Nat.succ.inj h)]
  | [], _ :: _, h => by cases h
  | _ :: _, [], h => by cases h
end
section
variable {X : Cx} {pins : List (Addr × Obj)} {σ : L2.St} {H : Hp} {s : Shared} {A : AP}
theorem each_reads (I : Inv X pins σ H s) : ∀ {l : List D} {vs : List V} {its : List Value}, (∀ d ∈ l, toPy d = some (encD d)) → RepL X.K A H l vs → Vals vs its → PySem.W.EachIs (fun u (b : D × V) => ∃ as, Reads s.heap u (encD b.1) as) its (l.zip vs)
  | [], vs, its, _, h, r => by
    rw [show vs = [] from h] at r
    cases r
    exact .nil
  | d :: l, vs, its, ht, h, r => by
    obtain ⟨v, rest, rfl, h1, h2⟩ := h
    cases r with
    | cons r1 r2 => exact .cons (Dp.reads I _ _ _ (toPy_dp d _ v (ht d List.mem_cons_self) (.inl h1)) r1) (each_reads I (fun d hd => ht d (List.mem_cons_of_mem _ hd)) h2 r2)
theorem sort_run (hu : X.A.units + 65 < cLine) (I : Inv X pins σ H s) {a : Addr} {l : List D} {vs : List V} (hs : SqL X.K H a vs ∨ SqT X.K H a vs) (hl : RepL X.K A H l vs) (hC : SortC l) {Q : Value → Shared → Prop} {E : Value → Shared → Prop}
    (q : ∀ (us : List V) (p : Addr) (h' : Heap), RepL X.K A H (sortD l) us → H p = none → Inv X pins σ (upd H p (.lst us)) { s with heap := h' } → Q (.ref p) { s with heap := h' }) :
    wpAny (model X.prog X.w) X.A (call (.builtin "sorted") [.ref a]) Q E s := by
  obtain ⟨⟨ps, hp⟩, hal, hk, hd⟩ := hC
  have ht := toPyL_each hp
  have hlen := RepL.length hl
  have e1 : (l.zip vs).map (fun b : D × V => encD b.1) = l.map encD := by
    have : (l.zip vs).map (fun b : D × V => encD b.1) = ((l.zip vs).map (·.1)).map encD := by rw [List.map_map]; rfl
    rw [this, zip_fst hlen]
  have zl : (l.zip vs).length = vs.length := by rw [List.length_zip]; omega
  have srt : ((l.zip vs).mergeSort (PySem.W.dataLe false fun b : D × V => encD b.1)).map (·.1) = sortD l := by
    unfold sortD
    have e := List.map_mergeSort (r := PySem.W.dataLe false fun b : D × V => encD b.1) (s := PySem.W.dataLe false encD) (f := fun b : D × V => b.1) (l := l.zip vs) fun x _ y _ => rfl
    rw [zip_fst hlen] at e
    exact e
  have fin : ∀ (its : List Value), Vals vs its → vs.length ≤ sizeLine → ∀ out : List Value, out.length = (l.zip vs).length → PySem.W.EachIs (fun u (b : D × V) => RelV b.2 u) out ((l.zip vs).mergeSort (PySem.W.dataLe false fun b : D × V => encD b.1)) →
      Q (.ref (s.heap.objs.size + 1)) { s with heap := PyProof.Rows.sortedAll s.heap its (List.toArray out) } := by
    intro its rv hz out ho eo
    obtain ⟨ep, he⟩ := PyProof.Rows.sortedAll_at s.heap its out.toArray
    have rr := repL_pairs (K := X.K) (A := A) (H := H) (S := (l.zip vs).mergeSort (PySem.W.dataLe false fun b : D × V => encD b.1)) fun b hb => rep_zip hl b (List.mem_mergeSort.mp hb)
    rw [srt] at rr
    have hv := vals_of_each eo
    refine q _ _ _ rr (I.hok.fresh (Nat.le_succ _)) (I.laid (t' := s.toks) (fun _ _ => PyProof.Rows.sortedAll_old) (Nat.le_succ _) ⟨?_, out, ep, hv, he⟩)
    rw [List.length_map, List.length_mergeSort, zl]
    exact hz
  have hub : ∀ b, b ∈ l.zip vs → X.A.units + 2 + (encD b.1).depth < cLine := fun b hb => by
    have := hd b.1 (List.of_mem_zip hb).1
    omega
  rcases hs with hs | hs
  · obtain ⟨its, rv, hL, hz⟩ := I.list hs
    exact PySem.W.sorted_ldata (enc := fun b : D × V => encD b.1) hL.isList (each_zip hlen rv) (each_reads I ht hl rv) (by rw [e1]; exact hal) (by rw [e1]; exact hk) (by rw [zl]; exact hz) hub (fin its rv hz)
  · obtain ⟨its, rv, hL, hz⟩ := I.tuple hs
    exact PySem.W.sorted_tdata (enc := fun b : D × V => encD b.1) hL (each_zip hlen rv) (each_reads I ht hl rv) (by rw [e1]; exact hal) (by rw [e1]; exact hk) (by rw [zl]; exact hz) hub (fin its rv hz)
end
end DL

/-! DW: more operations by values -/
namespace DL
open PySem PySem.Spec PyProof.Rows L2 Evl

section
variable {X : Cx}
theorem op_innD (hu : X.A.units + 65 < cLine) (neg : Bool) : OpR X (compareOp (if neg then .NotIn else .In)) (r2D X.K (innD neg)) := by
  intro pins s σ H x y v u Q I rx ry h
  obtain ⟨A, dx, dy, Qd, hA, hx, hy, hb, hq⟩ := h
  unfold innD at hb
  split at hb
  · obtain ⟨c, rfl, q⟩ := hb
    obtain rfl := rb_str hx
    obtain rfl := rb_str hy
    cases neg with
    | true => exact op_notIn_sign pins s σ H _ _ v u Q I rx ry ⟨c, _, rfl, rfl, hq _ q _ _ (Ex.refl _) rfl⟩
    | false => exact op_in_sign pins s σ H _ _ v u Q I rx ry ⟨c, _, rfl, rfl, hq _ q _ _ (Ex.refl _) rfl⟩
  · obtain ⟨p, ps, h1, h2, s1, s2, q⟩ := hb
    have d1 := toPy_dp _ _ _ h1 hx
    have d2 : Dp X.K H y (.list ps) := toPy_dp _ _ _ (by show (toPy.toPyL _).map PyData.list = _; rw [h2]; rfl) hy
    cases neg with
    | true => exact op_notInD hu pins s σ H _ _ v u Q I rx ry ⟨p, ps, d1, d2, s1, s2, hq _ q _ _ (Ex.refl _) rfl⟩
    | false => exact op_inD hu pins s σ H _ _ v u Q I rx ry ⟨p, ps, d1, d2, s1, s2, hq _ q _ _ (Ex.refl _) rfl⟩
  · obtain ⟨p, ps, h1, h2, s1, s2, q⟩ := hb
    have d1 := toPy_dp _ _ _ h1 hx
    have d2 : Dp X.K H y (.tuple ps) := toPy_dp _ _ _ (by show (toPy.toPyL _).map PyData.tuple = _; rw [h2]; rfl) hy
    obtain ⟨as, r1⟩ := Dp.reads I p x v d1 rx
    obtain ⟨bs, r2⟩ := Dp.reads I _ y u d2 ry
    cases neg with
    | true => exact SeqAt.notIn_tuple_reads r2 r1 (SeqAt.canLay_of_shaped s2) (SeqAt.canLay_of_shaped s1) (room_in_shaped s1 hu) ⟨.bl _, H, I, rfl, hq _ q _ _ (Ex.refl _) rfl⟩
    | false => exact SeqAt.in_tuple_reads r2 r1 (SeqAt.canLay_of_shaped s2) (SeqAt.canLay_of_shaped s1) (room_in_shaped s1 hu) ⟨.bl _, H, I, rfl, hq _ q _ _ (Ex.refl _) rfl⟩
  · obtain ⟨p, ps, h1, h2, s1, s2, q⟩ := hb
    have d1 := toPy_dp _ _ _ h1 hx
    have d2 : Dp X.K H y (.tuple ps) := toPy_dp _ _ _ (by show (toPy.toPyL _).map PyData.tuple = _; rw [h2]; rfl) hy
    obtain ⟨as, r1⟩ := Dp.reads I p x v d1 rx
    obtain ⟨bs, r2⟩ := Dp.reads I _ y u d2 ry
    cases neg with
    | true => exact SeqAt.notIn_tuple_reads r2 r1 (SeqAt.canLay_of_shaped s2) (SeqAt.canLay_of_shaped s1) (room_in_shaped s1 hu) ⟨.bl _, H, I, rfl, hq _ q _ _ (Ex.refl _) rfl⟩
    | false => exact SeqAt.in_tuple_reads r2 r1 (SeqAt.canLay_of_shaped s2) (SeqAt.canLay_of_shaped s1) (room_in_shaped s1 hu) ⟨.bl _, H, I, rfl, hq _ q _ _ (Ex.refl _) rfl⟩
  · exact hb.elim

theorem atI_rep {K : PySem.W.Frag} {A : AP} {H : Hp} {l : List D} {vs : List V} (r : RepL K A H l vs) {i : Int} {d : D} (h : atI l i = some d) : ∃ v, atI vs i = some v ∧ Rep K A H d v := by
  unfold atI at h ⊢
  rw [RepL.length r]
  cases e : ixN l.length i with
  | none =>
    rw [e] at h
    cases h
  | some j =>
    rw [e] at h
    exact RepL.get r h
theorem ix_subD : IxR X (r2D X.K subD) := by
  intro value slice pins s σ H x y v u Q I rx ry h hs
  obtain ⟨A, dx, dy, Qd, hA, hx, hy, hb, hq⟩ := h
  unfold subD at hb
  split at hb
  · obtain ⟨d, h1, q⟩ := hb
    obtain ⟨a, vs, rfl, ha, hl⟩ := rb_lst hx
    obtain rfl := rb_int hy
    obtain ⟨z, h2, rz⟩ := atI_rep hl h1
    exact ix_list value slice pins s σ H _ _ v u Q I rx ry ⟨a, vs, _, z, rfl, rfl, .inl (.inl ha), h2, hq _ q _ _ (Ex.refl _) rz⟩ hs
  · obtain ⟨d, h1, q⟩ := hb
    obtain ⟨a, vs, rfl, ha, hl⟩ := rb_tup hx
    obtain rfl := rb_int hy
    obtain ⟨z, h2, rz⟩ := atI_rep hl h1
    exact ix_tup value slice pins s σ H _ _ v u Q I rx ry ⟨a, vs, _, z, rfl, rfl, ha, h2, hq _ q _ _ (Ex.refl _) rz⟩ hs
  · obtain ⟨d, h1, q⟩ := hb
    obtain ⟨a, vs, rfl, ha, hl⟩ := rb_kt hx
    obtain rfl := rb_int hy
    obtain ⟨z, h2, rz⟩ := atI_rep hl h1
    exact ix_tup value slice pins s σ H _ _ v u Q I rx ry ⟨a, vs, _, z, rfl, rfl, ha, h2, hq _ q _ _ (Ex.refl _) rz⟩ hs
  · obtain ⟨c, hz, h1, q⟩ := hb
    obtain rfl := rb_str hx
    obtain rfl := rb_int hy
    exact ix_str value slice pins s σ H _ _ v u Q I rx ry ⟨_, _, c, rfl, rfl, hz, h1, hq _ q _ _ (Ex.refl _) rfl⟩ hs
  · exact hb.elim
theorem cut_rep {K : PySem.W.Frag} {A : AP} {H : Hp} {l : List D} {vs : List V} (r : RepL K A H l vs) (lo hi : Option Int) : RepL K A H (cutL l lo hi) (cutV vs lo hi) := by
  unfold cutL cutV
  rw [RepL.length r]
  exact RepL.take _ (RepL.drop _ r)
theorem cut_whole {α : Type} (l : List α) (lo hi : Option Int) (h : HT.sIx l.length 0 lo = 0 ∧ HT.sIx l.length l.length hi = l.length) : cutL l lo hi = l := by
  unfold cutL
  rw [h.1, h.2]
  simp
theorem cut_map (f : Int → V) (l : List Int) (lo hi : Option Int) : cutV (l.map f) lo hi = (cutL l lo hi).map f := by
  unfold cutL cutV
  simp [List.map_take, List.map_drop]
def rSlD (K : PySem.W.Frag) : V → Option Int → Option Int → Hp → VK → Prop := fun x lo hi H Q => ∃ A d Qd, AOk A H ∧ RepB K A H d x ∧ sliceD d lo hi Qd ∧ Fin K A H Qd Q
theorem sl_D : SlR X (rSlD X.K) := by
  intro pins s σ H x v vl vu lo hi sl Q I rx hs pl pu h
  obtain ⟨A, d, Qd, hA, hx, hb, hq⟩ := h
  unfold sliceD at hb
  split at hb
  · obtain ⟨a, vs, rfl, ha, hl⟩ := rb_lst hx
    exact sl_list pins s σ H _ v vl vu lo hi sl Q I rx hs pl pu ⟨a, vs, rfl, .inl (.inl ha), fun p hp => hq _ hb _ _ (Ex.new hp) (rep_lst (hA.fresh hp) (cut_rep hl lo hi) hp)⟩
  · obtain ⟨a, vs, rfl, ha0, hl⟩ := rb_tup0 hx
    have ha : SqT X.K H a vs := .inl (.inl ha0)
    refine sl_tupA pins s σ H _ v vl vu lo hi sl Q I rx hs pl pu ⟨a, vs, rfl, ha, fun hw => ?_, fun _ p hp => hq _ hb _ _ (Ex.new hp) (rep_tup (cut_rep hl lo hi) hp)⟩
    rw [RepL.length hl] at hw
    rw [cut_whole _ lo hi hw] at hb
    exact hq _ hb _ _ (Ex.refl _) ⟨a, vs, rfl, ha0, hl⟩
  · obtain rfl := rb_str hx
    exact sl_str pins s σ H _ v vl vu lo hi sl Q I rx hs pl pu ⟨_, rfl, hb.1, hq _ hb.2 _ _ (Ex.refl _) rfl⟩
  · obtain ⟨a, rfl, ha⟩ := rb_scr hx
    refine sl_list pins s σ H _ v vl vu lo hi sl Q I rx hs pl pu ⟨a, _, rfl, ha, fun p hp => ?_⟩
    rw [cut_map]
    exact hq _ hb _ _ (Ex.new hp) (rep_lst (hA.fresh hp) (repL_map (f := D.int) (g := V.int) (fun _ => rfl) _) hp)
  · exact hb.elim

/-! built-in functions -/
def bfVal : BF → Value
  | .int => .type "int" | .str => .type "str" | .list => .type "list" | .tuple => .type "tuple"
  | f => .builtin (match f with
    | .len => "len" | .all => "all" | .any => "any" | .sum => "sum" | .max => "max" | .min => "min" | .max2 => "max" | .min2 => "min" | .abs => "abs" | .repr => "repr" | .sorted => "sorted" | _ => "")
def rBf (K : PySem.W.Frag) (f : BF) : List V → Hp → VK → Prop := fun xs H Q => ∃ A ds Qd, AOk A H ∧ RepBL K A H ds xs ∧ bfD f ds Qd ∧ Fin K A H Qd Q
theorem rbl_one {K : PySem.W.Frag} {A : AP} {H : Hp} {d : D} {vs : List V} (h : RepBL K A H [d] vs) : ∃ v, vs = [v] ∧ RepB K A H d v := by
  obtain ⟨v, r, rfl, h1, h2⟩ := h
  rw [show r = [] from h2]
  exact ⟨v, rfl, h1⟩
theorem rbl_two {K : PySem.W.Frag} {A : AP} {H : Hp} {d e : D} {vs : List V} (h : RepBL K A H [d, e] vs) : ∃ v u, vs = [v, u] ∧ RepB K A H d v ∧ RepB K A H e u := by
  obtain ⟨v, r, rfl, h1, h2⟩ := h
  obtain ⟨u, rfl, h3⟩ := rbl_one h2
  exact ⟨v, u, rfl, h1, h3⟩
theorem repK_len {K : PySem.W.Frag} {A : AP} {H : Hp} : ∀ {l : List (Key × D)} {vs : List (Key × V)}, RepK K A H l vs → vs.length = l.length ∧ vs.map (·.1) = l.map (·.1)
  | [], _, h => by rw [show _ = [] from h]; exact ⟨rfl, rfl⟩
  | (k, d) :: l, _, h => by
    obtain ⟨v, r, rfl, _, h2⟩ := h
    obtain ⟨e1, e2⟩ := repK_len h2
    exact ⟨by rw [List.length_cons, List.length_cons, e1], by rw [List.map_cons, List.map_cons, e2]⟩
theorem repT_len {K : PySem.W.Frag} {A : AP} {H : Hp} : ∀ {l : List (List Key × D)} {vs : List (List Key × V)}, RepT K A H l vs → vs.length = l.length ∧ vs.map (·.1) = l.map (·.1)
  | [], _, h => by rw [show _ = [] from h]; exact ⟨rfl, rfl⟩
  | (k, d) :: l, _, h => by
    obtain ⟨v, r, rfl, _, h2⟩ := h
    obtain ⟨e1, e2⟩ := repT_len h2
    exact ⟨by rw [List.length_cons, List.length_cons, e1], by rw [List.map_cons, List.map_cons, e2]⟩
theorem rep_key {K : PySem.W.Frag} {A : AP} {H : Hp} : ∀ k : Key, Rep K A H (dK k) (kV k)
  | .inl _ => rfl
  | .inr _ => rfl
theorem Rd.cases {H : Hp} {a : Addr} {u : HO} (h : Rd H a u) : (H a = some u) ∨ ∃ o, H a = some (.frz o u) := h
theorem bfRule (hc : X.calm = true) (hu : X.A.units + 65 < cLine) (hgu : X.A.guards = some []) (f : BF) : CallR X (bfVal f) (rBf X.K f) := by
  intro pins s σ H xs us Q I r h
  obtain ⟨A, ds, Qd, hA, hx, hb, hq⟩ := h
  unfold bfD at hb
  split at hb
  · obtain ⟨v, rfl, h1⟩ := rbl_one hx
    obtain ⟨a, vs, rfl, ha, hl⟩ := rb_lst h1
    rw [← RepL.length hl] at hb
    exact call_len_seq pins s σ H _ us Q I r ⟨a, vs, rfl, .inl (.inl (.inl ha)), hq _ hb _ _ (Ex.refl _) rfl⟩
  · obtain ⟨v, rfl, h1⟩ := rbl_one hx
    obtain ⟨a, vs, rfl, ha, hl⟩ := rb_tup h1
    rw [← RepL.length hl] at hb
    exact call_len_seq pins s σ H _ us Q I r ⟨a, vs, rfl, .inr ha, hq _ hb _ _ (Ex.refl _) rfl⟩
  · obtain ⟨v, rfl, h1⟩ := rbl_one hx
    obtain ⟨a, vs, rfl, ha, hl⟩ := rb_kt h1
    rw [← RepL.length hl] at hb
    exact call_len_seq pins s σ H _ us Q I r ⟨a, vs, rfl, .inr ha, hq _ hb _ _ (Ex.refl _) rfl⟩
  · obtain ⟨v, rfl, h1⟩ := rbl_one hx
    obtain rfl := rb_str h1
    exact call_len_str pins s σ H _ us Q I r ⟨_, rfl, hb.1, hq _ hb.2 _ _ (Ex.refl _) rfl⟩
  · obtain ⟨v, rfl, h1⟩ := rbl_one hx
    obtain ⟨a, vs, rfl, ha, hl⟩ := rb_dic h1
    rw [← (repK_len hl).1] at hb
    obtain ⟨u, rfl, ru⟩ := vals1 r
    cases ru
    exact d_len I ha fun t s' I' => ⟨.int vs.length, H, I', ⟨t, rfl⟩, hq _ hb _ _ (Ex.refl _) rfl⟩
  · obtain ⟨v, rfl, h1⟩ := rbl_one hx
    obtain ⟨bs, rfl, q⟩ := hb
    obtain ⟨a, vs, rfl, ha, hl⟩ := rb_lst h1
    obtain rfl := repL_of_map (f := D.bl) (g := V.bl) (fun _ _ z => z) hl
    exact cr_all hc pins s σ H _ us Q I r ⟨a, bs, rfl, .inl (.inl ha), hq _ q _ _ (Ex.refl _) rfl⟩
  · obtain ⟨v, rfl, h1⟩ := rbl_one hx
    obtain ⟨bs, rfl, q⟩ := hb
    obtain ⟨a, vs, rfl, ha, hl⟩ := rb_lst h1
    obtain rfl := repL_of_map (f := D.bl) (g := V.bl) (fun _ _ z => z) hl
    exact cr_any hc pins s σ H _ us Q I r ⟨a, bs, rfl, .inl (.inl ha), hq _ q _ _ (Ex.refl _) rfl⟩
  · obtain ⟨v, rfl, h1⟩ := rbl_one hx
    obtain ⟨bs, rfl, q⟩ := hb
    obtain ⟨a, vs, rfl, ha, hl⟩ := rb_lst h1
    obtain rfl := repL_of_map (f := D.int) (g := V.int) (fun _ _ z => z) hl
    exact cr_sum hc pins s σ H _ us Q I r ⟨a, bs, rfl, .inl (.inl ha), hq _ q _ _ (Ex.refl _) rfl⟩
  · obtain ⟨v, rfl, h1⟩ := rbl_one hx
    obtain ⟨bs, rfl, hn, q⟩ := hb
    obtain ⟨a, vs, rfl, ha, hl⟩ := rb_lst h1
    obtain rfl := repL_of_map (f := D.int) (g := V.int) (fun _ _ z => z) hl
    exact cr_max hc pins s σ H _ us Q I r ⟨a, bs, rfl, .inl (.inl ha), hn, fun m h1 h2 => hq _ (q m h1 h2) _ _ (Ex.refl _) rfl⟩
  · obtain ⟨v, rfl, h1⟩ := rbl_one hx
    obtain ⟨bs, rfl, hn, q⟩ := hb
    obtain ⟨a, vs, rfl, ha, hl⟩ := rb_lst h1
    obtain rfl := repL_of_map (f := D.int) (g := V.int) (fun _ _ z => z) hl
    exact cr_min hc pins s σ H _ us Q I r ⟨a, bs, rfl, .inl (.inl ha), hn, fun m h1 h2 => hq _ (q m h1 h2) _ _ (Ex.refl _) rfl⟩
  · obtain ⟨v, u, rfl, h1, h2⟩ := rbl_two hx
    obtain rfl := rb_int h1
    obtain rfl := rb_int h2
    exact call_max2 hc pins s σ H _ us Q I r ⟨_, _, rfl, hq _ hb _ _ (Ex.refl _) rfl⟩
  · obtain ⟨v, u, rfl, h1, h2⟩ := rbl_two hx
    obtain rfl := rb_int h1
    obtain rfl := rb_int h2
    exact call_min2 hc pins s σ H _ us Q I r ⟨_, _, rfl, hq _ hb _ _ (Ex.refl _) rfl⟩
  · obtain ⟨v, rfl, h1⟩ := rbl_one hx
    obtain rfl := rb_int h1
    exact call_abs pins s σ H _ us Q I r ⟨_, rfl, hq _ hb _ _ (Ex.refl _) rfl⟩
  · obtain ⟨v, rfl, h1⟩ := rbl_one hx
    obtain rfl := rb_int h1
    exact call_int1 pins s σ H _ us Q I r (.inl ⟨_, rfl, hq _ hb _ _ (Ex.refl _) rfl⟩)
  · obtain ⟨v, rfl, h1⟩ := rbl_one hx
    obtain rfl := rb_bl h1
    exact call_int1 pins s σ H _ us Q I r (.inr ⟨_, rfl, hq _ hb _ _ (Ex.refl _) rfl⟩)
  · obtain ⟨v, rfl, h1⟩ := rbl_one hx
    obtain ⟨p, e, h2, h3, h4, h5, q⟩ := hb
    have d1 := toPy_dp _ (.tuple p) v (by show (toPy.toPyL _).map PyData.tuple = _; rw [e]; rfl) h1
    obtain ⟨a, ws, rfl, _⟩ := rb_tup h1
    obtain ⟨u, rfl, ru⟩ := vals1 r
    cases ru
    obtain ⟨bs, r1⟩ := Dp.reads I _ _ _ d1 rfl
    exact PySem.repr_of_reads' r1 h2 (fun z => by rw [h3] at z; cases z) hgu (by omega) (fun _ _ z => z) (fun h' t tk hk => ⟨.str _, H, I.kept (t' := tk) hk, ⟨t, rfl⟩, hq _ q _ _ (Ex.refl _) rfl⟩) h5
  · obtain ⟨v, rfl, h1⟩ := rbl_one hx
    obtain ⟨p, e, h2, h3, h4, h5, q⟩ := hb
    have d1 := toPy_dp _ (.list p) v (by show (toPy.toPyL _).map PyData.list = _; rw [e]; rfl) h1
    obtain ⟨a, ws, rfl, _⟩ := rb_lst h1
    obtain ⟨u, rfl, ru⟩ := vals1 r
    cases ru
    obtain ⟨bs, r1⟩ := Dp.reads I _ _ _ d1 rfl
    exact PySem.repr_of_reads' r1 h2 (fun z => by rw [h3] at z; cases z) hgu (by omega) (fun _ _ z => z) (fun h' t tk hk => ⟨.str _, H, I.kept (t' := tk) hk, ⟨t, rfl⟩, hq _ q _ _ (Ex.refl _) rfl⟩) h5
  · obtain ⟨v, rfl, h1⟩ := rbl_one hx
    obtain rfl := rb_int h1
    exact call_str_int pins s σ H _ us Q I r ⟨_, rfl, hb.1, hq _ hb.2 _ _ (Ex.refl _) rfl⟩
  · obtain ⟨v, rfl, h1⟩ := rbl_one hx
    obtain ⟨a, vs, rfl, ha, hl⟩ := rb_lst h1
    exact call_list_of pins s σ H _ us Q I r ⟨a, vs, rfl, .inl (.inl (.inl ha)), fun p hp => hq _ hb _ _ (Ex.new hp) (rep_lst (hA.fresh hp) hl hp)⟩
  · obtain ⟨v, rfl, h1⟩ := rbl_one hx
    obtain ⟨a, vs, rfl, ha, hl⟩ := rb_tup h1
    exact call_list_of pins s σ H _ us Q I r ⟨a, vs, rfl, .inr ha, fun p hp => hq _ hb _ _ (Ex.new hp) (rep_lst (hA.fresh hp) hl hp)⟩
  · obtain ⟨v, rfl, h1⟩ := rbl_one hx
    obtain ⟨a, vs, rfl, ha, hl⟩ := rb_kt h1
    exact call_list_of pins s σ H _ us Q I r ⟨a, vs, rfl, .inr ha, fun p hp => hq _ hb _ _ (Ex.new hp) (rep_lst (hA.fresh hp) hl hp)⟩
  · obtain ⟨v, rfl, h1⟩ := rbl_one hx
    obtain ⟨a, vs, rfl, ha, hl⟩ := rb_dic h1
    refine call_listD hc pins s σ H _ us Q I r ⟨a, vs, rfl, ha, fun p hp => hq _ hb _ _ (Ex.new hp) (rep_lst (hA.fresh hp) ?_ hp)⟩
    have e := (repK_len hl).2
    have e2 : vs.map (fun kv => kV kv.1) = (vs.map (·.1)).map kV := by rw [List.map_map]; rfl
    rw [e2, e, List.map_map]
    exact repL_map (f := fun kv : Key × D => dK kv.1) (g := kV ∘ fun kv => kv.1) (fun x => rep_key x.1) _
  · obtain ⟨v, rfl, h1⟩ := rbl_one hx
    obtain ⟨a, vs, rfl, ha, hl⟩ := rb_lst h1
    exact call_tuple_of pins s σ H _ us Q I r ⟨a, vs, rfl, .inl ⟨.inl (.inl ha), fun p hp => hq _ hb _ _ (Ex.new hp) (rep_tup hl hp)⟩⟩
  · obtain ⟨v, rfl, h1⟩ := rbl_one hx
    obtain ⟨a, vs, rfl, ha, hl⟩ := rb_tup0 h1
    exact call_tuple_of pins s σ H _ us Q I r ⟨a, vs, rfl, .inr ⟨.inl (.inl ha), hq _ hb _ _ (Ex.refl _) ⟨a, vs, rfl, ha, hl⟩⟩⟩
  · obtain ⟨v, rfl, h1⟩ := rbl_one hx
    obtain ⟨a, vs, rfl, ha, hl⟩ := rb_lst h1
    obtain ⟨u, rfl, ru⟩ := vals1 r
    cases ru
    exact sort_run hu I (.inl (.inl (.inl ha))) hl hb.1 fun us p h' rr hp I' => ⟨.ref p, _, I', rfl, hq _ hb.2 _ _ (Ex.new hp) (rep_lst (hA.fresh hp) rr hp)⟩
  · obtain ⟨v, rfl, h1⟩ := rbl_one hx
    obtain ⟨a, vs, rfl, ha, hl⟩ := rb_tup h1
    obtain ⟨u, rfl, ru⟩ := vals1 r
    cases ru
    exact sort_run hu I (.inr ha) hl hb.1 fun us p h' rr hp I' => ⟨.ref p, _, I', rfl, hq _ hb.2 _ _ (Ex.new hp) (rep_lst (hA.fresh hp) rr hp)⟩
  · exact hb.elim
end
end DL

/-! DX: one rule a piece: expressions -/
namespace DL
open PySem PySem.Spec PyProof.Rows L2 Evl

theorem _root_.L2.PE.imp {X : Cx} {e : Expr} {t t' : TE} (h : PE X e t) (k : ∀ σ H Q, t' σ H Q → t σ H Q) : PE X e t' := ⟨fun pins s σ H Q I q => h.run pins s σ H Q I (k _ _ _ q)⟩
theorem _root_.L2.PA.imp {X : Cx} {e : List Expr} {t t' : TA} (h : PA X e t) (k : ∀ σ H Q, t' σ H Q → t σ H Q) : PA X e t' := ⟨fun pos pins s σ H Q I q => h.run pos pins s σ H Q I (k _ _ _ q)⟩
theorem _root_.L2.PT.imp {X : Cx} {e : Expr} {t t' : TT} (h : PT X e t) (k : ∀ σ H Q, t' σ H Q → t σ H Q) : PT X e t' := ⟨fun pins s σ H Q I q => h.run pins s σ H Q I (k _ _ _ q)⟩
theorem _root_.L2.PO.imp {X : Cx} {e : Option Expr} {t t' : TO} (h : PO X e t) (k : ∀ σ H Q, t' σ H Q → t σ H Q) : PO X e t' := ⟨fun pins s σ H Q I q => h.run pins s σ H Q I (k _ _ _ q)⟩
abbrev owf (ow : List Nat) : Nat → Bool := fun i => ow.contains i
theorem vis_of {sc : Scope} {x : Str} (h : visB sc x = true) : Vis sc x := by
  unfold visB at h
  split at h
  · exact .inl (by assumption)
  · exact .inr (.inl (by assumption))
  · exact .inr (.inr (by assumption))
  · cases h
theorem loc_of {sc : Scope} {x : Str} (h : locB sc x = true) : Loc sc x := by
  unfold locB at h
  split at h
  · exact .inl (by assumption)
  · exact .inr (by assumption)
  · cases h
theorem nm_of {x : Str} (h : okNm x = true) : (x == ("__debug__" : Str)) = false ∧ (x == ("__classdict__" : Str)) = false := by
  unfold okNm at h
  rw [Bool.and_eq_true, Bool.not_eq_true', Bool.not_eq_true'] at h
  exact h
theorem gl_of {X : Cx} {sc : Scope} {x : Str} (hs : X.env.scope = sc) (h : glB sc x = true) : Gl X x ∧ x ≠ "__debug__" ∧ x ≠ "__name__" := by
  unfold glB at h
  simp only [Bool.and_eq_true, decide_eq_true_eq] at h
  exact ⟨by show X.env.scope.names.lookup x = _; rw [hs]; exact h.1, h.2.1, h.2.2⟩

section
variable {T : Tb} {L : Nat} {W : WX} {X : Cx} {ow : List Nat}
theorem Res.of {K : PySem.W.Frag} {e : E} {A : AP} {H H' : Hp} {d : D} {v : V} (h : Rep K A H' d v) (hn : newB e = false) : Res K e A H H' d v := ⟨.inl h, fun _ => h, fun z => by rw [hn] at z; cases z⟩
theorem c_var {i : Nat} {x : Str} {pos : Pos} (hN : X.N[i]? = some x) (hv : Vis X.env.scope x) (hnm : okNm x = true) (ho : owf ow i = false) : PE X (.Name x pos) (rdE T X.K (owf ow) W (.var i)) := by
  refine (pe_var hN hv (nm_of hnm).1 (nm_of hnm).2).imp fun σ H Q h => ?_
  obtain ⟨B, O, ρ, xk, Qd, f, ⟨d, hd, hq⟩, hf⟩ := h
  obtain ⟨v, h1, h2⟩ := f.fr.fz i d ho hd
  exact ⟨v, h1, hf d hq v H (Ex.refl H) (Res.of h2 rfl)⟩
theorem c_own {i : Nat} {x : Str} {pos : Pos} (hN : X.N[i]? = some x) (hv : Vis X.env.scope x) (hnm : okNm x = true) (ho : owf ow i = true) : PE X (.Name x pos) (rdE T X.K (owf ow) W (.own i)) := by
  refine (pe_var hN hv (nm_of hnm).1 (nm_of hnm).2).imp fun σ H Q h => ?_
  obtain ⟨B, O, ρ, xk, Qd, f, ⟨d, hd, hq⟩, hf⟩ := h
  obtain ⟨a, h1, h2, h3⟩ := f.fr.ow i d ho hd
  exact ⟨_, h1, hf d hq _ H (Ex.refl H) ⟨.inr ⟨a, rfl, h3⟩, ⟨fun z => absurd (show (true : Bool) = false from z) (by decide), fun z => absurd (show (false : Bool) = true from z) (by decide)⟩⟩⟩
theorem c_con {d : D} {c : Const} {k : Nat} {pos : Pos} (h : conB d c = true) : PE X (.Constant c k pos) (rdE T X.K (owf ow) W (.con d)) := by
  unfold conB at h
  split at h
  · refine pe_non.imp fun σ H Q h => ?_
    obtain ⟨B, O, ρ, xk, Qd, f, hq, hf⟩ := h
    exact hf _ hq _ H (Ex.refl H) (Res.of rfl rfl)
  · rw [beq_iff_eq.mp h]
    refine pe_bl.imp fun σ H Q h => ?_
    obtain ⟨B, O, ρ, xk, Qd, f, hq, hf⟩ := h
    exact hf _ hq _ H (Ex.refl H) (Res.of rfl rfl)
  · rw [of_decide_eq_true h]
    refine pe_int.imp fun σ H Q h => ?_
    obtain ⟨B, O, ρ, xk, Qd, f, hq, hf⟩ := h
    exact hf _ hq _ H (Ex.refl H) (Res.of rfl rfl)
  · rw [of_decide_eq_true h]
    refine pe_str.imp fun σ H Q h => ?_
    obtain ⟨B, O, ρ, xk, Qd, f, hq, hf⟩ := h
    exact hf _ hq _ H (Ex.refl H) (Res.of rfl rfl)
  · cases h
theorem c_glob (G : Good T L W X) {x : Str} {pos : Pos} (hg : Gl X x) (hd : x ≠ "__debug__") : PE X (.Name x pos) (rdE T X.K (owf ow) W (.glob x)) := by
  refine ⟨fun pins s σ H Q I h => ?_⟩
  obtain ⟨B, O, ρ, xk, Qd, f, ⟨d, hd', hq⟩, hf⟩ := h
  obtain ⟨u, v, hm, r, rep⟩ := G.tab.glob x d hd'
  exact ld_glob I hg hm ⟨v, H, I, r, hf d hq v H (Ex.refl H) (Res.of (rep _ _) rfl)⟩ (beq_eq_false_iff_ne.mpr hd)
/-- two operands, then an operation on values -/
theorem two {K : PySem.W.Frag} {own : Nat → Bool} {a b : E} {g : D → D → DK → Prop} {B O : AP} {ρ : DE} {xk : EK} {Qd : DK} {σ : L2.St} {H : Hp} {Q : VK} (f : FX K own W xk B O (dcE T a + dcE T b) H σ ρ) (hw : wpE T xk a ρ fun x => wpE T xk b ρ fun y => g x y Qd)
    (hf : ∀ d, Qd d → ∀ v H', Ex (dcE T a + dcE T b) H H' → Rep K (U B O) H' d v → Q v H') : rdE T K own W a σ H fun x H1 => rdE T K own W b σ H1 fun y H2 => r2D K g x y H2 Q :=
  ⟨B, O, ρ, xk, _, f.l, hw, fun dx hx v H1 e1 r1 => ⟨B, O, ρ, xk, _, f.ex e1, hx, fun dy hy u H2 e2 r2 => ⟨U B O, dx, dy, Qd, ((f.fr.ex e1).ex e2).mt, r1.1.ex e2, r2.1, hy, fun d hd v' H' e3 r3 => hf d hd v' H' ((e1.trans e2).trans e3) r3⟩⟩⟩
theorem c_op {e a b : E} {g : D → D → DK → Prop} {fo : Value → Value → Sem Value} {ta : TE} (hn : newB e = false) (hd : dcE T e = dcE T a + dcE T b) (hw : ∀ xk ρ Qd, wpE T xk e ρ Qd → wpE T xk a ρ fun x => wpE T xk b ρ fun y => g x y Qd) {σ : L2.St} {H : Hp} {Q : VK}
    (h : rdE T X.K (owf ow) W e σ H Q) : tOp (r2D X.K g) (rdE T X.K (owf ow) W a) (rdE T X.K (owf ow) W b) σ H Q := by
  obtain ⟨B, O, ρ, xk, Qd, f, hq, hf⟩ := h
  rw [hd] at f hf
  exact two f (hw _ _ _ hq) (fun d hd v H' e r => hf d hd v H' e (Res.of r hn))
theorem c_bin {a b : E} {x y : Expr} {op : Operator} {pos : Pos} (ha : PE X x (rdE T X.K (owf ow) W a)) (hb : PE X y (rdE T X.K (owf ow) W b)) : PE X (.BinOp x op y pos) (rdE T X.K (owf ow) W (.bin op a b)) :=
  (pe_op (op_binD op) ha hb).imp fun σ H Q h => c_op (fo := binaryOp op) (ta := fun _ _ _ => True) rfl rfl (fun _ _ _ z => z) h
theorem c_cmp (G : Good T L W X) {a b : E} {x y : Expr} {op : CmpOp} {pos : Pos} (h1 : op ≠ .In) (h2 : op ≠ .NotIn) (ha : PE X x (rdE T X.K (owf ow) W a)) (hb : PE X y (rdE T X.K (owf ow) W b)) : PE X (.Compare x [op] [y] pos) (rdE T X.K (owf ow) W (.cmp op a b)) :=
  (pe_cmpR (op_cmpD G.room.units op) ha hb (nobehind _ h1 h2)).imp fun σ H Q h => c_op (fo := compareOp op) (ta := fun _ _ _ => True) rfl rfl (fun _ _ _ z => z) h
theorem units65 (G : Good T L W X) : X.A.units + 65 < cLine := by
  have := G.room.un
  omega
theorem c_inn (G : Good T L W X) {neg : Bool} {a b : E} {x y : Expr} {pos : Pos} (hm : behindInMarks (if neg then .NotIn else .In) y = false) (ha : PE X x (rdE T X.K (owf ow) W a)) (hb : PE X y (rdE T X.K (owf ow) W b)) :
    PE X (.Compare x [if neg then .NotIn else .In] [y] pos) (rdE T X.K (owf ow) W (.inn neg a b)) :=
  (pe_cmpR (op_innD (units65 G) neg) ha hb hm).imp fun σ H Q h => c_op (fo := compareOp .In) (ta := fun _ _ _ => True) rfl rfl (fun _ _ _ z => z) h
theorem plain_of {y : Expr} (h : noSlice y = true) : PlainIx y := by
  cases y with
  | Slice a b c p => cases h
  | _ => exact fun _ _ => rfl
theorem c_sub {a i : E} {x y : Expr} {pos : Pos} (hs : noSlice y = true) (ha : PE X x (rdE T X.K (owf ow) W a)) (hb : PE X y (rdE T X.K (owf ow) W i)) : PE X (.Subscript x y pos) (rdE T X.K (owf ow) W (.sub a i)) :=
  (pe_ix ix_subD ha hb (plain_of hs)).imp fun σ H Q h => c_op (fo := getItem) (ta := fun _ _ _ => True) rfl rfl (fun _ _ _ z => z) h
theorem c_neg {a : E} {x : Expr} {pos : Pos} (ha : PE X x (rdE T X.K (owf ow) W a)) : PE X (.UnaryOp .USub x pos) (rdE T X.K (owf ow) W (.neg a)) := by
  refine (pe_un un_neg ha).imp fun σ H Q h => ?_
  obtain ⟨B, O, ρ, xk, Qd, f, hq, hf⟩ := h
  refine ⟨B, O, ρ, xk, _, f, hq, fun d hd v H' e r => ?_⟩
  obtain ⟨i, rfl, q⟩ := hd
  exact ⟨i, rb_int r.1, hf _ q _ _ e (Res.of rfl rfl)⟩
theorem c_inv {a : E} {x : Expr} {pos : Pos} (ha : PE X x (rdE T X.K (owf ow) W a)) : PE X (.UnaryOp .Invert x pos) (rdE T X.K (owf ow) W (.inv a)) := by
  refine (pe_un un_inv ha).imp fun σ H Q h => ?_
  obtain ⟨B, O, ρ, xk, Qd, f, hq, hf⟩ := h
  refine ⟨B, O, ρ, xk, _, f, hq, fun d hd v H' e r => ?_⟩
  obtain ⟨i, rfl, q⟩ := hd
  exact ⟨i, rb_int r.1, hf _ q _ _ e (Res.of rfl rfl)⟩
theorem c_notV {a : E} {x : Expr} {pos : Pos} (ha : PE X x (rdE T X.K (owf ow) W a)) : PE X (.UnaryOp .Not x pos) (rdE T X.K (owf ow) W (.not a)) := by
  refine (pe_not ha).imp fun σ H Q h => ?_
  obtain ⟨B, O, ρ, xk, Qd, f, hq, hf⟩ := h
  refine ⟨B, O, ρ, xk, _, f, hq, fun d hd v H' e r => ?_⟩
  obtain ⟨i, rfl, q⟩ := hd
  exact ⟨i, rb_bl r.1, hf _ q _ _ e (Res.of rfl rfl)⟩
/-- from a value to a test -/
theorem t_of {e : E} {σ : L2.St} {H : Hp} {Q : Bool → Hp → Prop} (h : rdT T X.K (owf ow) W e σ H Q) : rdE T X.K (owf ow) W e σ H fun x H' => ∃ c, x = .bl c ∧ Q c H' := by
  obtain ⟨B, O, ρ, xk, Qd, f, hq, hf⟩ := h
  refine ⟨B, O, ρ, xk, Qd, f, hq, fun d hd v H' e r => ?_⟩
  obtain ⟨b, rfl, q⟩ := hf d hd
  exact ⟨b, rb_bl r.1, q H' e⟩
theorem c_notT {a : E} {x : Expr} {pos : Pos} (ha : PT X x (rdT T X.K (owf ow) W a)) : PT X (.UnaryOp .Not x pos) (rdT T X.K (owf ow) W (.not a)) := by
  refine (pt_not ha).imp fun σ H Q h => ?_
  obtain ⟨B, O, ρ, xk, Qd, f, hq, hf⟩ := h
  refine ⟨B, O, ρ, xk, _, f, hq, fun d hd => ?_⟩
  obtain ⟨c, rfl, q⟩ := hd
  obtain ⟨b, e, k⟩ := hf _ q
  cases e
  exact ⟨c, rfl, k⟩
theorem c_cmpT (G : Good T L W X) {a b : E} {x y : Expr} {op : CmpOp} {pos : Pos} (h1 : op ≠ .In) (h2 : op ≠ .NotIn) (ha : PE X x (rdE T X.K (owf ow) W a)) (hb : PE X y (rdE T X.K (owf ow) W b)) : PT X (.Compare x [op] [y] pos) (rdT T X.K (owf ow) W (.cmp op a b)) :=
  (pt_cmpR (op_cmpD G.room.units op) ha hb (nobehind _ h1 h2)).imp fun σ H Q h => c_op (fo := compareOp op) (ta := fun _ _ _ => True) rfl rfl (fun _ _ _ z => z) (t_of h)
theorem c_innT (G : Good T L W X) {neg : Bool} {a b : E} {x y : Expr} {pos : Pos} (hm : behindInMarks (if neg then .NotIn else .In) y = false) (ha : PE X x (rdE T X.K (owf ow) W a)) (hb : PE X y (rdE T X.K (owf ow) W b)) :
    PT X (.Compare x [if neg then .NotIn else .In] [y] pos) (rdT T X.K (owf ow) W (.inn neg a b)) :=
  (pt_cmpR (op_innD (units65 G) neg) ha hb hm).imp fun σ H Q h => c_op (fo := compareOp .In) (ta := fun _ _ _ => True) rfl rfl (fun _ _ _ z => z) (t_of h)
theorem c_chain0 (G : Good T L W X) {a b c : E} {o1 o2 : CmpOp} {σ : L2.St} {H : Hp} {Q : VK} (h : rdE T X.K (owf ow) W (.chain o1 o2 a b c) σ H Q) :
    tChain (r2D X.K (cmpD o1)) (r2D X.K (cmpD o2)) (rdE T X.K (owf ow) W a) (rdE T X.K (owf ow) W b) (rdE T X.K (owf ow) W c) σ H Q := by
  obtain ⟨B, O, ρ, xk, Qd, f, hq, hf⟩ := h
  refine ⟨B, O, ρ, xk, _, f.l, hq, fun dx hx v H1 e1 r1 => ⟨B, O, ρ, xk, _, (f.ex e1).l, hx, fun dy hy u H2 e2 r2 => ⟨U B O, dx, dy, _, ((f.fr.ex e1).ex e2).mt, r1.1.ex e2, r2.1, hy, fun d hd v' H3 e3 r3 => ?_⟩⟩⟩
  obtain ⟨k, rfl, q⟩ := hd
  refine ⟨k, r3, ?_⟩
  have e123 := (e1.trans e2).trans e3
  have hcost : dcE T (.chain o1 o2 a b c) = dcE T a + (dcE T b + dcE T c) := rfl
  cases k with
  | false => exact hf _ q _ H3 (e123.le (by rw [hcost]; omega)) (Res.of rfl rfl)
  | true => exact ⟨B, O, ρ, xk, _, ((f.ex e1).ex e2).ex0 e3, q, fun dz hz t H4 e4 r4 => ⟨U B O, dy, dz, Qd, (f.fr.ex (e123.trans e4)).mt, r2.1.ex (e3.trans e4), r4.1, hz, fun d hd v'' H5 e5 r5 => hf d hd v'' H5 (((e123.trans e4).trans e5).le (by rw [hcost]; omega)) (Res.of r5 rfl)⟩⟩
theorem last2 {o1 o2 : CmpOp} {y z : Expr} (h1 : o2 ≠ .In) (h2 : o2 ≠ .NotIn) : lastMarks [o1, o2] [y, z] = false := by
  show behindInMarks o2 z = false
  exact nobehind _ h1 h2
theorem c_chain (G : Good T L W X) {a b c : E} {x y z : Expr} {o1 o2 : CmpOp} {pos : Pos} (h1 : o2 ≠ .In) (h2 : o2 ≠ .NotIn) (ha : PE X x (rdE T X.K (owf ow) W a)) (hb : PE X y (rdE T X.K (owf ow) W b)) (hc : PE X z (rdE T X.K (owf ow) W c)) :
    PE X (.Compare x [o1, o2] [y, z] pos) (rdE T X.K (owf ow) W (.chain o1 o2 a b c)) :=
  (pe_chain (op_cmpD G.room.units o1) (op_cmpD G.room.units o2) ha hb hc (last2 h1 h2)).imp fun σ H Q h => c_chain0 G h
theorem c_chainT (G : Good T L W X) {a b c : E} {x y z : Expr} {o1 o2 : CmpOp} {pos : Pos} (h1 : o2 ≠ .In) (h2 : o2 ≠ .NotIn) (ha : PE X x (rdE T X.K (owf ow) W a)) (hb : PE X y (rdE T X.K (owf ow) W b)) (hc : PE X z (rdE T X.K (owf ow) W c)) :
    PT X (.Compare x [o1, o2] [y, z] pos) (rdT T X.K (owf ow) W (.chain o1 o2 a b c)) :=
  (pt_chain (op_cmpD G.room.units o1) (op_cmpD G.room.units o2) ha hb hc (last2 h1 h2)).imp fun σ H Q h => c_chain0 G (t_of h)
theorem c_isn {neg : Bool} {a : E} {x : Expr} {k : Nat} {p pos : Pos} (ha : PE X x (rdE T X.K (owf ow) W a)) : PE X (.Compare x [if neg then .IsNot else .Is] [.Constant .none k p] pos) (rdE T X.K (owf ow) W (.isn neg a)) := by
  have key : ∀ {A : AP} {H : Hp} {d : D} {v : V}, RepB X.K A H d v → decide (v = .non) = (match d with
      | .non => true
      | _ => false) := fun {A H d v} r => by
    cases d with
    | non => rw [rb_non r]; rfl
    | bl b => rw [rb_bl r]; rfl
    | int b => rw [rb_int r]; rfl
    | str b => rw [rb_str r]; rfl
    | tup l => obtain ⟨_, _, rfl, _⟩ := rb_tup r; rfl
    | lst l => obtain ⟨_, _, rfl, _⟩ := rb_lst r; rfl
    | dic l => obtain ⟨_, _, rfl, _⟩ := rb_dic r; rfl
    | dit l => obtain ⟨_, _, rfl, _⟩ := rb_dit r; rfl
    | scr l => obtain ⟨_, rfl, _⟩ := rb_scr r; rfl
    | kt l => obtain ⟨_, _, rfl, _⟩ := rb_kt r; rfl
    | obj c l =>
      rcases r with ⟨_, _, _, rfl, _⟩ | ⟨_, rfl, _⟩ <;> rfl
    | fn f =>
      rcases r with r | ⟨_, rfl, _⟩
      · rw [show v = _ from r]; rfl
      · rfl
    | st =>
      rcases r with ⟨_, _, _, _, rfl, _⟩ | ⟨_, rfl, _⟩ <;> rfl
  cases neg with
  | false =>
    refine (pe_cmpR op_isN ha pe_non (nomark _)).imp fun σ H Q h => ?_
    obtain ⟨B, O, ρ, xk, Qd, f, hq, hf⟩ := h
    refine ⟨B, O, ρ, xk, _, f, hq, fun d hd v H' e r => ⟨rfl, ?_⟩⟩
    rw [key r.1]
    exact hf _ hd _ _ e (Res.of rfl rfl)
  | true =>
    refine (pe_cmpR op_notN ha pe_non (nomark _)).imp fun σ H Q h => ?_
    obtain ⟨B, O, ρ, xk, Qd, f, hq, hf⟩ := h
    refine ⟨B, O, ρ, xk, _, f, hq, fun d hd v H' e r => ⟨rfl, ?_⟩⟩
    rw [key r.1]
    exact hf _ hd _ _ e (Res.of rfl rfl)
theorem c_ite {c a b : E} {z x y : Expr} {pos : Pos} (h1 : ownB a = false) (h2 : ownB b = false) (hc : PT X z (rdT T X.K (owf ow) W c)) (ha : PE X x (rdE T X.K (owf ow) W a)) (hb : PE X y (rdE T X.K (owf ow) W b)) : PE X (.IfExp z x y pos) (rdE T X.K (owf ow) W (.ite c a b)) := by
  refine (pe_ifExp hc ha hb).imp fun σ H Q h => ?_
  obtain ⟨B, O, ρ, xk, Qd, f, hq, hf⟩ := h
  refine ⟨B, O, ρ, xk, _, f.l, hq, fun d hd => ?_⟩
  obtain ⟨k, rfl, q⟩ := hd
  refine ⟨k, rfl, fun H' e => ?_⟩
  cases k with
  | true => exact ⟨B, O, ρ, xk, Qd, (f.ex e).l, q, fun d hd v H2 e2 r => hf d hd v H2 ((e.trans e2).le (Nat.add_le_add_left (Nat.le_add_right _ _) _)) (Res.of (r.2.1 h1) rfl)⟩
  | false => exact ⟨B, O, ρ, xk, Qd, (f.ex e).le (Nat.le_add_left _ _), q, fun d hd v H2 e2 r => hf d hd v H2 ((e.trans e2).le (Nat.add_le_add_left (Nat.le_add_left _ _) _)) (Res.of (r.2.1 h2) rfl)⟩

/-! lists of expressions -/
theorem star_of {x : Expr} {xs : List Expr} {env : PySem.Env} (h : noStar x = true) : starEach (x :: xs) env = (false, eval x env) :: starEach xs env := by
  cases x with
  | Starred e p => cases h
  | _ => rfl
theorem plain_args {pos : Pos} {env : PySem.Env} : ∀ {xs : List Expr}, xs.all noStar = true → (backTo pos (starEach xs env)).any (·.1) = false
  | [], _ => rfl
  | x :: xs, h => by
    rw [List.all_cons, Bool.and_eq_true] at h
    rw [star_of h.1]
    show (false || (backTo pos (starEach xs env)).any (·.1)) = false
    rw [plain_args h.2]
    rfl
theorem as_nil : PA X [] (rdEs T X.K (owf ow) W []) := pa_nil.imp fun σ H Q h => by
  obtain ⟨B, O, ρ, xk, Qd, f, hq, hf⟩ := h
  exact hf [] hq [] H (Ex.refl H) rfl fun _ => rfl
theorem as_cons {e : E} {es : List E} {x : Expr} {xs : List Expr} (hs : noStar x = true) (hw : ∀ xk ρ Q, wpEs T xk (e :: es) ρ Q → wpE T xk e ρ fun d => wpEs T xk es ρ fun ds => Q (d :: ds)) (he : PE X x (rdE T X.K (owf ow) W e)) (hr : PA X xs (rdEs T X.K (owf ow) W es)) :
    PA X (x :: xs) (rdEs T X.K (owf ow) W (e :: es)) := by
  refine (pa_cons he hr (star_of hs)).imp fun σ H Q h => ?_
  obtain ⟨B, O, ρ, xk, Qd, f, hq, hf⟩ := h
  refine ⟨B, O, ρ, xk, _, f.l, hw _ _ _ hq, fun d hd v H1 e1 r1 => ⟨B, O, ρ, xk, _, f.ex e1, hd, fun ds hds vs H2 e2 r2 r3 => hf _ hds _ H2 (e1.trans e2) ⟨v, vs, rfl, r1.1.ex e2, r2⟩ fun z => ?_⟩⟩
  rw [List.all_cons, Bool.and_eq_true, Bool.not_eq_true'] at z
  exact ⟨v, vs, rfl, (r1.2.1 z.1).ex e2, r3 z.2⟩
theorem as_star {e : E} {es : List E} {x : Expr} {xs : List Expr} {p : Pos} (he : PE X x (rdE T X.K (owf ow) W e)) (hr : PA X xs (rdEs T X.K (owf ow) W es)) : PA X (.Starred x p :: xs) (rdEs T X.K (owf ow) W (.star e :: es)) := by
  refine (StX.pa_star he hr).imp fun σ H Q h => ?_
  obtain ⟨B, O, ρ, xk, Qd, f, hq, hf⟩ := h
  refine ⟨B, O, ρ, xk, _, f.l, (show wpE T xk e ρ fun d => ∃ l, (d = .tup l ∨ d = .lst l) ∧ wpEs T xk es ρ fun ds => Qd (l ++ ds) from hq), fun d hd v H1 e1 r1 => ?_⟩
  obtain ⟨l, hl, q⟩ := hd
  obtain ⟨a, vs, rfl, hs, rl⟩ : ∃ a vs, v = .ref a ∧ (SqT X.K H1 a vs ∨ SqL X.K H1 a vs) ∧ RepL X.K (U B O) H1 l vs := by
    rcases hl with rfl | rfl
    · obtain ⟨a, vs, e, h1, h2⟩ := rb_tup r1.1
      exact ⟨a, vs, e, .inl h1, h2⟩
    · obtain ⟨a, vs, e, h1, h2⟩ := rb_lst r1.1
      exact ⟨a, vs, e, .inr (.inl (.inl h1)), h2⟩
  refine ⟨a, vs, rfl, hs, B, O, ρ, xk, _, f.ex e1, q, fun ds hds ws H2 e2 r2 r3 => hf _ hds _ H2 (e1.trans e2) (RepBL.append (RepL.toB (rl.ex e2)) r2) fun z => ?_⟩
  rw [List.all_cons, Bool.and_eq_true] at z
  exact RepL.append (rl.ex e2) (r3 z.2)
theorem c_tup {es : List E} {xs : List Expr} {k : Nat} {pos : Pos} (hn : es.all (fun e => !ownB e) = true) (h : PA X xs (rdEs T X.K (owf ow) W es)) : PE X (.Tuple xs k pos) (rdE T X.K (owf ow) W (.tup es)) := by
  refine (pe_tup h).imp fun σ H Q h => ?_
  obtain ⟨B, O, ρ, xk, Qd, f, hq, hf⟩ := h
  refine ⟨B, O, ρ, xk, _, f, (show wpEs T xk es ρ fun ds => ds.length ≤ sizeLine ∧ Qd (.tup ds) from hq), fun ds hds vs H1 e1 _ r => ?_⟩
  have rl := r hn
  exact ⟨by rw [RepL.length rl]; exact hds.1, fun p hp => hf _ hds.2 _ _ (e1.trans (Ex.new hp)) (Res.of (rep_tup rl hp) rfl)⟩
theorem c_lst {es : List E} {xs : List Expr} {pos : Pos} (hn : es.all (fun e => !ownB e) = true) (h : PA X xs (rdEs T X.K (owf ow) W es)) : PE X (.List xs pos) (rdE T X.K (owf ow) W (.lst es)) := by
  refine (pe_lst h).imp fun σ H Q h => ?_
  obtain ⟨B, O, ρ, xk, Qd, f, hq, hf⟩ := h
  refine ⟨B, O, ρ, xk, _, f, (show wpEs T xk es ρ fun ds => ds.length ≤ sizeLine ∧ Qd (.lst ds) from hq), fun ds hds vs H1 e1 _ r => ?_⟩
  have rl := r hn
  refine ⟨by rw [RepL.length rl]; exact hds.1, fun p hp => ?_⟩
  have na := (f.fr.ex e1).fresh hp
  exact hf _ hds.2 _ _ (e1.trans (Ex.new hp)) ⟨.inl (rep_lst na rl hp), fun _ => rep_lst na rl hp, fun _ => ⟨p, rfl, e1.none hp, newLst rl hp⟩⟩
end
end DL

/-! DY: one rule a piece: and, or, slices, built-ins, calls, dicts; targets; what is walked; comprehensions -/
namespace DL
open PySem PySem.Spec PyProof.Rows L2 Evl

theorem _root_.L2.PW.imp {X : Cx} {e : Expr} {t t' : TT} (h : PW X e t) (k : ∀ σ H Q, t' σ H Q → t σ H Q) : PW X e t' := ⟨fun w pins s σ H Q I q => h.run w pins s σ H Q I (k _ _ _ q)⟩
theorem _root_.L2.PI.imp {X : Cx} {tg e : Expr} {t t' : TI} (h : PI X tg e t) (k : ∀ σ H Q, t' σ H Q → t σ H Q) : PI X tg e t' := ⟨fun pins s σ H Q I q => h.run pins s σ H Q I (k _ _ _ q)⟩
theorem _root_.L2.PG.imp {X : Cx} {e : Expr} {t t' : TG} (h : PG X e t) (k : ∀ v σ H Q, t' v σ H Q → t v σ H Q) : PG X e t' := ⟨fun pins s σ H v u Q I r q => h.run pins s σ H v u Q I r (k _ _ _ _ q)⟩
section
variable {T : Tb} {L : Nat} {W : WX} {X : Cx} {ow : List Nat}
/-! and, or -/
theorem res_and {K : PySem.W.Frag} {e e' : E} {A : AP} {H H' : Hp} {d : D} {v : V} (h : Res K e A H H' d v) (ho : ownB e = false) (hn : newB e' = false) : Res K e' A H H' d v := Res.of (h.2.1 ho) hn
theorem c_and1 {e : E} {x : Expr} {pos : Pos} (ho : ownB e = false) (he : PE X x (rdE T X.K (owf ow) W e)) : PE X (.BoolOp .And [x] pos) (rdE T X.K (owf ow) W (.and [e])) :=
  (pe_one he).imp fun σ H Q h => by
    obtain ⟨B, O, ρ, xk, Qd, f, hq, hf⟩ := h
    exact ⟨B, O, ρ, xk, Qd, f, hq, fun d hd v H' e r => hf d hd v H' e (res_and r ho rfl)⟩
theorem c_or1 {e : E} {x : Expr} {pos : Pos} (ho : ownB e = false) (he : PE X x (rdE T X.K (owf ow) W e)) : PE X (.BoolOp .Or [x] pos) (rdE T X.K (owf ow) W (.or [e])) :=
  (pe_one he).imp fun σ H Q h => by
    obtain ⟨B, O, ρ, xk, Qd, f, hq, hf⟩ := h
    exact ⟨B, O, ρ, xk, Qd, f, hq, fun d hd v H' e r => hf d hd v H' e (res_and r ho rfl)⟩
theorem c_andC {e e2 : E} {es : List E} {x y : Expr} {ys : List Expr} {pos : Pos} (he : PE X x (rdE T X.K (owf ow) W e)) (hr : PE X (.BoolOp .And (y :: ys) pos) (rdE T X.K (owf ow) W (.and (e2 :: es)))) :
    PE X (.BoolOp .And (x :: y :: ys) pos) (rdE T X.K (owf ow) W (.and (e :: e2 :: es))) := by
  refine (pe_and he hr).imp fun σ H Q h => ?_
  obtain ⟨B, O, ρ, xk, Qd, f, hq, hf⟩ := h
  refine ⟨B, O, ρ, xk, _, f.l, (show wpE T xk e ρ fun x => ∃ c, x = .bl c ∧ if c = true then wpE T xk (.and (e2 :: es)) ρ Qd else Qd (.bl false) from hq), fun d hd v H1 e1 r => ?_⟩
  obtain ⟨c, rfl, q⟩ := hd
  refine ⟨c, rb_bl r.1, ?_⟩
  cases c with
  | true => exact ⟨B, O, ρ, xk, Qd, f.ex e1, q, fun d hd v H2 e2 r => hf d hd v H2 (e1.trans e2) (Res.of (r.2.1 rfl) rfl)⟩
  | false => exact hf _ q _ _ (e1.le (Nat.le_add_right _ _)) (Res.of rfl rfl)
theorem c_orC {e e2 : E} {es : List E} {x y : Expr} {ys : List Expr} {pos : Pos} (he : PE X x (rdE T X.K (owf ow) W e)) (hr : PE X (.BoolOp .Or (y :: ys) pos) (rdE T X.K (owf ow) W (.or (e2 :: es)))) :
    PE X (.BoolOp .Or (x :: y :: ys) pos) (rdE T X.K (owf ow) W (.or (e :: e2 :: es))) := by
  refine (pe_or he hr).imp fun σ H Q h => ?_
  obtain ⟨B, O, ρ, xk, Qd, f, hq, hf⟩ := h
  refine ⟨B, O, ρ, xk, _, f.l, (show wpE T xk e ρ fun x => ∃ c, x = .bl c ∧ if c = true then Qd (.bl true) else wpE T xk (.or (e2 :: es)) ρ Qd from hq), fun d hd v H1 e1 r => ?_⟩
  obtain ⟨c, rfl, q⟩ := hd
  refine ⟨c, rb_bl r.1, ?_⟩
  cases c with
  | false => exact ⟨B, O, ρ, xk, Qd, f.ex e1, q, fun d hd v H2 e2 r => hf d hd v H2 (e1.trans e2) (Res.of (r.2.1 rfl) rfl)⟩
  | true => exact hf _ q _ _ (e1.le (Nat.le_add_right _ _)) (Res.of rfl rfl)
theorem c_and1T {e : E} {x : Expr} {pos : Pos} (he : PT X x (rdT T X.K (owf ow) W e)) : PW X (.BoolOp .And [x] pos) (rdT T X.K (owf ow) W (.and [e])) := (pw_and1 he).imp fun σ H Q h => h
theorem c_or1T {e : E} {x : Expr} {pos : Pos} (he : PT X x (rdT T X.K (owf ow) W e)) : PW X (.BoolOp .Or [x] pos) (rdT T X.K (owf ow) W (.or [e])) := (pw_or1 he).imp fun σ H Q h => h
theorem c_andCT {e e2 : E} {es : List E} {x y : Expr} {ys : List Expr} {pos : Pos} (he : PT X x (rdT T X.K (owf ow) W e)) (hr : PW X (.BoolOp .And (y :: ys) pos) (rdT T X.K (owf ow) W (.and (e2 :: es)))) :
    PW X (.BoolOp .And (x :: y :: ys) pos) (rdT T X.K (owf ow) W (.and (e :: e2 :: es))) := by
  refine (pw_and he hr).imp fun σ H Q h => ?_
  obtain ⟨B, O, ρ, xk, Qd, f, hq, hf⟩ := h
  refine ⟨B, O, ρ, xk, _, f.l, (show wpE T xk e ρ fun x => ∃ c, x = .bl c ∧ if c = true then wpE T xk (.and (e2 :: es)) ρ Qd else Qd (.bl false) from hq), fun d hd => ?_⟩
  obtain ⟨c, rfl, q⟩ := hd
  refine ⟨c, rfl, fun H1 e1 => ?_⟩
  cases c with
  | true => exact ⟨B, O, ρ, xk, Qd, f.ex e1, q, fun d hd => by
      obtain ⟨b, eb, k⟩ := hf d hd
      exact ⟨b, eb, fun H2 e2 => k H2 (e1.trans e2)⟩⟩
  | false =>
    obtain ⟨b, eb, k⟩ := hf _ q
    cases eb
    exact k H1 (e1.le (Nat.le_add_right _ _))
theorem c_orCT {e e2 : E} {es : List E} {x y : Expr} {ys : List Expr} {pos : Pos} (he : PT X x (rdT T X.K (owf ow) W e)) (hr : PW X (.BoolOp .Or (y :: ys) pos) (rdT T X.K (owf ow) W (.or (e2 :: es)))) :
    PW X (.BoolOp .Or (x :: y :: ys) pos) (rdT T X.K (owf ow) W (.or (e :: e2 :: es))) := by
  refine (pw_or he hr).imp fun σ H Q h => ?_
  obtain ⟨B, O, ρ, xk, Qd, f, hq, hf⟩ := h
  refine ⟨B, O, ρ, xk, _, f.l, (show wpE T xk e ρ fun x => ∃ c, x = .bl c ∧ if c = true then Qd (.bl true) else wpE T xk (.or (e2 :: es)) ρ Qd from hq), fun d hd => ?_⟩
  obtain ⟨c, rfl, q⟩ := hd
  refine ⟨c, rfl, fun H1 e1 => ?_⟩
  cases c with
  | false => exact ⟨B, O, ρ, xk, Qd, f.ex e1, q, fun d hd => by
      obtain ⟨b, eb, k⟩ := hf d hd
      exact ⟨b, eb, fun H2 e2 => k H2 (e1.trans e2)⟩⟩
  | true =>
    obtain ⟨b, eb, k⟩ := hf _ q
    cases eb
    exact k H1 (e1.le (Nat.le_add_right _ _))
/-! slices -/
def rdO (T : Tb) (K : PySem.W.Frag) (own : Nat → Bool) (W : WX) (e : Option E) : TO := fun σ H Q => ∃ B O ρ xk Qd, FX K own W xk B O (dcO T e) H σ ρ ∧ wpO T xk e ρ Qd ∧ (∀ o, Qd o → ∀ H', Ex (dcO T e) H H' → Q o H')
theorem o_none : PO X none (rdO T X.K (owf ow) W none) := po_none.imp fun σ H Q h => by
  obtain ⟨B, O, ρ, xk, Qd, f, hq, hf⟩ := h
  exact hf none hq H (Ex.refl H)
theorem o_some {e : E} {x : Expr} (he : PE X x (rdE T X.K (owf ow) W e)) : PO X (some x) (rdO T X.K (owf ow) W (some e)) := (po_some he).imp fun σ H Q h => by
  obtain ⟨B, O, ρ, xk, Qd, f, hq, hf⟩ := h
  refine ⟨B, O, ρ, xk, _, f, (show wpE T xk e ρ fun d => ∃ i, d = .int i ∧ Qd (some i) from hq), fun d hd v H' e r => ?_⟩
  obtain ⟨i, rfl, q⟩ := hd
  exact ⟨i, rb_int r.1, hf _ q H' e⟩
theorem c_slice {a : E} {lo hi : Option E} {x : Expr} {l h : Option Expr} {p pos : Pos} (ha : PE X x (rdE T X.K (owf ow) W a)) (hl : PO X l (rdO T X.K (owf ow) W lo)) (hh : PO X h (rdO T X.K (owf ow) W hi)) :
    PE X (.Subscript x (.Slice l h none p) pos) (rdE T X.K (owf ow) W (.slice a lo hi)) := by
  refine (pe_slice sl_D ha hl hh).imp fun σ H Q h => ?_
  obtain ⟨B, O, ρ, xk, Qd, f, hq, hf⟩ := h
  have hcost : dcE T (.slice a lo hi) = dcE T a + (dcO T lo + dcO T hi) := rfl
  refine ⟨B, O, ρ, xk, _, f.l, (show wpE T xk a ρ fun x => wpO T xk lo ρ fun l => wpO T xk hi ρ fun h => sliceD x l h Qd from hq), fun d hd v H1 e1 r => ⟨B, O, ρ, xk, _, (f.ex e1).l, hd, fun lo' hlo H2 e2 => ⟨B, O, ρ, xk, _, (f.ex e1).ex e2, hlo, fun hi' hhi H3 e3 => ?_⟩⟩⟩
  exact ⟨U B O, d, Qd, (((f.fr.ex e1).ex e2).ex e3).mt, (r.1.ex e2).ex e3, hhi, fun d hd v H4 e4 r4 => hf d hd v H4 ((((e1.trans e2).trans e3).trans e4).le (by rw [hcost]; omega)) (Res.of r4 rfl)⟩
/-! built-ins -/
theorem boot_bf (f : BF) (h : bfOk f = true) : bootBuiltins (bfName f) = some (bfVal f) := by
  cases f <;> first
    | exact PyProof.Rows.boot_abs | exact PyProof.Rows.boot_int | exact PyProof.Rows.boot_str | exact PyProof.Rows.boot_list | exact PyProof.Rows.boot_tuple | exact PyProof.Rows.boot_sorted | exact PyProof.Rows.boot_repr
    | exact PyProof.Rows.boot_max | exact PyProof.Rows.boot_min | exact PyProof.Rows.boot_sum | exact PyProof.Rows.boot_all | exact PyProof.Rows.boot_any | exact PySem.boot_len | exact absurd (show (false : Bool) = true from h) (by decide)
theorem c_blt (G : Good T L W X) {f : BF} {es : List E} {x : Str} {xs : List Expr} {p pos : Pos} (hb : bfOk f = true) (hx : x = bfName f) (hg : Gl X x) (hd : x ≠ "__debug__") (hn : x ≠ "__name__") (h1 : 1 ≤ xs.length) (hs : xs.all noStar = true)
    (h : PA X xs (rdEs T X.K (owf ow) W es)) : PE X (.Call (.Name x p) xs [] pos) (rdE T X.K (owf ow) W (.blt f es)) := by
  have hm : X.mg x = none := by rw [hx]; exact G.tab.free f
  have hv : bootBuiltins x = some (bfVal f) := by rw [hx]; exact boot_bf f hb
  have hdb : (x == ("__debug__" : Str)) = false := beq_eq_false_iff_ne.mpr hd
  cases xs with
  | nil => exact absurd h1 (by decide)
  | cons y ys =>
    rw [List.all_cons, Bool.and_eq_true] at hs
    have key : PE X (.Call (.Name x p) (y :: ys) [] pos) (tCB (rBf X.K f) (rdEs T X.K (owf ow) W es)) := by
      have r := bfRule G.calm (units65 G) G.guards f
      cases hf : bfVal f with
      | builtin id =>
        rw [hf] at r hv
        exact pe_callB r hg hm hv h hn hdb (star_of hs.1) (plain_args hs.2)
      | type id =>
        rw [hf] at r hv
        exact pe_callTy r hg hm hv h hn hdb (star_of hs.1) (plain_args hs.2)
      | _ => cases f <;> cases hf
    refine key.imp fun σ H Q h => ?_
    obtain ⟨B, O, ρ, xk, Qd, f, hq, hf⟩ := h
    exact ⟨B, O, ρ, xk, _, f, hq, fun ds hds vs H1 e1 r _ => ⟨U B O, ds, Qd, (f.fr.ex e1).mt, r, hds, fun d hd v H2 e2 r2 => hf d hd v H2 (e1.trans e2) (Res.of r2 rfl)⟩⟩
end
end DL

/-! DZ: calls, dicts, targets, what is walked, comprehensions -/
namespace DL
open PySem PySem.Spec PyProof.Rows L2 Evl

theorem _root_.L2.PC.imp {X : Cx} {op : CmpOp} {a b : Expr} {t t' : TE} (h : PC X op a b t) (k : ∀ σ H Q, t' σ H Q → t σ H Q) : PC X op a b t' := ⟨fun pins s σ H Q I q => h.run pins s σ H Q I (k _ _ _ q)⟩
section
variable {K : PySem.W.Frag} {A A' : AP} {H : Hp}
mutual
theorem flat_rep : ∀ (d : D) (v : V), flatD d = true → Rep K A H d v → Rep K A' H d v
  | .non, _, _, h => h
  | .bl _, _, _, h => h
  | .int _, _, _, h => h
  | .str _, _, _, h => h
  | .tup l, v, e, h => by
    obtain ⟨a, vs, ev, hs, hl⟩ := h
    exact ⟨a, vs, ev, hs, flat_repL l vs e hl⟩
  | .fn _, _, _, h => h
theorem flat_repL : ∀ (l : List D) (vs : List V), flatD.flatL l = true → RepL K A H l vs → RepL K A' H l vs
  | [], _, _, h => h
  | d :: l, vs, e, h => by
    have e' : (flatD d && flatD.flatL l) = true := e
    rw [Bool.and_eq_true] at e'
    obtain ⟨v, r, ev, h1, h2⟩ := h
    exact ⟨v, r, ev, flat_rep d v e'.1 h1, flat_repL l r e'.2 h2⟩
end
end
section
variable {K : PySem.W.Frag} {A A' : AP} {H : Hp}
theorem nota {A A' : AP} {H : Hp} {a : Addr} {o : HO} (hA : ∀ b, A b → A' b ∨ ∃ C dx fs, H b = some (.ins C dx fs)) (n : ¬ A' a) (h : H a = some o) (ho : ∀ C dx fs, o ≠ .ins C dx fs) : ¬ A a := fun z => by
  rcases hA a z with q | ⟨C, dx, fs, q⟩
  · exact n q
  · rw [h] at q
    cases q
    exact ho _ _ _ rfl
theorem notr {A A' : AP} {H : Hp} {a : Addr} {u : HO} (hA : ∀ b, A b → A' b ∨ ∃ C dx fs, H b = some (.ins C dx fs)) (n : ¬ A' a) (h : Rd H a u) (ho : ∀ C dx fs, u ≠ .ins C dx fs) : ¬ A a := by
  rcases h with h | ⟨o, h⟩
  · exact nota hA n h ho
  · exact nota hA n h fun _ _ _ z => by cases z
mutual
theorem noB_rep (hA : ∀ b, A b → A' b ∨ ∃ C dx fs, H b = some (.ins C dx fs)) : ∀ (d : D) (v : V), noB d = true → Rep K A' H d v → Rep K A H d v
  | .non, _, _, h => h
  | .bl _, _, _, h => h
  | .int _, _, _, h => h
  | .str _, _, _, h => h
  | .fn _, _, _, h => h
  | .tup l, v, e, h => by
    obtain ⟨a, vs, ev, hs, hl⟩ := h
    exact ⟨a, vs, ev, hs, noL_rep hA l vs e hl⟩
  | .lst l, v, e, h => by
    obtain ⟨a, vs, ev, na, hs, hl⟩ := h
    exact ⟨a, vs, ev, nota hA na hs (fun _ _ _ z => by cases z), hs, noL_rep hA l vs e hl⟩
  | .kt l, v, e, h => by
    obtain ⟨a, vs, ev, hs, hl⟩ := h
    exact ⟨a, vs, ev, hs, noL_rep hA l vs e hl⟩
  | .dic l, v, e, h => by
    obtain ⟨a, vs, ev, na, hs, hl⟩ := h
    exact ⟨a, vs, ev, notr hA na hs (fun _ _ _ z => by cases z), hs, noK_rep hA l vs e hl⟩
  | .dit l, v, e, h => by
    obtain ⟨a, vs, ev, na, hs, hl⟩ := h
    exact ⟨a, vs, ev, notr hA na hs (fun _ _ _ z => by cases z), hs, noT_rep hA l vs e hl⟩
  | .obj _ _, _, e, _ => by cases e
  | .st, _, e, _ => by cases e
  | .scr _, _, e, _ => by cases e
theorem noL_rep (hA : ∀ b, A b → A' b ∨ ∃ C dx fs, H b = some (.ins C dx fs)) : ∀ (l : List D) (vs : List V), noB.noL l = true → RepL K A' H l vs → RepL K A H l vs
  | [], _, _, h => h
  | d :: l, vs, e, h => by
    have e' : (noB d && noB.noL l) = true := e
    rw [Bool.and_eq_true] at e'
    obtain ⟨v, r, ev, h1, h2⟩ := h
    exact ⟨v, r, ev, noB_rep hA d v e'.1 h1, noL_rep hA l r e'.2 h2⟩
theorem noK_rep (hA : ∀ b, A b → A' b ∨ ∃ C dx fs, H b = some (.ins C dx fs)) : ∀ (l : List (Key × D)) (vs : List (Key × V)), noB.noK l = true → RepK K A' H l vs → RepK K A H l vs
  | [], _, _, h => h
  | (k, d) :: l, vs, e, h => by
    have e' : (noB d && noB.noK l) = true := e
    rw [Bool.and_eq_true] at e'
    obtain ⟨v, r, ev, h1, h2⟩ := h
    exact ⟨v, r, ev, noB_rep hA d v e'.1 h1, noK_rep hA l r e'.2 h2⟩
theorem noT_rep (hA : ∀ b, A b → A' b ∨ ∃ C dx fs, H b = some (.ins C dx fs)) : ∀ (l : List (List Key × D)) (vs : List (List Key × V)), noB.noT l = true → RepT K A' H l vs → RepT K A H l vs
  | [], _, _, h => h
  | (k, d) :: l, vs, e, h => by
    have e' : (noB d && noB.noT l) = true := e
    rw [Bool.and_eq_true] at e'
    obtain ⟨v, r, ev, h1, h2⟩ := h
    exact ⟨v, r, ev, noB_rep hA d v e'.1 h1, noT_rep hA l r e'.2 h2⟩
end
end
section
variable {T : Tb} {L : Nat} {W : WX} {X : Cx} {ow : List Nat}
/-- the arguments, for a callee: what is lent to it is its to read -/
theorem lent {K : PySem.W.Frag} {A : AP} {H : Hp} {vs0 : List V} : ∀ {ds : List D} {vs : List V}, (∀ v ∈ vs, v ∈ vs0) → RepBL K A H ds vs → RepL K (fun a => A a ∧ V.ref a ∉ vs0) H ds vs
  | [], _, _, h => h
  | d :: l, vs, hm, h => by
    obtain ⟨v, r, rfl, h1, h2⟩ := h
    have less : Grows H A (fun a => A a ∧ V.ref a ∉ vs0) := grows_less fun a z => z.1
    refine ⟨v, r, rfl, ?_, lent (fun u hu => hm u (List.mem_cons_of_mem _ hu)) h2⟩
    rcases h1 with h1 | ⟨a, rfl, h1⟩
    · exact Rep.keep keeps_refl less _ _ h1
    · have na : ¬ (A a ∧ V.ref a ∉ vs0) := fun z => z.2 (hm _ List.mem_cons_self)
      cases d with
      | lst l =>
        obtain ⟨us, e, q⟩ := h1
        exact ⟨a, us, rfl, na, e, RepL.keep keeps_refl less _ _ q⟩
      | dic l =>
        obtain ⟨us, e, q⟩ := h1
        exact ⟨a, us, rfl, na, .inl e, RepK.keep keeps_refl less _ _ q⟩
      | dit l =>
        obtain ⟨us, e, q⟩ := h1
        exact ⟨a, us, rfl, na, .inl e, RepT.keep keeps_refl less _ _ q⟩
      | obj c l =>
        obtain ⟨dx, us, e, q⟩ := h1
        exact ⟨a, dx, us, rfl, na, e, RepF.keep keeps_refl less _ _ q⟩
      | _ => exact h1.elim
theorem any_not : ∀ {es : List E}, es.any ownB ≠ true → es.all (fun e => !ownB e) = true
  | [], _ => rfl
  | e :: es, h => by
    rw [List.any_cons] at h
    rw [List.all_cons, Bool.and_eq_true]
    have h1 : ownB e = false := by
      cases q : ownB e with
      | false => rfl
      | true => rw [q] at h; exact absurd rfl h
    rw [h1] at h
    exact ⟨by rw [h1]; rfl, any_not h⟩
/-- a def's promise at a call -/
theorem call_sp {K : PySem.W.Frag} {own : Nat → Bool} {B O : AP} {H1 : Hp} {σ : L2.St} {ρ : DE} {xk : EK} {Qd : DK} {Q : VK} {es : List E} {ds : List D} {vs : List V} {n c : Nat} {m : DSp} (f : FX K own W xk B O c H1 σ ρ)
    (hn : ds.length = n) (hm : m ds (fun d => (es.any ownB = true → flatD d = true) ∧ Qd d) xk) (r : RepBL K (U B O) H1 ds vs) (r2 : es.all (fun e => !ownB e) = true → RepL K (U B O) H1 ds vs)
    (hf : ∀ d, Qd d → ∀ v H', Ex c H1 H' → Rep K (U B O) H' d v → Q v H') : spOf K n c m vs H1 Q (W · · σ ·) := by
  by_cases ho : es.any ownB = true
  · refine ⟨fun a => U B O a ∧ V.ref a ∉ vs, ds, _, xk, by rw [RepBL.length r]; exact hn, f.rm, fun a z => f.fr.mt a z.1, lent (fun _ h => h) r, hm, fun d hd v H' e r3 => hf d hd.2 v H' e (flat_rep _ _ (hd.1 ho) r3), f.xo⟩
  · have rl := r2 (any_not ho)
    exact ⟨U B O, ds, _, xk, by rw [RepL.length rl]; exact hn, f.rm, f.fr.mt, rl, hm, fun d hd v H' e r3 => hf d hd.2 v H' e r3, f.xo⟩
/-- .. of a method, of one's own object -/
theorem call_spM {K : PySem.W.Frag} {own : Nat → Bool} {B O : AP} {H1 : Hp} {σ : L2.St} {ρ : DE} {xk : EK} {Qd : DK} {Q : VK} {o : E} {es : List E} {ds : List D} {vs : List V} {n c : Nat} {m : DSp} {d0 : D} {a : Addr} {C dx : Addr} {fs : List (Str × V)} (f : FX K own W xk B O c H1 σ ρ)
    (hn : ds.length + 1 = n) (hm : m (d0 :: ds) (fun d => ((es.any ownB = true → flatD d = true) ∧ (ownB o = true → noB d = true)) ∧ Qd d) xk) (r : RepBL K (U B O) H1 (d0 :: ds) (.ref a :: vs)) (r2 : ownB o = false → Rep K (U B O) H1 d0 (.ref a)) (r3 : es.all (fun e => !ownB e) = true → RepL K (U B O) H1 ds vs) (ha : H1 a = some (.ins C dx fs))
    (hf : ∀ d, Qd d → ∀ v H', Ex c H1 H' → Rep K (U B O) H' d v → Q v H') : spOf K n c m (.ref a :: vs) H1 Q (W · · σ ·) := by
  have hl : (V.ref a :: vs).length = n := by
    rw [RepBL.length r]
    exact hn
  by_cases ho : es.any ownB = true
  · exact ⟨fun b => U B O b ∧ V.ref b ∉ V.ref a :: vs, d0 :: ds, _, xk, hl, f.rm, fun a z => f.fr.mt a z.1, lent (fun _ h => h) r, hm, fun d hd v H' e r3 => hf d hd.2 v H' e (flat_rep _ _ (hd.1.1 ho) r3), f.xo⟩
  · have rl := r3 (any_not ho)
    cases q : ownB o with
    | false => exact ⟨U B O, d0 :: ds, _, xk, hl, f.rm, f.fr.mt, ⟨_, _, rfl, r2 q, rl⟩, hm, fun d hd v H' e r3 => hf d hd.2 v H' e r3, f.xo⟩
    | true =>
      have less : Grows H1 (U B O) (fun b => U B O b ∧ b ≠ a) := grows_less fun b z => z.1
      have r0 : Rep K (fun b => U B O b ∧ b ≠ a) H1 d0 (.ref a) := by
        obtain ⟨v, w, e1, e2, _⟩ := r
        cases e1
        rcases e2 with e2 | ⟨b, e3, e2⟩
        · exact Rep.keep keeps_refl less _ _ e2
        · cases e3
          cases d0 with
          | lst l =>
            obtain ⟨us, e, _⟩ := e2
            rw [ha] at e
            cases e
          | dic l =>
            obtain ⟨us, e, _⟩ := e2
            rw [ha] at e
            cases e
          | dit l =>
            obtain ⟨us, e, _⟩ := e2
            rw [ha] at e
            cases e
          | obj c l =>
            obtain ⟨dx, us, e, q⟩ := e2
            exact ⟨a, dx, us, rfl, fun z => z.2 rfl, e, RepF.keep keeps_refl less _ _ q⟩
          | _ => exact e2.elim
      exact ⟨fun b => U B O b ∧ b ≠ a, d0 :: ds, _, xk, hl, f.rm, fun a z => f.fr.mt a z.1, ⟨_, _, rfl, r0, RepL.keep keeps_refl less _ _ rl⟩, hm, fun d hd v H' e r3 => hf d hd.2 v H' e (noB_rep (fun b hb => by
        by_cases z : b = a
        · subst z
          exact .inr ⟨_, _, _, e.at ha rfl⟩
        · exact .inl ⟨hb, z⟩) _ _ (hd.1.2 q) r3), f.xo⟩
theorem c_call (G : Good T L W X) {g : Str} {es : List E} {xs : List Expr} {p pos : Pos} (hf : (T.fn g).isSome = true) (hg : Gl X g) (hd : g ≠ "__debug__") (h1 : 1 ≤ xs.length) (hs : xs.all noStar = true)
    (h : PA X xs (rdEs T X.K (owf ow) W es)) : PE X (.Call (.Name g p) xs [] pos) (rdE T X.K (owf ow) W (.call g es)) := by
  obtain ⟨e, he⟩ := Option.isSome_iff_exists.mp hf
  obtain ⟨fa, fd, ps, hp, hk, F, hm, kp, hb⟩ := G.tab.fn g e he
  have hcost : dcE T (.call g es) = dcEs T es + e.c := by
    show dcEs T es + (match T.fn g with
      | some e => e.c
      | none => 0) = _
    rw [he]
  cases xs with
  | nil => exact absurd h1 (by decide)
  | cons y ys =>
    rw [List.all_cons, Bool.and_eq_true] at hs
    refine (pe_callG (E := fun σ cls d H => W cls d σ H) F (G.room.mono hk) G.guards hg hm kp hb (L2N.passAt G.tk) h (beq_eq_false_iff_ne.mpr hd) (star_of hs.1) (plain_args hs.2)).imp fun σ H Q h => ?_
    obtain ⟨B, O, ρ, xk, Qd, f, hq, hf⟩ := h
    rw [hcost] at f hf
    refine ⟨B, O, ρ, xk, _, f.l, (show wpEs T xk es ρ fun ds => ∃ e, T.fn g = some e ∧ ds.length = e.n ∧ e.m ds (fun d => (es.any ownB = true → flatD d = true) ∧ Qd d) xk from hq), fun ds hds vs H1 e1 r r2 => ?_⟩
    obtain ⟨e', he', hn, hw⟩ := hds
    rw [he] at he'
    cases he'
    exact call_sp (f.ex e1) hn hw r r2 (fun d hd v H2 e2 r3 => hf d hd v H2 (e1.trans e2) (Res.of r3 rfl))

/-! dicts -/
theorem keyK_rep {K : PySem.W.Frag} {A : AP} {H : Hp} {d : D} {k : Key} {v : V} (e : keyK d = some k) (r : RepB K A H d v) : v = kV k := by
  cases d with
  | int i =>
    cases e
    exact rb_int r
  | str x =>
    cases e
    exact rb_str r
  | _ => cases e
theorem keyKs_rep {K : PySem.W.Frag} {A : AP} {H : Hp} : ∀ {l : List D} {ks : List Key} {vs : List V}, keyKs l = some ks → RepL K A H l vs → vs = ks.map kV
  | [], ks, vs, e, r => by
    cases e
    exact r
  | d :: l, ks, vs, e, r => by
    obtain ⟨v, w, rfl, h1, h2⟩ := r
    have e' : (match keyK d, keyKs l with
      | some p, some q => some (p :: q)
      | _, _ => none) = some ks := e
    cases hp : keyK d with
    | none => rw [hp] at e'; cases e'
    | some p =>
      cases hq : keyKs l with
      | none => rw [hp, hq] at e'; cases e'
      | some q =>
        rw [hp, hq] at e'
        cases e'
        rw [keyK_rep hp (.inl h1), keyKs_rep hq h2]
        rfl
theorem keyT_rep {K : PySem.W.Frag} {A : AP} {H : Hp} {d : D} {k : List Key} {v : V} (e : keyT d = some k) (r : RepB K A H d v) : ∃ a, v = .ref a ∧ H a = some (.tup (k.map kV)) := by
  cases d with
  | tup l =>
    obtain ⟨a, vs, rfl, hs, hl⟩ := rb_tup0 r
    rw [keyKs_rep e hl] at hs
    exact ⟨a, rfl, hs⟩
  | _ => cases e
theorem valD_rep {K : PySem.W.Frag} {A : AP} {H : Hp} {k : Key} : ∀ {l : List (Key × D)} {vs : List (Key × V)}, RepK K A H l vs → (valD l k = none → valV vs k = none) ∧ ∀ d, valD l k = some d → ∃ v, valV vs k = some v ∧ Rep K A H d v
  | [], _, r => by
    rw [show _ = [] from r]
    exact ⟨fun _ => rfl, fun d e => (by cases e)⟩
  | (k', d) :: l, _, r => by
    obtain ⟨v, w, rfl, h1, h2⟩ := r
    obtain ⟨i1, i2⟩ := valD_rep (k := k) h2
    unfold valD valV at i1 i2 ⊢
    rw [List.find?_cons, List.find?_cons]
    by_cases hk : k' = k
    · simp only [hk, decide_true]
      exact ⟨fun e => (by cases e), fun d' e => (by cases e; exact ⟨v, rfl, h1⟩)⟩
    · simp only [hk, decide_false]
      exact ⟨i1, i2⟩
theorem valT_rep {K : PySem.W.Frag} {A : AP} {H : Hp} {k : List Key} : ∀ {l : List (List Key × D)} {vs : List (List Key × V)}, RepT K A H l vs → (valD l k = none → valV vs k = none) ∧ ∀ d, valD l k = some d → ∃ v, valV vs k = some v ∧ Rep K A H d v
  | [], _, r => by
    rw [show _ = [] from r]
    exact ⟨fun _ => rfl, fun d e => (by cases e)⟩
  | (k', d) :: l, _, r => by
    obtain ⟨v, w, rfl, h1, h2⟩ := r
    obtain ⟨i1, i2⟩ := valT_rep (k := k) h2
    unfold valD valV at i1 i2 ⊢
    rw [List.find?_cons, List.find?_cons]
    by_cases hk : k' = k
    · simp only [hk, decide_true]
      exact ⟨fun e => (by cases e), fun d' e => (by cases e; exact ⟨v, rfl, h1⟩)⟩
    · simp only [hk, decide_false]
      exact ⟨i1, i2⟩
theorem nosl_of {y : Expr} (h : noSlice y = true) : NoSl y := by
  cases y with
  | Slice a b c p => cases h
  | _ => exact fun _ _ => rfl
theorem units1 (G : Good T L W X) : X.A.units + 1 < cLine := by
  have := G.room.un
  omega
theorem dget_of {K : PySem.W.Frag} {A : AP} {H : Hp} {x y : D} {v u : V} {Qd : DK} (h : dgetD x y Qd) (r1 : RepB K A H x v) (r2 : RepB K A H y u) : ∃ a w d, v = .ref a ∧ DGet H a u (some w) ∧ Qd d ∧ Rep K A H d w := by
  cases x with
  | dic l =>
    obtain ⟨k, d, hk, hv, q⟩ := h
    obtain ⟨a, vs, rfl, hr, rk⟩ := rb_dic r1
    obtain ⟨w, hw, rw'⟩ := (valD_rep (k := k) rk).2 d hv
    exact ⟨a, w, d, rfl, .inl ⟨vs, k, hr, keyK_rep hk r2, hw.symm⟩, q, rw'⟩
  | dit l =>
    obtain ⟨k, d, hk, hv, q⟩ := h
    obtain ⟨a, vs, rfl, hr, rk⟩ := rb_dit r1
    obtain ⟨w, hw, rw'⟩ := (valT_rep (k := k) rk).2 d hv
    obtain ⟨b, eb, hb⟩ := keyT_rep hk r2
    exact ⟨a, w, d, rfl, .inr ⟨vs, k, b, hr, eb, hb, hw.symm⟩, q, rw'⟩
  | _ => exact h.elim
theorem c_dget (G : Good T L W X) {a i : E} {x y : Expr} {pos : Pos} (hs : noSlice y = true) (ha : PE X x (rdE T X.K (owf ow) W a)) (hb : PE X y (rdE T X.K (owf ow) W i)) : PE X (.Subscript x y pos) (rdE T X.K (owf ow) W (.dget a i)) := by
  refine (pe_dget (units1 G) ha hb (nosl_of hs)).imp fun σ H Q h => ?_
  obtain ⟨B, O, ρ, xk, Qd, f, hq, hf⟩ := h
  refine ⟨B, O, ρ, xk, _, f.l, (show wpE T xk a ρ fun x => wpE T xk i ρ fun y => dgetD x y Qd from hq), fun dx hx v H1 e1 r1 => ⟨B, O, ρ, xk, _, f.ex e1, hx, fun dy hy u H2 e2 r2 => ?_⟩⟩
  obtain ⟨p, w, d, e, g, q, r⟩ := dget_of hy (r1.1.ex e2) r2.1
  exact ⟨p, w, e, g, hf d q w H2 (e1.trans e2) (Res.of r rfl)⟩
theorem din_of {K : PySem.W.Frag} {A : AP} {H : Hp} {neg : Bool} {x y : D} {v u : V} {Qd : DK} (h : dinD neg x y Qd) (r1 : RepB K A H x v) (r2 : RepB K A H y u) : ∃ a o, u = .ref a ∧ DGet H a v o ∧ Qd (.bl (negB neg o.isSome)) := by
  cases y with
  | dic l =>
    obtain ⟨k, hk, q⟩ := h
    obtain ⟨a, vs, rfl, hr, rk⟩ := rb_dic r2
    refine ⟨a, valV vs k, rfl, .inl ⟨vs, k, hr, keyK_rep hk r1, rfl⟩, ?_⟩
    have : (valV vs k).isSome = (valD l k).isSome := by
      cases hv : valD l k with
      | none => rw [(valD_rep (k := k) rk).1 hv]; rfl
      | some d =>
        obtain ⟨w, hw, _⟩ := (valD_rep (k := k) rk).2 d hv
        rw [hw]; rfl
    rw [this]
    exact q
  | dit l =>
    obtain ⟨k, hk, q⟩ := h
    obtain ⟨a, vs, rfl, hr, rk⟩ := rb_dit r2
    obtain ⟨b, eb, hb⟩ := keyT_rep hk r1
    refine ⟨a, valV vs k, rfl, .inr ⟨vs, k, b, hr, eb, hb, rfl⟩, ?_⟩
    have : (valV vs k).isSome = (valD l k).isSome := by
      cases hv : valD l k with
      | none => rw [(valT_rep (k := k) rk).1 hv]; rfl
      | some d =>
        obtain ⟨w, hw, _⟩ := (valT_rep (k := k) rk).2 d hv
        rw [hw]; rfl
    rw [this]
    exact q
  | _ => exact h.elim
theorem din_rd {neg : Bool} {a b : E} {σ : L2.St} {H : Hp} {Q : VK} (h : rdE T X.K (owf ow) W (.din neg a b) σ H Q) :
    rdE T X.K (owf ow) W a σ H fun y H1 => rdE T X.K (owf ow) W b σ H1 fun x H2 => ∃ a o, x = .ref a ∧ DGet H2 a y o ∧ Q (.bl (negB neg o.isSome)) H2 := by
  obtain ⟨B, O, ρ, xk, Qd, f, hq, hf⟩ := h
  refine ⟨B, O, ρ, xk, _, f.l, (show wpE T xk a ρ fun x => wpE T xk b ρ fun y => dinD neg x y Qd from hq), fun dx hx v H1 e1 r1 => ⟨B, O, ρ, xk, _, f.ex e1, hx, fun dy hy u H2 e2 r2 => ?_⟩⟩
  obtain ⟨p, o, e, g, q⟩ := din_of hy (r1.1.ex e2) r2.1
  exact ⟨p, o, e, g, hf _ q _ H2 (e1.trans e2) (Res.of rfl rfl)⟩
theorem c_din (G : Good T L W X) {neg : Bool} {a b : E} {x y : Expr} {pos : Pos} (hm : behindInMarks (if neg then .NotIn else .In) y = false) (ha : PE X x (rdE T X.K (owf ow) W a)) (hb : PE X y (rdE T X.K (owf ow) W b)) :
    PE X (.Compare x [if neg then .NotIn else .In] [y] pos) (rdE T X.K (owf ow) W (.din neg a b)) := by
  cases neg with
  | false => exact pe_cmp ((pc_din (units1 G) ha hb).imp fun σ H Q h => din_rd h) hm
  | true => exact pe_cmp ((pc_dnotin (units1 G) ha hb).imp fun σ H Q h => din_rd h) hm
theorem c_dinT (G : Good T L W X) {neg : Bool} {a b : E} {x y : Expr} {pos : Pos} (hm : behindInMarks (if neg then .NotIn else .In) y = false) (ha : PE X x (rdE T X.K (owf ow) W a)) (hb : PE X y (rdE T X.K (owf ow) W b)) :
    PT X (.Compare x [if neg then .NotIn else .In] [y] pos) (rdT T X.K (owf ow) W (.din neg a b)) := by
  cases neg with
  | false => exact (pt_cmp (pc_din (units1 G) ha hb) hm).imp fun σ H Q h => din_rd (neg := false) (t_of h)
  | true => exact (pt_cmp (pc_dnotin (units1 G) ha hb) hm).imp fun σ H Q h => din_rd (neg := true) (t_of h)
theorem c_dnew {t : Bool} {pos : Pos} : PE X (.Dict [] [] pos) (rdE T X.K (owf ow) W (.dnew t)) := by
  cases t with
  | false =>
    refine pe_dnewK.imp fun σ H Q h p hp => ?_
    obtain ⟨B, O, ρ, xk, Qd, f, hq, hf⟩ := h
    have na := f.fr.fresh hp
    have ow : OwnAt X.K (U (U B O) (· = p)) (upd H p (.dK [])) p (.dic []) := ⟨[], upd_same, rfl⟩
    exact hf _ hq _ _ (Ex.new hp) ⟨.inl (own_rep na ow), fun _ => own_rep na ow, fun _ => ⟨p, rfl, hp, ow⟩⟩
  | true =>
    refine pe_dnewT.imp fun σ H Q h p hp => ?_
    obtain ⟨B, O, ρ, xk, Qd, f, hq, hf⟩ := h
    have na := f.fr.fresh hp
    have ow : OwnAt X.K (U (U B O) (· = p)) (upd H p (.dT [])) p (.dit []) := ⟨[], upd_same, rfl⟩
    exact hf _ hq _ _ (Ex.new hp) ⟨.inl (own_rep na ow), fun _ => own_rep na ow, fun _ => ⟨p, rfl, hp, ow⟩⟩
end
end DL

/-! D1: targets; what is walked -/
namespace DL
open PySem PySem.Spec PyProof.Rows L2 Evl

/-! ### the frame, changed -/
section
variable {K : PySem.W.Frag} {own : Nat → Bool} {B B' O : AP} {H H' : Hp} {σ : L2.St} {ρ : DE}
theorem Fr.set (f : Fr K own B O H σ ρ) {i : Nat} {d : D} {v : V} (ho : own i = false) (r : Rep K (U B O) H d v) : Fr K own B O H (σ.set i (some v)) (ρ.set i (some d)) := by
  refine ⟨by rw [List.length_set, List.length_set, f.len], fun j e h1 h2 => ?_, fun j e h1 h2 => ?_, fun j k a h1 h2 h3 h4 h5 h6 => ?_, f.mt⟩
  · by_cases e1 : i = j
    · subst e1
      have hl : i < ρ.length := by
        have := (List.getElem?_eq_some_iff.mp h2).1
        rwa [List.length_set] at this
      rw [List.getElem?_set_self hl] at h2
      cases h2
      exact ⟨v, List.getElem?_set_self (by rw [f.len]; exact hl), r⟩
    · rw [List.getElem?_set_ne e1] at h2 ⊢
      exact f.fz j e h1 h2
  · have e1 : i ≠ j := fun z => by rw [z, h1] at ho; cases ho
    rw [List.getElem?_set_ne e1] at h2 ⊢
    exact f.ow j e h1 h2
  · have e1 : i ≠ j := fun z => by rw [z, h1] at ho; cases ho
    have e2 : i ≠ k := fun z => by rw [z, h2] at ho; cases ho
    rw [List.getElem?_set_ne e1] at h3 h5
    rw [List.getElem?_set_ne e2] at h4 h6
    exact f.dj j k a h1 h2 h3 h4 h5 h6
/-- a slot forgotten on both sides -/
theorem Fr.drop (f : Fr K own B O H σ ρ) (i : Nat) (x : Option V) : Fr K own B O H (σ.set i x) (ρ.set i none) := by
  have key : ∀ {j : Nat} {e : D}, (ρ.set i none)[j]? = some (some e) → i ≠ j ∧ ρ[j]? = some (some e) := fun {j e} h => by
    by_cases e1 : i = j
    · subst e1
      have hl : i < ρ.length := by
        have := (List.getElem?_eq_some_iff.mp h).1
        rwa [List.length_set] at this
      rw [List.getElem?_set_self hl] at h
      cases h
    · exact ⟨e1, by rwa [List.getElem?_set_ne e1] at h⟩
  refine ⟨by rw [List.length_set, List.length_set, f.len], fun j e h1 h2 => ?_, fun j e h1 h2 => ?_, fun j k a h1 h2 h3 h4 h5 h6 => ?_, f.mt⟩
  · obtain ⟨e1, h2⟩ := key h2
    rw [List.getElem?_set_ne e1]
    exact f.fz j e h1 h2
  · obtain ⟨e1, h2⟩ := key h2
    rw [List.getElem?_set_ne e1]
    exact f.ow j e h1 h2
  · obtain ⟨d3, h3⟩ := h3
    obtain ⟨d4, h4⟩ := h4
    obtain ⟨e1, h3⟩ := key h3
    obtain ⟨e2, h4⟩ := key h4
    rw [List.getElem?_set_ne e1] at h5
    rw [List.getElem?_set_ne e2] at h6
    exact f.dj j k a h1 h2 ⟨d3, h3⟩ ⟨d4, h4⟩ h5 h6
theorem Fr.wipe (f : Fr K own B O H σ ρ) : ∀ vs : List Nat, Fr K own B O H (L2.wipe σ vs) (wipeD ρ vs)
  | [] => f
  | v :: vs => (Fr.wipe f vs).drop v none
theorem wipe_set {σ : L2.St} {i : Nat} {x : Option V} : ∀ {vs : List Nat}, i ∈ vs → L2.wipe (σ.set i x) vs = L2.wipe σ vs
  | v :: vs, h => by
    unfold L2.wipe
    by_cases e : i ∈ vs
    · rw [wipe_set e]
    · have ev : i = v := (List.mem_cons.mp h).resolve_right e
      subst ev
      have out : ∀ {vs : List Nat} {σ : L2.St}, i ∉ vs → L2.wipe (σ.set i x) vs = (L2.wipe σ vs).set i x := by
        intro vs
        induction vs with
        | nil => intro σ _; rfl
        | cons w ws ih =>
          intro σ hn
          have h1 : w ≠ i := fun z => hn (by rw [z]; exact List.mem_cons_self)
          unfold L2.wipe
          rw [ih fun m => hn (List.mem_cons_of_mem _ m), List.set_comm _ _ (Ne.symm h1)]
      rw [out e, List.set_set]
theorem wipe_wipe {σ : L2.St} {vs : List Nat} : ∀ {ws : List Nat}, (∀ i ∈ ws, i ∈ vs) → L2.wipe (L2.wipe σ ws) vs = L2.wipe σ vs
  | [], _ => rfl
  | w :: ws, h => by
    show L2.wipe ((L2.wipe σ ws).set w none) vs = _
    rw [wipe_set (h w List.mem_cons_self)]
    exact wipe_wipe fun i m => h i (List.mem_cons_of_mem _ m)
end
/-! ### targets -/
def ptIx : Pt → List Nat
  | .one i => [i]
  | .many is => is
def setsV (σ : L2.St) : List Nat → List V → L2.St
  | i :: is, v :: vs => setsV (σ.set i (some v)) is vs
  | _, _ => σ
def gNms (is : List Nat) : TGs := fun vs σ H Q => vs.length = is.length ∧ Q (setsV σ is vs) H
def gPt (K : PySem.W.Frag) : Pt → TG
  | .one i => gName i
  | .many is => gTup K is.length (gNms is)
section
variable {X : Cx} {N : List Str} {ow : List Nat} {vs : Option (Scope × List Nat)} {sc : Scope}
theorem mNm_of {i : Nat} {x : Str} (h : mNm N ow vs sc i x = true) : N[i]? = some x ∧ Loc sc x ∧ ow.contains i = false ∧ (∀ s0 l, vs = some (s0, l) → l.contains i = true ∧ (s0.names.lookup x = some .cell ∨ sc.names.lookup x = some .local)) := by
  unfold mNm at h
  simp only [Bool.and_eq_true, decide_eq_true_eq, Bool.not_eq_true'] at h
  refine ⟨h.1, loc_of h.2.1, h.2.2.1, fun s0 l e => ?_⟩
  subst e
  have q := h.2.2.2
  simp only [Bool.and_eq_true, Bool.or_eq_true, decide_eq_true_eq] at q
  exact q
/-- how a context knows which names are its own -/
def FnOf (X : Cx) (vs : Option (Scope × List Nat)) : Prop := match vs with
  | none => ∀ x, X.fn x = true
  | some (s0, _) => ∀ x, s0.names.lookup x = some .cell → X.fn x = true
theorem pg_nm (hN : X.N = N) (hnd : X.N.Nodup) (hsc : X.env.scope = sc) (hf : FnOf X vs) {i : Nat} {x : Str} {pos : Pos} (h : mNm N ow vs sc i x = true) : PG X (.Name x pos) (gName i) := by
  obtain ⟨h1, h2, h3, h4⟩ := mNm_of h
  refine pg_name hnd (by rw [hN]; exact h1) (by rw [hsc]; exact h2) ?_
  cases vs with
  | none => exact .inl (hf x)
  | some p =>
    obtain ⟨s0, l⟩ := p
    rcases (h4 s0 l rfl).2 with q | q
    · exact .inl (hf x q)
    · exact .inr (by rw [hsc]; exact q)
theorem pgs_nms (hN : X.N = N) (hnd : X.N.Nodup) (hsc : X.env.scope = sc) (hf : FnOf X vs) : ∀ {is : List Nat} {es : List Expr}, mPts N ow vs sc is es = true → PGs X es (gNms is) ∧ (assignEach es X.env).length = is.length ∧ (assignEach es X.env).findIdx? (·.1) = none
  | [], [], _ => ⟨⟨fun pins s σ H vs us Q I r h => by
      have e : vs = [] := List.length_eq_zero_iff.mp h.1
      subst e
      cases r
      exact assignInOrder_nil ⟨σ, H, I, h.2⟩⟩, rfl, rfl⟩
  | i :: is, .Name x p :: es, h => by
    have h' : (mNm N ow vs sc i x && mPts N ow vs sc is es) = true := h
    rw [Bool.and_eq_true] at h'
    obtain ⟨h1, h2, h3⟩ := pgs_nms hN hnd hsc hf h'.2
    have c := pgs_cons (pg_nm hN hnd hsc hf h'.1 (pos := p)) h1 rfl
    refine ⟨⟨fun pins s σ H vs us Q I r h => c.run pins s σ H vs us Q I r ?_⟩, ?_, ?_⟩
    · cases vs with
      | nil => cases h.1
      | cons v w => exact ⟨v, w, rfl, Nat.succ.inj h.1, h.2⟩
    · show (assignEach es X.env).length + 1 = is.length + 1
      rw [h2]
    · show List.findIdx? _ ((false, _) :: assignEach es X.env) = none
      rw [List.findIdx?_cons]
      simp [h3]
  | [], _ :: _, h => by cases h
  | _ :: _, [], h => by cases h
  | i :: is, x :: es, h => by
    cases x with
    | Name x p =>
      have h' : (mNm N ow vs sc i x && mPts N ow vs sc is es) = true := h
      rw [Bool.and_eq_true] at h'
      obtain ⟨h1, h2, h3⟩ := pgs_nms hN hnd hsc hf h'.2
      have c := pgs_cons (pg_nm hN hnd hsc hf h'.1 (pos := p)) h1 rfl
      refine ⟨⟨fun pins s σ H vs us Q I r h => c.run pins s σ H vs us Q I r ?_⟩, ?_, ?_⟩
      · cases vs with
        | nil => cases h.1
        | cons v w => exact ⟨v, w, rfl, Nat.succ.inj h.1, h.2⟩
      · show (assignEach es X.env).length + 1 = is.length + 1
        rw [h2]
      · show List.findIdx? _ ((false, _) :: assignEach es X.env) = none
        rw [List.findIdx?_cons]
        simp [h3]
    | _ => cases h
theorem pg_pt (hc : X.calm = true) (hN : X.N = N) (hnd : X.N.Nodup) (hsc : X.env.scope = sc) (hf : FnOf X vs) {tg : Pt} {x : Expr} (h : mPt N ow vs sc tg x = true) : PG X x (gPt X.K tg) := by
  cases tg with
  | one i =>
    cases x with
    | Name x p => exact pg_nm hN hnd hsc hf h
    | _ => cases h
  | many is =>
    cases x with
    | Tuple es k p =>
      obtain ⟨h1, h2, h3⟩ := pgs_nms hN hnd hsc hf (show mPts N ow vs sc is es = true from h)
      exact pg_tup hc h1 h2 h3
    | _ => cases h
theorem mPt_own {tg : Pt} {x : Expr} (h : mPt N ow vs sc tg x = true) : ∀ i ∈ ptIx tg, owf ow i = false ∧ ∀ s0 l, vs = some (s0, l) → i ∈ l := by
  have key : ∀ {is : List Nat} {es : List Expr}, mPts N ow vs sc is es = true → ∀ i ∈ is, owf ow i = false ∧ ∀ s0 l, vs = some (s0, l) → i ∈ l := by
    intro is
    induction is with
    | nil => intro es _ i hi; cases hi
    | cons j is ih =>
      intro es h i hi
      cases es with
      | nil => cases h
      | cons y es =>
        cases y with
        | Name x p =>
          have h' : (mNm N ow vs sc j x && mPts N ow vs sc is es) = true := h
          rw [Bool.and_eq_true] at h'
          rcases List.mem_cons.mp hi with rfl | hi
          · obtain ⟨_, _, h3, h4⟩ := mNm_of h'.1
            exact ⟨h3, fun s0 l e => List.contains_iff_mem.mp (h4 s0 l e).1⟩
          · exact ih h'.2 i hi
        | _ => cases h
  cases tg with
  | one i =>
    cases x with
    | Name x p =>
      intro j hj
      obtain rfl := List.mem_singleton.mp hj
      obtain ⟨_, _, h3, h4⟩ := mNm_of (show mNm N ow vs sc _ x = true from h)
      exact ⟨h3, fun s0 l e => List.contains_iff_mem.mp (h4 s0 l e).1⟩
    | _ => cases h
  | many is =>
    cases x with
    | Tuple es k p => exact key (show mPts N ow vs sc is es = true from h)
    | _ => cases h
end
section
variable {K : PySem.W.Frag} {own : Nat → Bool} {B O : AP} {H : Hp}
theorem sets_fr : ∀ {is : List Nat} {ds : List D} {vs : List V} {σ : L2.St} {ρ : DE}, Fr K own B O H σ ρ → (∀ i ∈ is, own i = false) → RepL K (U B O) H ds vs → ds.length = is.length → Fr K own B O H (setsV σ is vs) ((is.zip ds).foldl (fun r p => r.set p.1 (some p.2)) ρ)
  | [], ds, vs, σ, ρ, f, _, r, hl => by
    have : ds = [] := List.length_eq_zero_iff.mp hl
    subst this
    rw [show vs = [] from r]
    exact f
  | i :: is, [], _, _, _, _, _, _, hl => by cases hl
  | i :: is, d :: ds, vs, σ, ρ, f, ho, r, hl => by
    obtain ⟨v, w, rfl, h1, h2⟩ := r
    have q := sets_fr (is := is) (ds := ds) (vs := w) (f.set (ho i List.mem_cons_self) h1) (fun j hj => ho j (List.mem_cons_of_mem _ hj)) h2 (Nat.succ.inj hl)
    exact q
theorem sets_wipe {ws : List Nat} : ∀ {is : List Nat} {vs : List V} {σ : L2.St}, (∀ i ∈ is, i ∈ ws) → L2.wipe (setsV σ is vs) ws = L2.wipe σ ws
  | [], _, _, _ => rfl
  | _ :: _, [], _, _ => rfl
  | i :: is, v :: vs, σ, h => by
    show L2.wipe (setsV (σ.set i (some v)) is vs) ws = _
    rw [sets_wipe fun j hj => h j (List.mem_cons_of_mem _ hj), wipe_set (h i List.mem_cons_self)]
/-- a store -/
theorem gpt_of {tg : Pt} {d : D} {v : V} {σ : L2.St} {ρ : DE} {R : DE → Prop} {Q : L2.St → Hp → Prop} (f : Fr K own B O H σ ρ) (ho : ∀ i ∈ ptIx tg, own i = false) (r : Rep K (U B O) H d v) (h : setPt tg d ρ R)
    (hq : ∀ σ' ρ', R ρ' → Fr K own B O H σ' ρ' → (∀ ws, (∀ i ∈ ptIx tg, i ∈ ws) → L2.wipe σ' ws = L2.wipe σ ws) → Q σ' H) : gPt K tg v σ H Q := by
  cases tg with
  | one i => exact hq _ _ h (f.set (ho i List.mem_cons_self) r) fun ws hw => wipe_set (hw i List.mem_cons_self)
  | many is =>
    obtain ⟨ds, rfl, hl, hr⟩ := h
    obtain ⟨a, vs, rfl, hs, rl⟩ := r
    have l2 := RepL.length rl
    exact ⟨a, vs, rfl, .inl (.inl hs), by rw [l2, hl], by rw [l2, hl], hq _ _ hr (sets_fr f ho rl hl) fun ws hw => sets_wipe hw⟩
end
/-! ### what is walked -/
/-- J gives the items of l, while C -/
def WkJ (K : PySem.W.Frag) (J : It) (C : AP → Hp → Prop) (l : List D) : Prop := ∀ A H, C A H → (∀ i, i < l.length → J.go i H) ∧ J.stop l.length H ∧ ∀ i x H', i < l.length → J.yld i H x H' → Ex 0 H H' ∧ ∃ d, l[i]? = some d ∧ Rep K A H' d x
/-- what holds on: through new things; through changes, if nothing of one's own is walked -/
structure CSt (ow : Bool) (C : AP → Hp → Prop) : Prop where
  ex : ∀ A A' H H' δ, C A H → Ex δ H H' → Grows H A A' → C A' H'
  kp : ow = false → ∀ A A' H H', C A H → Keeps A H H' → Grows H A A' → C A' H'
def rdI (T : Tb) (K : PySem.W.Frag) (own : Nat → Bool) (W : WX) (e : E) : TI := fun σ H R => ∃ B O ρ xk Qd, FX K own W xk B O (dcE T e) H σ ρ ∧ wpE T xk e ρ Qd ∧
  (∀ w, Qd w → ∃ l, walkD w = some l ∧ ∀ J C H', Ex (dcE T e) H H' → WkJ K J C l → CSt (ownS e) C → C (U B O) H' → (∀ i, e = .own i → ∃ a, σ[i]? = some (some (.ref a)) ∧ O a ∧ ∀ A H, OwnAt K A H a w → C A H) → R J H')
section
variable {K : PySem.W.Frag}
theorem wk_lst {l : List D} {a : Addr} : WkJ K (Itl K a) (fun A H => ∃ vs, SqL K H a vs ∧ RepL K A H l vs) l := fun A H h => by
  obtain ⟨vs, hs, r⟩ := h
  have hl := RepL.length r
  refine ⟨fun i hi => ⟨vs, vs[i]'(by omega), hs, by simp [hl, hi]⟩, ⟨vs, hs, by omega⟩, fun i x H' hi y => ?_⟩
  obtain ⟨rfl, y⟩ := y
  exact ⟨Ex.refl _, RepL.get' r (y vs hs)⟩
theorem wk_tup {l : List D} {a : Addr} : WkJ K (Itt K a) (fun A H => ∃ vs, SqT K H a vs ∧ RepL K A H l vs) l := fun A H h => by
  obtain ⟨vs, hs, r⟩ := h
  have hl := RepL.length r
  refine ⟨fun i hi => ⟨vs, vs[i]'(by omega), hs, by simp [hl, hi]⟩, ⟨vs, hs, by omega⟩, fun i x H' hi y => ?_⟩
  obtain ⟨rfl, y⟩ := y
  exact ⟨Ex.refl _, RepL.get' r (y vs hs)⟩
theorem wk_str {z : Str} : WkJ K (Its z) (fun _ _ => True) (z.cps.toList.map fun c => .str ⟨#[c]⟩) := fun A H _ => by
  refine ⟨fun i hi => (show i < z.cps.size by simpa using hi), by simp [Its], fun i x H' hi y => ?_⟩
  obtain ⟨rfl, c, hc, rfl⟩ := y
  exact ⟨Ex.refl _, .str ⟨#[c]⟩, by simp [hc], rfl⟩
theorem wk_range {lo : Int} {n : Nat} : WkJ K (Itr lo n) (fun _ _ => True) ((List.range n).map fun (k : Nat) => .int (lo + (k : Int))) := fun A H _ => by
  refine ⟨fun i hi => (show i < n by simpa using hi), by simp [Itr], fun i x H' hi y => ?_⟩
  obtain ⟨rfl, rfl⟩ := y
  have hi' : i < n := by simpa using hi
  exact ⟨Ex.refl _, .int (lo + i), by simp [hi'], rfl⟩
theorem cst_true {b : Bool} : CSt b fun _ _ => True := ⟨fun _ _ _ _ _ _ _ _ => trivial, fun _ _ _ _ _ _ _ _ => trivial⟩
end
/-- a list, a tuple, a text -/
def iSeq (K : PySem.W.Frag) (te : TE) : TI := fun σ H R => te σ H fun x H1 => (∃ a, x = .ref a ∧ (∃ xs, SqL K H1 a xs) ∧ R (Itl K a) H1) ∨ (∃ a, x = .ref a ∧ (∃ xs, SqT K H1 a xs) ∧ R (Itt K a) H1) ∨ ∃ z, x = .str z ∧ R (Its z) H1
theorem pi_seq {X : Cx} {tg l : Expr} {te : TE} (hl : PE X l te) : PI X tg l (iSeq X.K te) := by
  refine ⟨fun pins s σ H R I h => ?_⟩
  refine thn (hl.run pins s σ H _ I h) fun v s1 ⟨x, H1, I1, r1, q1⟩ => ?_
  rcases q1 with ⟨a, e, ⟨xs, hq⟩, q⟩ | ⟨a, e, ⟨xs, hq⟩, q⟩ | ⟨z, e, q⟩
  · subst e
    cases r1
    obtain ⟨its, rv, p, hz⟩ := I1.list hq
    exact wpAny_pyIter_list p.isList (pi_one (tk := s1.toks) I1 _ (turn_list a _) ⟨_, Heap.get?_push_size _ rfl, rfl, rfl⟩ q)
  · subst e
    cases r1
    obtain ⟨its, rv, p, hz⟩ := I1.tuple hq
    exact wpAny_pyIter_tuple (show s1.heap.IsTuple a its.toArray from p) (pi_one (tk := s1.toks) I1 _ (turn_tuple a _) ⟨_, Heap.get?_push_size _ rfl, rfl, rfl⟩ q)
  · subst e
    obtain ⟨t, rfl⟩ := r1
    cases ha : z.cps.all (· < 128)
    · exact wpAny_pyIter_wide ha (pi_one (tk := s1.toks) I1 _ (turn_str _ z t "str_iterator" (.inr rfl)) ⟨_, Heap.get?_push_size _ rfl, rfl, rfl⟩ q)
    · exact wpAny_pyIter_ascii ha (pi_one (tk := s1.toks) I1 _ (turn_str _ z t "str_ascii_iterator" (.inl rfl)) ⟨_, Heap.get?_push_size _ rfl, rfl, rfl⟩ q)
end DL

/-! E2: enumerate over a tuple -/
namespace DL
open PySem PySem.Spec PyProof.Rows L2 Evl

theorem meets_enumerate_newT {v : Value} {o : Obj} {H : Heap → Prop} (B : Begins v o H) :
    Meets (Builtin.«enumerate.__new__» ⟨[.type "enumerate", v], []⟩) (fun _ R s => H s.heap ∧
      R (.ok (.ret (.ref (s.heap.push o).objs.size))) { s with heap := (s.heap.push o).push { cls := .type "enumerate", data := .fields #[.none, .bool false, .ref s.heap.objs.size, rawInt 0, .none, .none] } }) :=
  .of_wp fun prog w A R s h => by
    obtain ⟨hp, g, d, tk, os⟩ := s; obtain ⟨h1, h⟩ := h
    have hsub := sub_enumerate
    have q1 : ∀ {A' : Around} {E : Value → Shared → Prop} {Q : Value → Shared → Prop}, Q (.ref hp.objs.size) ⟨hp.push o, g, d, tk, os⟩ → wpAny (model prog w) A' (pyIter v) Q E ⟨hp, g, d, tk, os⟩ :=
      fun q => B.iter prog w _ _ ⟨hp, g, d, tk, os⟩ _ h1 q
    wp_walk using q1
    refine wpAny_stack_any fun st => wpAny_pure ?_
    split
    · rename_i c _ _ _ _ _
      cases (c == Value.type "enumerate")
      · wp_walk using q1
        exact ⟨_, rfl, h⟩
      · wp_walk using q1
        exact ⟨_, rfl, h⟩
    · wp_walk using q1
      exact ⟨_, rfl, h⟩
theorem call_enumerate_begins {prog : Program} {w : World} {A : Around} {E : Value → Shared → Prop} {s : Shared} {v : Value} {o : Obj} {H : Heap → Prop} {Q : Value → Shared → Prop} (B : Begins v o H) (h1 : H s.heap)
    (h : ∀ h', IsEnum h' (s.heap.objs.size + 1) s.heap.objs.size 0 .none → h'.get? s.heap.objs.size = some o → h'.objs.size = s.heap.objs.size + 2 →
      (∀ b o, s.heap.get? b = some o → h'.get? b = some o) → Q (.ref (s.heap.objs.size + 1)) { s with heap := h' }) :
    wpAny (model prog w) A (call (.type "enumerate") [v]) Q E s := by
  refine callType_new F.called_enumerate (by decide) (F.typeCall_enumerate_1 _) (F.newCall_enumerate_1 _) (fun obj => F.args_object_init_2 obj _) F.entry_enumerate_new
    (meets_enumerate_newT B) ⟨h1, ?_⟩
  have hz : (s.heap.push o).objs.size = s.heap.objs.size + 1 := Heap.size_push ..
  show _ ∧ _
  rw [hz]
  have he : IsEnum ((s.heap.push o).push { cls := .type "enumerate", data := .fields #[.none, .bool false, .ref s.heap.objs.size, rawInt 0, .none, .none] }) (s.heap.objs.size + 1) s.heap.objs.size 0 .none := by
    have := Heap.get?_push_size (s.heap.push o) (o := { cls := .type "enumerate", data := .fields #[.none, .bool false, .ref s.heap.objs.size, rawInt 0, .none, .none] }) rfl
    rw [hz] at this; exact this
  refine ⟨⟨_, he, rfl⟩, h _ he (Heap.get?_push_of_some _ (Heap.get?_push_size _ B.free)) (by rw [Heap.size_push, hz]) fun b o x => Heap.get?_push_of_some _ (Heap.get?_push_of_some _ x)⟩
/-- the tuple at a, each item in a new pair -/
def IteT (K : PySem.W.Frag) (a : Addr) : It :=
  ⟨fun i H => ∃ (xs : List V) (x : V), SqT K H a xs ∧ xs[i]? = some x, fun i H v H' => ∃ T x, v = .ref T ∧ H T = none ∧ H' = upd H T (.tup [.int (i : Nat), x]) ∧ ∀ xs, SqT K H a xs → xs[i]? = some x, fun i H => ∃ xs : List V, SqT K H a xs ∧ xs.length ≤ i⟩
theorem enum_ne {h : Heap} {e it a : Addr} {i : Int} {old : Value} {items : Array Value} (he : IsEnum h e it i old) (ht : h.IsTuple a items) : e ≠ a := fun z => by
  obtain ⟨o, h1, h2, _⟩ := ht
  rw [← z, he] at h1
  cases h1
  exact absurd (show Value.type "enumerate" = Value.type "tuple" from h2) (by decide)
theorem turn_enumT {P : Program} {w : World} {K : PySem.W.Frag} {elts : List Expr} {kk : Nat} {tpos : Pos} (a e it : Addr) :
    Turn P w K (.Tuple elts kk tpos) (IteT K a) [e, it] e (fun i h => (∃ old, IsEnum h e it ((i : Nat) : Int) old) ∧ h.IsTupleIter it a i ∧ e ≠ it ∧ a ≠ it) where
  mem := by simp
  obj := fun i h st b hb => by
    obtain ⟨⟨old, he⟩, ⟨o, ho, hc, hd⟩, _⟩ := st
    have e' : b = e ∨ b = it := by simpa using hb
    rcases e' with z | z
    · rw [z]; exact ⟨_, he, fun v q => nomatch q⟩
    · rw [z]; exact ⟨o, ho, fun v q => by rw [hd] at q; cases q⟩
  keep := fun i h h' st k => let ⟨⟨old, he⟩, hi, hne⟩ := st; ⟨⟨old, k e (by simp) _ he⟩, hi.at fun o q => k it (by simp) o q, hne⟩
  item := by
    intro X hP hw hK hc i pins s σ H E I hf st hg
    subst hP hw hK
    obtain ⟨⟨old, he⟩, hit, hne, hna⟩ := st
    obtain ⟨xs, x, hq, hx⟩ := hg
    obtain ⟨its, rv, p, hz⟩ := I.tuple hq
    have p : s.heap.IsTuple a its.toArray := p
    obtain ⟨u, hu, ru⟩ := rv.get hx
    have hel : e < s.heap.objs.size := Heap.lt_size he
    have hil : it < s.heap.objs.size := by obtain ⟨_, q, _⟩ := hit; exact Heap.lt_size q
    have hea := enum_ne he p
    refine wpAny_pyNext_enum_itemD (Draws.tuple (A := X.A.in1) (I.ok.hd hc) it a hna its.toArray) he ⟨hit, p⟩ (by
      have := (List.getElem?_eq_some_iff.mp hu).1
      simpa using this) hne (by simp [hne, hea]) fun v h' tk hP ho hst hT hsz hk => ?_
    have ev : v = u := by
      have : its[i]? = some v := by simpa using hP
      rw [hu] at this
      exact (Option.some.inj this).symm
    subst ev
    obtain ⟨hit', p'⟩ := hst
    refine ⟨_, rfl, wpAny_letOwnedTupleGo_enum (s := { s with heap := h', toks := tk + 1 }) ho fun h'' he' sb => ?_⟩
    have hT2 : h''.get? s.heap.objs.size = some { cls := .type "tuple", data := .seq #[.int i tk, v] } := (sb.2 _ (Nat.ne_of_gt hel)).trans hT
    have new : ObjOk X.prog X.w (upd H s.heap.objs.size (.tup [.int (i : Nat), x])) h'' s.heap.objs.size (.tup [.int (i : Nat), x]) :=
      ⟨by show 2 ≤ sizeLine; decide, [.int i tk, v], .cons ⟨_, rfl⟩ (.cons ru .nil), ⟨_, hT2, rfl, _, rfl⟩⟩
    have I1 : Inv X pins σ (upd H s.heap.objs.size (.tup [.int (i : Nat), x])) { s with heap := h'', toks := tk + 1 } :=
      I.turnedNew (t' := tk + 1) (ch := [e, it]) (fun b ob hb q => (sb.2 b (fun z => hb (by simp [z]))).trans (hk b ob (fun z => hb (by simp [z])) (fun z => hb (by simp [z])) q)) hf (Nat.le_refl _) new
    refine ⟨.ref s.heap.objs.size, _, I1, rfl, ⟨_, x, rfl, I.hok.fresh (Nat.le_refl _), rfl, fun ys hy => by rw [I.tuple_inj hy hq]; exact hx⟩, ⟨⟨v, ?_⟩, hit'.at fun o q => (sb.2 it (Ne.symm hne)).trans q, hne, hna⟩, fun b hb => ?_⟩
    · have e1 : ((i + 1 : Nat) : Int) = (i : Int) + 1 := by omega
      rw [e1]; exact he'
    · have hb' : b < s.heap.objs.size := by
        have e' : b = e ∨ b = it := by simpa using hb
        rcases e' with z | z
        · rw [z]; exact hel
        · rw [z]; exact hil
      rw [upd_ne (Nat.ne_of_lt hb')]
      exact (hf b hb).1
  done := by
    intro X hP hw hK hc i pins s σ H E I hf st hg
    subst hP hw hK
    obtain ⟨⟨old, he⟩, hit, hne, hna⟩ := st
    obtain ⟨xs, hq, hx⟩ := hg
    obtain ⟨its, rv, p, hz⟩ := I.tuple hq
    have p : s.heap.IsTuple a its.toArray := p
    obtain ⟨f0, f1, f2, f3, f4, f5⟩ := hf it (by simp)
    have hl := rv.length
    have hT : s.TypeIs (.ref e) "enumerate" := ⟨_, he, rfl⟩
    unfold pyNext
    refine wpAny_bind (wpAny_attempt (wpAny_callSpecial?_slot (name := Str.ofString "__next__") hT F.slot_enumerate_next
      (wpAny_call_entry F.slot_enumerate_next hT F.entry_enumerate_next ?_ (F.args_enumerate_next_1 _))))
    show wpAny _ _ (field (.ref e) 2 >>= _) _ _ _
    refine wpAny_bind (wpAny_field he rfl (x := .ref it) rfl ?_)
    refine wpAny_bind (wpAny_nextOf_tuple_end (A := X.A.in1) (I.ok.hd hc) hit p (by simp; omega) fun h' x he' hx' => ?_)
    obtain ⟨o, ho, hc⟩ := hx'
    refine wpAny_bind (wpAny_isInstance (T := "StopIteration") (b := true) ⟨o, ho, hc⟩ isSubtype_stop ?_)
    exact wpAny_pure ⟨rfl, I.turned (t' := s.toks) (fun b o hb q => he' b o hb q) f0 f1 f3 f4 f5⟩
  self := fun A i s Q E st h => let ⟨⟨_, he⟩, _⟩ := st; wpAny_pyIter_enum he h
def iEnumA (K : PySem.W.Frag) (ta : TA) : TI := fun σ H R => ta σ H fun vs H1 => ∃ a xs, vs = [.ref a] ∧ ((SqL K H1 a xs ∧ R (Ite K a) H1) ∨ (SqT K H1 a xs ∧ R (IteT K a) H1))
theorem pi_enumA {X : Cx} {e : Expr} {ta : TA} {p pos tpos : Pos} {elts : List Expr} {kk : Nat} (hg : Gl X "enumerate") (hm : X.mg "enumerate" = none) (ha : PA X [e] ta) (hs : starEach [e] X.env = [(false, eval e X.env)]) :
    PI X (.Tuple elts kk tpos) (.Call (.Name "enumerate" p) [e] [] pos) (iEnumA X.K ta) := by
  refine ⟨fun pins s σ H R I h => ?_⟩
  refine Call_ (ld_blt I hg hm boot_enumerate (PyProof.Rows.callWith_type1 (thn (ha.run pos pins s σ H _ I h) fun us s1 ⟨vs, H1, I1, r1, q1⟩ => ?_) hs rfl))
  obtain ⟨a, xs, ex, q1⟩ := q1
  subst ex
  cases r1 with
  | cons r rr =>
    cases rr
    cases r
    have fp : ∀ {h' : Heap}, ∀ b ∈ [s1.heap.objs.size + 1, s1.heap.objs.size], FpOk X pins H1 b := fun {h'} b hb => by
      have e' : b = s1.heap.objs.size + 1 ∨ b = s1.heap.objs.size := by simpa using hb
      have hle : s1.heap.objs.size ≤ b := by
        rcases e' with z | z
        · rw [z]; exact Nat.le_add_right _ _
        · rw [z]; exact Nat.le_refl _
      exact I1.fpOk hle (I1.hok.fresh hle)
    rcases q1 with ⟨hq, q⟩ | ⟨hq, q⟩
    · obtain ⟨its, rv, p', hz⟩ := I1.list hq
      refine call_enumerate_list p'.isList fun h' he hit hsz hk => wpAny_pyIter_enum he ?_
      have I2 : Inv X pins σ H1 { s1 with heap := h' } := I1.kept (t' := s1.toks) hk
      exact ⟨s1.heap.objs.size + 1, [s1.heap.objs.size + 1, s1.heap.objs.size], _, _, H1, rfl, I2, turn_enum a (s1.heap.objs.size + 1) s1.heap.objs.size, ⟨⟨.none, he⟩, hit, Nat.succ_ne_self _⟩, fp (h' := h'), q⟩
    · obtain ⟨its, rv, p', hz⟩ := I1.tuple hq
      have p : s1.heap.IsTuple a its.toArray := p'
      refine call_enumerate_begins (begins_tuple a its.toArray) p fun h' he hit hsz hk => wpAny_pyIter_enum he ?_
      have I2 : Inv X pins σ H1 { s1 with heap := h' } := I1.kept (t' := s1.toks) hk
      have hal : a < s1.heap.objs.size := by
        obtain ⟨o, h1, _⟩ := p
        exact Heap.lt_size h1
      exact ⟨s1.heap.objs.size + 1, [s1.heap.objs.size + 1, s1.heap.objs.size], _, _, H1, rfl, I2, turn_enumT a (s1.heap.objs.size + 1) s1.heap.objs.size, ⟨⟨.none, he⟩, ⟨_, hit, rfl, rfl⟩, Nat.succ_ne_self _, Nat.ne_of_lt hal⟩, fp (h' := h'), q⟩
end DL

/-! D2: iterators; comprehensions -/
namespace DL
open PySem PySem.Spec PyProof.Rows L2 Evl

def W0 : WX := fun _ _ _ _ => False
theorem keeps_upd {A : AP} {H : Hp} {p : Addr} {o o' : HO} (ha : A p) (hp : H p = some o) (hm : isMt o = true) : Keeps A H (upd H p o') := fun b ob hb nb => by
  by_cases e : b = p
  · subst e
    rw [hp] at hb
    cases hb
    rw [nb ha] at hm
    cases hm
  · exact .inl (by rw [upd_ne e]; exact hb)
theorem ex_upd {H H' : Hp} {p : Addr} {o : HO} {δ : Nat} (hp : H p = none) (e : Ex δ H H') (hx : isX o = false := by rfl) : Ex δ H (upd H' p o) := by
  refine ⟨fun b ob hb => ?_, fun c q a s n ea => ?_⟩
  · have nb := ne_of_none hb hp
    rcases e.kp b ob hb with z | ⟨s, n, n', rfl, z⟩
    · exact .inl (by rw [upd_ne nb]; exact z)
    · exact .inr ⟨s, n, n', rfl, by rw [upd_ne nb]; exact z⟩
  · by_cases z : a = p
    · subst z
      rw [upd_same] at ea
      cases ea
      cases hx
    · rw [upd_ne z] at ea
      exact e.ct c q a s n ea
theorem takes0 {X : Cx} : L2N.Takes X W0 := fun u s' ⟨_, _, _, _, _, _, _, _, _, _, _, _, _, _, _, _, w⟩ => w.elim
theorem xok0 {K : PySem.W.Frag} {σ : L2.St} {H : Hp} {W : WX} {δ : Nat} : XOk K W (fun _ => False) σ δ H := fun x hx => hx.elim
section
variable {T : Tb} {L : Nat} {W : WX} {X : Cx} {ow : List Nat}
theorem Good.blk (G : Good T L W X) (s : Shared) (H : Hp) (scope : Scope) (cenv : PySem.Env) (fp : List Addr) : Good T L W0 (X.blk s H scope cenv fp) := ⟨G.nd, G.calm, G.room, G.guards, takes0, G.tab⟩
theorem fold_of {i : Expr} {env : PySem.Env} (h : noSet i = true) : ∀ x, foldedSetIterable i env x = pure x := by
  cases i with
  | Set a b c => cases h
  | _ => exact fun _ => rfl
/-! iterators -/
theorem rep_wk {K : PySem.W.Frag} {A : AP} {H : Hp} {w : D} {v : V} {l : List D} (hw : walkD w = some l) (r : Rep K A H w v) :
    ∃ C, C A H ∧ CSt false C ∧ ((∃ a, v = .ref a ∧ (∃ xs, SqL K H a xs) ∧ WkJ K (Itl K a) C l) ∨ (∃ a, v = .ref a ∧ (∃ xs, SqT K H a xs) ∧ WkJ K (Itt K a) C l) ∨ ∃ z, v = .str z ∧ WkJ K (Its z) C l) := by
  have cst : CSt false (fun A H => Rep K A H w v) := ⟨fun A A' H H' δ h e g => Rep.keep (keeps_ex e) g _ _ h, fun _ A A' H H' h k g => Rep.keep k g _ _ h⟩
  refine ⟨fun A H => Rep K A H w v, r, cst, ?_⟩
  cases w with
  | lst m =>
    cases hw
    obtain ⟨a, vs, rfl, na, hs, rl⟩ := r
    refine .inl ⟨a, rfl, ⟨vs, .inl (.inl hs)⟩, fun A H h => wk_lst A H ?_⟩
    obtain ⟨a', vs', e, _, hs', rl'⟩ := h
    cases e
    exact ⟨vs', .inl (.inl hs'), rl'⟩
  | tup m =>
    cases hw
    obtain ⟨a, vs, rfl, hs, rl⟩ := r
    refine .inr (.inl ⟨a, rfl, ⟨vs, .inl (.inl hs)⟩, fun A H h => wk_tup A H ?_⟩)
    obtain ⟨a', vs', e, hs', rl'⟩ := h
    cases e
    exact ⟨vs', .inl (.inl hs'), rl'⟩
  | kt m =>
    cases hw
    obtain ⟨a, vs, rfl, hs, rl⟩ := r
    refine .inr (.inl ⟨a, rfl, ⟨vs, hs _⟩, fun A H h => wk_tup A H ?_⟩)
    obtain ⟨a', vs', e, hs', rl'⟩ := h
    cases e
    exact ⟨vs', hs' _, rl'⟩
  | str z =>
    cases hw
    rw [show v = .str z from r]
    exact .inr (.inr ⟨z, rfl, fun A H h => wk_str A H trivial⟩)
  | _ => cases hw
theorem c_iseq {e : E} {tg x : Expr} (h1 : ownB e = false) (h2 : ownS e = false) (he : PE X x (rdE T X.K (owf ow) W e)) : PI X tg x (rdI T X.K (owf ow) W e) := by
  refine (pi_seq he).imp fun σ H R h => ?_
  obtain ⟨B, O, ρ, xk, Qd, f, hq, hf⟩ := h
  refine ⟨B, O, ρ, xk, Qd, f, hq, fun d hd v H' ex r => ?_⟩
  obtain ⟨l, hl, q⟩ := hf d hd
  obtain ⟨C, hC, cst, hc⟩ := rep_wk hl (r.2.1 h1)
  have no : ∀ i, e = .own i → ∃ a, σ[i]? = some (some (.ref a)) ∧ O a ∧ ∀ A H, OwnAt X.K A H a d → C A H := fun i z => by rw [z] at h1; cases h1
  rw [h2] at q
  rcases hc with ⟨a, ev, hs, wk⟩ | ⟨a, ev, hs, wk⟩ | ⟨z, ev, wk⟩
  · exact .inl ⟨a, ev, hs, q _ C H' ex wk cst hC no⟩
  · exact .inr (.inl ⟨a, ev, hs, q _ C H' ex wk cst hC no⟩)
  · exact .inr (.inr ⟨z, ev, q _ C H' ex wk cst hC no⟩)
theorem c_iown {i : Nat} {x : Str} {tg : Expr} {pos : Pos} (hN : X.N[i]? = some x) (hv : Vis X.env.scope x) (hnm : okNm x = true) (ho : owf ow i = true) : PI X tg (.Name x pos) (rdI T X.K (owf ow) W (.own i)) := by
  refine (pi_list (pe_var hN hv (nm_of hnm).1 (nm_of hnm).2)).imp fun σ H R h => ?_
  obtain ⟨B, O, ρ, xk, Qd, f, ⟨d, hd, hq⟩, hf⟩ := h
  obtain ⟨a, h1, h2, h3⟩ := f.fr.ow i d ho hd
  obtain ⟨l, hl, q⟩ := hf d hq
  cases d with
  | lst m =>
    cases hl
    obtain ⟨vs, hs, rl⟩ := h3
    refine ⟨_, h1, a, rfl, ⟨vs, .inl (.inl hs)⟩, q _ (fun A H => OwnAt X.K A H a (.lst l)) H (Ex.refl H) (fun A H h => wk_lst A H ?_) ⟨fun A A' H H' δ h e g => OwnAt.keep (keeps_ex e) g (fun o z y => e.at z y) h, fun z => by cases z⟩ ⟨vs, hs, rl⟩ fun j e => ?_⟩
    · obtain ⟨vs', hs', rl'⟩ := h
      exact ⟨vs', .inl (.inl hs'), rl'⟩
    · cases e
      exact ⟨a, h1, h2, fun A H h => h⟩
  | tup m => exact h3.elim
  | kt m => exact h3.elim
  | str m => exact h3.elim
  | _ => cases hl
theorem a_one' {a : E} {y : Expr} (hs : noStar y = true) (h : PE X y (rdE T X.K (owf ow) W a)) : PA X [y] (fun σ H Q => rdE T X.K (owf ow) W a σ H fun v H1 => Q [v] H1) :=
  (pa_cons h pa_nil (star_of hs)).imp fun σ H Q q => q
theorem a_two {a b : E} {y z : Expr} (h1 : noStar y = true) (h2 : noStar z = true) (ha : PE X y (rdE T X.K (owf ow) W a)) (hb : PE X z (rdE T X.K (owf ow) W b)) :
    PA X [y, z] (fun σ H Q => rdE T X.K (owf ow) W a σ H fun v H1 => rdE T X.K (owf ow) W b σ H1 fun u H2 => Q [v, u] H2) :=
  (pa_cons ha (pa_cons hb pa_nil (star_of h2)) (star_of h1)).imp fun σ H Q q => q
theorem rng_fin {K : PySem.W.Frag} {B O : AP} {R : It → Hp → Prop} {Qd : DK} {e : E} {σ : L2.St} {H H1 : Hp} {lo : Int} {n δ : Nat} (no : ∀ i, e ≠ .own i)
    (hf : ∀ w, Qd w → ∃ l, walkD w = some l ∧ ∀ J C H', Ex δ H H' → WkJ K J C l → CSt (ownS e) C → C (U B O) H' → (∀ i, e = .own i → ∃ a, σ[i]? = some (some (.ref a)) ∧ O a ∧ ∀ A H, OwnAt K A H a w → C A H) → R J H')
    (e1 : Ex δ H H1) (q : Qd (.lst ((List.range n).map fun (k : Nat) => .int (lo + (k : Int))))) : R (Itr lo n) H1 := by
  obtain ⟨l, hl, k⟩ := hf _ q
  cases hl
  exact k _ _ H1 e1 wk_range cst_true trivial fun i z => absurd z (no i)
theorem c_irng (G : Good T L W X) {a : E} {y tg : Expr} {p pos : Pos} (hg : Gl X "range") (hs : noStar y = true) (h : PE X y (rdE T X.K (owf ow) W a)) : PI X tg (.Call (.Name "range" p) [y] [] pos) (rdI T X.K (owf ow) W (.rng a)) := by
  refine (pi_range1 hg G.tab.range (a_one' hs h) (star_of hs)).imp fun σ H R h => ?_
  obtain ⟨B, O, ρ, xk, Qd, f, hq, hf⟩ := h
  refine ⟨B, O, ρ, xk, _, f, hq, fun d hd v H1 e1 r => ?_⟩
  obtain ⟨n, rfl, h1, h2, q⟩ := hd
  exact ⟨n, by rw [rb_int r.1], h1, h2, rng_fin (fun i z => by cases z) hf e1 q⟩
theorem c_irng2 (G : Good T L W X) {a b : E} {y z tg : Expr} {p pos : Pos} (hg : Gl X "range") (hs : noStar y = true) (hs2 : noStar z = true) (h : PE X y (rdE T X.K (owf ow) W a)) (h2 : PE X z (rdE T X.K (owf ow) W b)) :
    PI X tg (.Call (.Name "range" p) [y, z] [] pos) (rdI T X.K (owf ow) W (.rng2 a b)) := by
  refine (pi_range2 hg G.tab.range (a_two hs hs2 h h2) (by rw [star_of hs, star_of hs2]; rfl) (star_of hs2)).imp fun σ H R h => ?_
  obtain ⟨B, O, ρ, xk, Qd, f, hq, hf⟩ := h
  refine ⟨B, O, ρ, xk, _, f.l, hq, fun d hd v H1 e1 r1 => ⟨B, O, ρ, xk, _, f.ex e1, hd, fun d2 hd2 v2 H2 e2 r2 => ?_⟩⟩
  obtain ⟨i, j, rfl, rfl, hb, q⟩ := hd2
  exact ⟨i, j, by rw [rb_int r1.1, rb_int r2.1], hb, rng_fin (fun i z => by cases z) hf (e1.trans e2) q⟩
/-- a new pair -/
theorem wk_enum {K : PySem.W.Frag} {l : List D} {a : Addr} : WkJ K (Ite K a) (fun A H => ∃ vs, SqL K H a vs ∧ RepL K A H l vs) (l.zipIdx.map fun p => .tup [.int (p.2 : Int), p.1]) := fun A H h => by
  obtain ⟨vs, hs, r⟩ := h
  have hl := RepL.length r
  have w := walk_enum (K := K) (a := a) (xs := vs)
  have len : (l.zipIdx.map fun p => D.tup [.int (p.2 : Int), p.1]).length = vs.length := by simp [hl]
  rw [len]
  refine ⟨fun i hi => w.goes i H hi hs, w.stops H hs, fun i x H' hi y => ?_⟩
  obtain ⟨t, u, v, rfl, hn, rfl, hu, hv⟩ := w.yields i H x H' hi hs y
  cases hu
  obtain ⟨d, hd, rd⟩ := RepL.get' r hv
  have ex := Ex.new (o := HO.tup [.int (i : Int), v]) hn
  refine ⟨ex, .tup [.int (i : Int), d], ?_, t, _, rfl, upd_same, .int (i : Int), [v], rfl, rfl, v, [], rfl, rd.ex ex, rfl⟩
  simp [List.getElem?_map, List.getElem?_zipIdx, hd]
theorem wk_zip {K : PySem.W.Frag} {l m : List D} {a b : Addr} : WkJ K (Itz K a b) (fun A H => (∃ vs, SqL K H a vs ∧ RepL K A H l vs) ∧ ∃ us, SqL K H b us ∧ RepL K A H m us) ((l.zip m).map fun p => .tup [p.1, p.2]) := fun A H h => by
  obtain ⟨⟨vs, hs, r⟩, us, hs2, r2⟩ := h
  have hl := RepL.length r
  have hl2 := RepL.length r2
  have len : ((l.zip m).map fun p => D.tup [p.1, p.2]).length = min vs.length us.length := by simp [hl, hl2]
  have w := walk_zip (K := K) (a := a) (b := b) (xs := vs) (ys := us) len
  refine ⟨fun i hi => w.goes i H hi ⟨hs, hs2⟩, w.stops H ⟨hs, hs2⟩, fun i x H' hi y => ?_⟩
  obtain ⟨t, u, v, rfl, hn, rfl, hu, hv⟩ := w.yields i H x H' hi ⟨hs, hs2⟩ y
  obtain ⟨d, hd, rd⟩ := RepL.get' r hu
  obtain ⟨d2, hd2, rd2⟩ := RepL.get' r2 hv
  have ex := Ex.new (o := HO.tup [u, v]) hn
  refine ⟨ex, .tup [d, d2], ?_, t, _, rfl, upd_same, u, [v], rfl, rd.ex ex, v, [], rfl, rd2.ex ex, rfl⟩
  have hz : (l.zip m)[i]? = some (d, d2) := List.getElem?_zip_eq_some.mpr ⟨hd, hd2⟩
  rw [List.getElem?_map, hz]
  rfl
theorem cst_rep {K : PySem.W.Frag} {b : Bool} {w : D} {v : V} : CSt b (fun A H => Rep K A H w v) := ⟨fun A A' H H' δ h e g => Rep.keep (keeps_ex e) g _ _ h, fun _ A A' H H' h k g => Rep.keep k g _ _ h⟩
theorem wk_enumT {K : PySem.W.Frag} {l : List D} {a : Addr} : WkJ K (IteT K a) (fun A H => ∃ vs, SqT K H a vs ∧ RepL K A H l vs) (l.zipIdx.map fun p => .tup [.int (p.2 : Int), p.1]) := fun A H h => by
  obtain ⟨vs, hs, r⟩ := h
  have hl := RepL.length r
  have len : (l.zipIdx.map fun p => D.tup [.int (p.2 : Int), p.1]).length = vs.length := by simp [hl]
  rw [len]
  refine ⟨fun i hi => ⟨vs, vs[i], hs, by simp [hi]⟩, ⟨vs, hs, Nat.le_refl _⟩, fun i x H' hi y => ?_⟩
  obtain ⟨t, v, rfl, hn, rfl, hv⟩ := y
  obtain ⟨d, hd, rd⟩ := RepL.get' r (hv vs hs)
  have ex := Ex.new (o := HO.tup [.int (i : Int), v]) hn
  refine ⟨ex, .tup [.int (i : Int), d], ?_, t, _, rfl, upd_same, .int (i : Int), [v], rfl, rfl, v, [], rfl, rd.ex ex, rfl⟩
  simp [List.getElem?_map, List.getElem?_zipIdx, hd]
theorem c_ienum (G : Good T L W X) {a : E} {y : Expr} {elts : List Expr} {kk : Nat} {p pos tpos : Pos} (hg : Gl X "enumerate") (hs : noStar y = true) (ho : ownB a = false) (h : PE X y (rdE T X.K (owf ow) W a)) :
    PI X (.Tuple elts kk tpos) (.Call (.Name "enumerate" p) [y] [] pos) (rdI T X.K (owf ow) W (.enum a)) := by
  refine (pi_enumA hg G.tab.enum (a_one' hs h) (star_of hs)).imp fun σ H R h => ?_
  obtain ⟨B, O, ρ, xk, Qd, f, hq, hf⟩ := h
  refine ⟨B, O, ρ, xk, _, f, hq, fun d hd v H1 e1 r => ?_⟩
  cases d with
  | lst l =>
    have rep := r.2.1 ho
    obtain ⟨a', vs, rfl, na, hs, rl⟩ := id rep
    obtain ⟨l', hl', k⟩ := hf _ hd
    cases hl'
    refine ⟨a', vs, rfl, .inl ⟨.inl (.inl hs), k _ (fun A H => Rep X.K A H (.lst l) (.ref a')) H1 e1 (fun A H h => wk_enum A H ?_) cst_rep rep fun i z => by cases z⟩⟩
    obtain ⟨b, us, e, _, hs', rl'⟩ := h
    cases e
    exact ⟨us, .inl (.inl hs'), rl'⟩
  | tup l =>
    have rep := r.2.1 ho
    obtain ⟨a', vs, rfl, hs, rl⟩ := id rep
    obtain ⟨l', hl', k⟩ := hf _ hd
    cases hl'
    refine ⟨a', vs, rfl, .inr ⟨.inl (.inl hs), k _ (fun A H => Rep X.K A H (.tup l) (.ref a')) H1 e1 (fun A H h => wk_enumT A H ?_) cst_rep rep fun i z => by cases z⟩⟩
    obtain ⟨b, us, e, hs', rl'⟩ := h
    cases e
    exact ⟨us, .inl (.inl hs'), rl'⟩
  | _ => exact (show False from hd).elim
theorem wk_zipT {K : PySem.W.Frag} {l m : List D} {a b : Addr} : WkJ K (RZ.ItzT K a b) (fun A H => (∃ vs, SqT K H a vs ∧ RepL K A H l vs) ∧ ∃ us, SqT K H b us ∧ RepL K A H m us) ((l.zip m).map fun p => .tup [p.1, p.2]) := fun A H h => by
  obtain ⟨⟨vs, hs, r⟩, us, hs2, r2⟩ := h
  have hl := RepL.length r
  have hl2 := RepL.length r2
  have len : ((l.zip m).map fun p => D.tup [p.1, p.2]).length = min vs.length us.length := by simp [hl, hl2]
  rw [len]
  refine ⟨fun i hi => ⟨vs, us, vs[i]'(by omega), us[i]'(by omega), hs, hs2, by simp [show i < vs.length by omega], by simp [show i < us.length by omega]⟩, ⟨vs, us, hs, hs2, by omega⟩, fun i x H' hi y => ?_⟩
  obtain ⟨t, u, v, rfl, hn, rfl, hu, hv⟩ := y
  obtain ⟨d, hd, rd⟩ := RepL.get' r (hu vs hs)
  obtain ⟨d2, hd2, rd2⟩ := RepL.get' r2 (hv us hs2)
  have ex := Ex.new (o := HO.tup [u, v]) hn
  refine ⟨ex, .tup [d, d2], ?_, t, _, rfl, upd_same, u, [v], rfl, rd.ex ex, v, [], rfl, rd2.ex ex, rfl⟩
  have hz : (l.zip m)[i]? = some (d, d2) := List.getElem?_zip_eq_some.mpr ⟨hd, hd2⟩
  rw [List.getElem?_map, hz]
  rfl
theorem cst_rep2 {K : PySem.W.Frag} {w w2 : D} {v v2 : V} : CSt false (fun A H => Rep K A H w v ∧ Rep K A H w2 v2) :=
  ⟨fun A A' H H' δ h e g => ⟨Rep.keep (keeps_ex e) g _ _ h.1, Rep.keep (keeps_ex e) g _ _ h.2⟩, fun _ A A' H H' h k g => ⟨Rep.keep k g _ _ h.1, Rep.keep k g _ _ h.2⟩⟩
theorem c_izip (G : Good T L W X) {a b : E} {y z : Expr} {elts : List Expr} {kk : Nat} {p pos tpos : Pos} (hg : Gl X "zip") (hs : noStar y = true) (hs2 : noStar z = true) (ho : ownB a = false) (ho2 : ownB b = false)
    (h : PE X y (rdE T X.K (owf ow) W a)) (h2 : PE X z (rdE T X.K (owf ow) W b)) : PI X (.Tuple elts kk tpos) (.Call (.Name "zip" p) [y, z] [] pos) (rdI T X.K (owf ow) W (.zip a b)) := by
  have os : ownS (.zip a b) = false := by
    show (ownB a || ownB b) = false
    rw [ho, ho2]
    rfl
  refine (RZ.pi_zipA hg G.tab.zip (a_two hs hs2 h h2) (star_of hs) (by rw [star_of hs2]; rfl)).imp fun σ H R h => ?_
  obtain ⟨B, O, ρ, xk, Qd, f, hq, hf⟩ := h
  refine ⟨B, O, ρ, xk, _, f.l, hq, fun d hd v H1 e1 r => ⟨B, O, ρ, xk, _, f.ex e1, hd, fun d2 hd2 v2 H2 e2 r2 => ?_⟩⟩
  have rep := (r.2.1 ho).ex e2
  have rep2 := r2.2.1 ho2
  rw [os] at hf
  split at hd2
  · obtain ⟨a', vs, rfl, na, hs, rl⟩ := id rep
    obtain ⟨b', us, rfl, nb, hs2, rl2⟩ := id rep2
    obtain ⟨l', hl', k⟩ := hf _ hd2
    cases hl'
    refine ⟨a', b', vs, us, rfl, .inl ⟨.inl (.inl hs), .inl (.inl hs2), k _ (fun A H => Rep X.K A H _ (.ref a') ∧ Rep X.K A H _ (.ref b')) H2 (e1.trans e2) (fun A H h => wk_zip A H ?_) cst_rep2 ⟨rep, rep2⟩ fun i z => by cases z⟩⟩
    obtain ⟨⟨b, us, e, _, hs', rl'⟩, b2, us2, e2, _, hs2', rl2'⟩ := h
    cases e
    cases e2
    exact ⟨⟨us, .inl (.inl hs'), rl'⟩, us2, .inl (.inl hs2'), rl2'⟩
  · obtain ⟨a', vs, rfl, hs, rl⟩ := id rep
    obtain ⟨b', us, rfl, hs2, rl2⟩ := id rep2
    obtain ⟨l', hl', k⟩ := hf _ hd2
    cases hl'
    refine ⟨a', b', vs, us, rfl, .inr ⟨.inl (.inl hs), .inl (.inl hs2), k _ (fun A H => Rep X.K A H _ (.ref a') ∧ Rep X.K A H _ (.ref b')) H2 (e1.trans e2) (fun A H h => wk_zipT A H ?_) cst_rep2 ⟨rep, rep2⟩ fun i z => by cases z⟩⟩
    obtain ⟨⟨b, us, e, hs', rl'⟩, b2, us2, e2, hs2', rl2'⟩ := h
    cases e
    cases e2
    exact ⟨⟨us, .inl (.inl hs'), rl'⟩, us2, .inl (.inl hs2'), rl2'⟩
  · exact hd2.elim
end
end DL

/-! D3: comprehensions -/
namespace DL
open PySem PySem.Spec PyProof.Rows L2 Evl

def rdTs (T : Tb) (K : PySem.W.Frag) (own : Nat → Bool) (W : WX) (es : List E) : TT := fun σ H Q => ∃ B O ρ xk Qd, FX K own W xk B O (dcEs T es) H σ ρ ∧ wpT T xk es ρ Qd ∧ (∀ b, Qd b → ∀ H', Ex (dcEs T es) H H' → Q b H')
section
variable {T : Tb} {L : Nat} {W : WX} {X : Cx} {ow : List Nat}
theorem ts_nil : PTs X [] (rdTs T X.K (owf ow) W []) := ⟨fun pins s σ H Q I h => pts_nil.run pins s σ H Q I (by
  obtain ⟨B, O, ρ, xk, Qd, f, hq, hf⟩ := h
  exact hf true hq H (Ex.refl H))⟩
theorem ts_one {e : E} {c : Expr} (h : PT X c (rdT T X.K (owf ow) W e)) : PTs X [c] (rdTs T X.K (owf ow) W [e]) := ⟨fun pins s σ H Q I q => (pts_one h).run pins s σ H Q I (by
  obtain ⟨B, O, ρ, xk, Qd, f, hq, hf⟩ := q
  refine ⟨B, O, ρ, xk, _, f, (show wpE T xk e ρ fun d => ∃ b, d = .bl b ∧ if b = true then Qd true else Qd false from hq), fun d hd => ?_⟩
  obtain ⟨b, rfl, q⟩ := hd
  refine ⟨b, rfl, fun H' e => ?_⟩
  cases b with
  | true => exact hf true q H' e
  | false => exact hf false q H' e)⟩
end
section
variable {T : Tb} {K : PySem.W.Frag} {own : Nat → Bool} {B O : AP} {H1 : Hp} {σ : L2.St} {ρ : DE}
/-- a block's frame: its new thing at p may change -/
theorem Fr.into (f : Fr K own B O H1 σ ρ) {p : Addr} (hp : H1 p = none) {H : Hp} {δ : Nat} (e : Ex δ H1 H) (hm : ∃ o, H p = some o ∧ isMt o = true) : Fr K own (fun a => B a ∨ a = p) O H σ ρ := by
  have g : Grows H1 (U B O) (U (fun a => B a ∨ a = p) O) := fun b o hb n z => by
    rcases z with (z | z) | z
    · exact n (.inl z)
    · rw [z, hp] at hb
      cases hb
    · exact n (.inr z)
  refine ⟨f.len, fun i d h1 h2 => ?_, fun i d h1 h2 => ?_, f.dj, fun a h => ?_⟩
  · obtain ⟨v, h3, h4⟩ := f.fz i d h1 h2
    exact ⟨v, h3, Rep.keep (keeps_ex e) g _ _ h4⟩
  · obtain ⟨a, h3, h4, h5⟩ := f.ow i d h1 h2
    exact ⟨a, h3, h4, OwnAt.keep (keeps_ex e) g (fun o q z => e.at q z) h5⟩
  · rcases h with (h | h) | h
    · exact mt_ex e (f.mt a (.inl h))
    · rw [h]
      exact hm
    · exact mt_ex e (f.mt a (.inr h))
theorem grows_into {p : Addr} (hp : H1 p = none) : Grows H1 (U B O) (U (fun a => B a ∨ a = p) O) := fun b o hb n z => by
  rcases z with (z | z) | z
  · exact n (.inl z)
  · rw [z, hp] at hb
    cases hb
  · exact n (.inr z)
theorem less_into {p : Addr} : ∀ a, U (U B O) (· = p) a → U (fun a => B a ∨ a = p) O a := fun a z => by
  rcases z with (z | z) | z
  · exact .inl (.inl z)
  · exact .inr z
  · exact .inl (.inr z)
theorem drop_at {α : Type} {l : List α} {i : Nat} {d : α} (h : l[i]? = some d) : l.drop i = d :: l.drop (i + 1) := by
  obtain ⟨hi, e⟩ := List.getElem?_eq_some_iff.mp h
  rw [List.drop_eq_getElem_cons hi, e]
abbrev lcStep (T : Tb) (tg : Pt) (ρ : DE) (ifs : List E) (e : E) : D → (Option D → Prop) → Prop := fun d R => setPt tg d ρ fun ρ' => wpT T (fun _ => False) ifs ρ' fun b => if b = true then wpE T (fun _ => False) e ρ' fun x => R (some x) else R none
theorem lp_le {α : Type} {l : List α} {δ i : Nat} (h : δ = 0 ∨ l.length ≤ wkL) (hi : i ≤ l.length) : i * δ ≤ wkL * δ := by
  rcases h with rfl | h
  · exact Nat.le_refl _
  · exact Nat.mul_le_mul_right δ (Nat.le_trans hi h)
theorem lc_turns {J : It} {C : AP → Hp → Prop} {l : List D} {bo : Bool} {vs : List Nat} {tg : Pt} {ifs : List E} {e : E} {p : Addr} {Qr : List D → Prop} {Qd : Hp → Prop} (f : Fr K own B O H1 σ ρ) (hR : Rm H1 (wkL * (dcEs T ifs + dcE T e))) (hlp : dcEs T ifs + dcE T e = 0 ∨ l.length ≤ wkL) (hp : H1 p = none) (wk : WkJ K J C l) (cst : CSt bo C) (hC : C (U B O) H1)
    (ho : ∀ i ∈ ptIx tg, own i = false ∧ i ∈ vs) (he : ownB e = false) (hw : lcW (lcStep T tg (wipeD ρ vs) ifs e) l [] Qr)
    (hd : ∀ r us H, Qr r → Ex (wkL * (dcEs T ifs + dcE T e)) H1 H → H p = some (.lst us) → RepL K (U (U B O) (· = p)) H r us → Qd H) :
    ∃ W : Nat → Nat → Hp → Prop, (∃ m, W 0 m (upd H1 p (.lst []))) ∧ ∀ i m H, W i m H →
      (J.stop i H ∧ Qd H) ∨ (J.go i H ∧ ∃ Nx : Hp → Prop, (∀ H', Nx H' → ∃ m', m' < m ∧ W (i + 1) m' H') ∧ ∀ x H', J.yld i H x H' → gPt K tg x (L2.wipe σ vs) H' fun σ2 H2 => L2.wipe σ2 vs = L2.wipe σ vs ∧ rdTs T K own W0 ifs σ2 H2 fun b H3 =>
        if b = true then rdE T K own W0 e σ2 H3 fun y H4 => ∃ acc, H4 p = some (.lst acc) ∧ acc.length < sizeLine ∧ Nx (upd H4 p (.lst (acc ++ [y]))) else Nx H3) := by
  have w : Walk J l.length (fun H => C (U (fun a => B a ∨ a = p) O) H) (fun i H x H' => Ex 0 H H' ∧ ∃ d, l[i]? = some d ∧ Rep K (U (fun a => B a ∨ a = p) O) H' d x) :=
    ⟨fun i H hi h => (wk _ H h).1 i hi, fun H h => (wk _ H h).2.1, fun i H x H' hi h y => (wk _ H h).2.2 i x H' hi y⟩
  generalize hδ : dcEs T ifs + dcE T e = δ at hR hlp hd
  refine lc_it w (fun i H => ∃ acc us, Ex (i * δ) H1 H ∧ H p = some (.lst us) ∧ RepL K (U (fun a => B a ∨ a = p) O) H acc us ∧ lcW (lcStep T tg (wipeD ρ vs) ifs e) (l.drop i) acc Qr) ⟨[], [], (Ex.new hp).any, upd_same, rfl, hw⟩ (fun i H _ h => ?_) (fun i x H H' hi h y => ?_) (fun H h => ?_)
  · obtain ⟨acc, us, e1, _⟩ := h
    exact cst.ex _ _ _ _ _ hC e1 (grows_into hp)
  · obtain ⟨acc, us, e1, hus, ra, hl⟩ := h
    obtain ⟨e2, d, hd, r⟩ := y
    rw [drop_at hd] at hl
    obtain ⟨hlt, hl⟩ := hl
    have hus' := e2.at hus rfl
    have fr : Fr K own (fun a => B a ∨ a = p) O H' (L2.wipe σ vs) (wipeD ρ vs) := ((f.into hp (e1.trans e2) ⟨_, hus', rfl⟩).wipe vs)
    have step : (i + 1) * δ = i * δ + δ := Nat.succ_mul i δ
    have hle := lp_le hlp (show i + 1 ≤ l.length from hi)
    have rm : Rm H' (dcEs T ifs + dcE T e) := by
      rw [hδ]
      exact ((hR.le (by rw [← step]; exact hle : i * δ + δ ≤ wkL * δ)).ex e1).ex0 e2
    refine gpt_of fr (fun i hi => (ho i hi).1) r hl fun σ2 ρ2 hr f2 hwp => ⟨(hwp vs fun i hi => (ho i hi).2).trans (wipe_wipe fun i hi => hi), _, _, ρ2, _, _, ⟨f2, rm.l, xok0⟩, hr, fun b hb H3 e3 => ?_⟩
    cases b with
    | false => exact ⟨acc, us, ((e1.trans e2).trans e3).le (by rw [step, ← hδ]; omega), e3.at hus' rfl, (ra.ex e2).ex e3, hb⟩
    | true =>
      refine ⟨_, _, ρ2, _, _, ⟨f2.ex e3, rm.ex e3, xok0⟩, hb, fun dx hx v H4 e4 r4 => ?_⟩
      have h4 : H4 p = some (.lst us) := e4.at (e3.at hus' rfl) rfl
      have ap : U (fun a => B a ∨ a = p) O p := .inl (.inr rfl)
      have k := keeps_upd (o' := .lst (us ++ [v])) ap h4 rfl
      refine ⟨us, h4, by rw [RepL.length ra]; exact hlt, acc ++ [dx], us ++ [v], ex_upd hp ((((e1.trans e2).trans e3).trans e4).le (by rw [step, ← hδ]; omega)), upd_same, ?_, hx⟩
      exact RepL.append (RepL.keep k grows_refl _ _ (((ra.ex e2).ex e3).ex e4)) (repL_one (Rep.keep k grows_refl _ _ (r4.2.1 he)))
  · obtain ⟨acc, us, e1, hus, ra, hl⟩ := h
    rw [List.drop_length] at hl
    exact hd acc us H hl (e1.le (lp_le hlp (Nat.le_refl _))) hus (RepL.keep keeps_refl (grows_less less_into) _ _ ra)
/-- a dict's items -/
theorem rep_putK {A : AP} {H : Hp} {k : Key} {d : D} {v : V} : ∀ {l : List (Key × D)} {vs : List (Key × V)}, RepK K A H l vs → Rep K A H d v → RepK K A H (putD l k d) (putK vs k v) := by
  have any : ∀ {l : List (Key × D)} {vs : List (Key × V)}, RepK K A H l vs → (l.any fun kv => decide (kv.1 = k)) = (vs.any fun kv => decide (kv.1 = k)) := by
    intro l
    induction l with
    | nil => intro vs r; rw [show vs = [] from r]; rfl
    | cons x l ih =>
      intro vs r
      obtain ⟨k', d'⟩ := x
      obtain ⟨v', w, rfl, h1, h2⟩ := r
      rw [List.any_cons, List.any_cons, ih h2]
  have mp : ∀ {l : List (Key × D)} {vs : List (Key × V)}, RepK K A H l vs → Rep K A H d v → RepK K A H (l.map fun kv => if kv.1 = k then (kv.1, d) else kv) (vs.map fun kv => if kv.1 = k then (kv.1, v) else kv) := by
    intro l
    induction l with
    | nil => intro vs r _; rw [show vs = [] from r]; rfl
    | cons x l ih =>
      intro vs r hd
      obtain ⟨k', d'⟩ := x
      obtain ⟨v', w, rfl, h1, h2⟩ := r
      rw [List.map_cons, List.map_cons]
      by_cases e : k' = k
      · rw [if_pos e, if_pos e]
        exact ⟨v, _, rfl, hd, ih h2 hd⟩
      · rw [if_neg e, if_neg e]
        exact ⟨v', _, rfl, h1, ih h2 hd⟩
  have ap : ∀ {l : List (Key × D)} {vs : List (Key × V)}, RepK K A H l vs → Rep K A H d v → RepK K A H (l ++ [(k, d)]) (vs ++ [(k, v)]) := by
    intro l
    induction l with
    | nil => intro vs r hd; rw [show vs = [] from r]; exact ⟨v, [], rfl, hd, rfl⟩
    | cons x l ih =>
      intro vs r hd
      obtain ⟨k', d'⟩ := x
      obtain ⟨v', w, rfl, h1, h2⟩ := r
      exact ⟨v', _, rfl, h1, ih h2 hd⟩
  intro l vs r hd
  unfold putD putK
  rw [any r]
  split
  · exact mp r hd
  · exact ap r hd
theorem repK_length {A : AP} {H : Hp} : ∀ {l : List (Key × D)} {vs : List (Key × V)}, RepK K A H l vs → vs.length = l.length
  | [], _, h => by rw [show _ = [] from h]; rfl
  | (_, _) :: _, _, h => by
    obtain ⟨v, r, ev, _, h2⟩ := h
    rw [ev, List.length_cons, List.length_cons, repK_length h2]
theorem rep_putT {A : AP} {H : Hp} {k : List Key} {d : D} {v : V} : ∀ {l : List (List Key × D)} {vs : List (List Key × V)}, RepT K A H l vs → Rep K A H d v → RepT K A H (putD l k d) (putK vs k v) := by
  have any : ∀ {l : List (List Key × D)} {vs : List (List Key × V)}, RepT K A H l vs → (l.any fun kv => decide (kv.1 = k)) = (vs.any fun kv => decide (kv.1 = k)) := by
    intro l
    induction l with
    | nil => intro vs r; rw [show vs = [] from r]; rfl
    | cons x l ih =>
      intro vs r
      obtain ⟨k', d'⟩ := x
      obtain ⟨v', w, rfl, h1, h2⟩ := r
      rw [List.any_cons, List.any_cons, ih h2]
  have mp : ∀ {l : List (List Key × D)} {vs : List (List Key × V)}, RepT K A H l vs → Rep K A H d v → RepT K A H (l.map fun kv => if kv.1 = k then (kv.1, d) else kv) (vs.map fun kv => if kv.1 = k then (kv.1, v) else kv) := by
    intro l
    induction l with
    | nil => intro vs r _; rw [show vs = [] from r]; rfl
    | cons x l ih =>
      intro vs r hd
      obtain ⟨k', d'⟩ := x
      obtain ⟨v', w, rfl, h1, h2⟩ := r
      rw [List.map_cons, List.map_cons]
      by_cases e : k' = k
      · rw [if_pos e, if_pos e]
        exact ⟨v, _, rfl, hd, ih h2 hd⟩
      · rw [if_neg e, if_neg e]
        exact ⟨v', _, rfl, h1, ih h2 hd⟩
  have ap : ∀ {l : List (List Key × D)} {vs : List (List Key × V)}, RepT K A H l vs → Rep K A H d v → RepT K A H (l ++ [(k, d)]) (vs ++ [(k, v)]) := by
    intro l
    induction l with
    | nil => intro vs r hd; rw [show vs = [] from r]; exact ⟨v, [], rfl, hd, rfl⟩
    | cons x l ih =>
      intro vs r hd
      obtain ⟨k', d'⟩ := x
      obtain ⟨v', w, rfl, h1, h2⟩ := r
      exact ⟨v', _, rfl, h1, ih h2 hd⟩
  intro l vs r hd
  unfold putD putK
  rw [any r]
  split
  · exact mp r hd
  · exact ap r hd
theorem repT_length {A : AP} {H : Hp} : ∀ {l : List (List Key × D)} {vs : List (List Key × V)}, RepT K A H l vs → vs.length = l.length
  | [], _, h => by rw [show _ = [] from h]; rfl
  | (_, _) :: _, _, h => by
    obtain ⟨v, r, ev, _, h2⟩ := h
    rw [ev, List.length_cons, List.length_cons, repT_length h2]
abbrev dcStep (T : Tb) (tg : Pt) (ρ : DE) (ifs : List E) (k v : E) : D → (Option (D × D) → Prop) → Prop := fun d R => setPt tg d ρ fun ρ' => wpT T (fun _ => False) ifs ρ' fun b => if b = true then wpE T (fun _ => False) k ρ' fun x => wpE T (fun _ => False) v ρ' fun y => R (some (x, y)) else R none
theorem dc_turns {J : It} {C : AP → Hp → Prop} {l : List D} {bo : Bool} {vs : List Nat} {tg : Pt} {ifs : List E} {ek ev : E} {p : Addr} {Qr : List (Key × D) → Prop} {Qd : Hp → Prop} (f : Fr K own B O H1 σ ρ) (hR : Rm H1 (wkL * (dcEs T ifs + (dcE T ek + dcE T ev)))) (hlp : dcEs T ifs + (dcE T ek + dcE T ev) = 0 ∨ l.length ≤ wkL) (hp : H1 p = none) (wk : WkJ K J C l) (cst : CSt bo C) (hC : C (U B O) H1)
    (ho : ∀ i ∈ ptIx tg, own i = false ∧ i ∈ vs) (he : ownB ev = false) (hw : dcW (dcStep T tg (wipeD ρ vs) ifs ek ev) l [] Qr)
    (hd : ∀ r us H, Qr r → Ex (wkL * (dcEs T ifs + (dcE T ek + dcE T ev))) H1 H → H p = some (.dK us) → RepK K (U (U B O) (· = p)) H r us → Qd H) :
    ∃ W : Nat → Nat → Hp → Prop, (∃ m, W 0 m (upd H1 p (.dK []))) ∧ ∀ i m H, W i m H →
      (J.stop i H ∧ Qd H) ∨ (J.go i H ∧ ∃ Nx : Hp → Prop, (∀ H', Nx H' → ∃ m', m' < m ∧ W (i + 1) m' H') ∧ ∀ x H', J.yld i H x H' → gPt K tg x (L2.wipe σ vs) H' fun σ2 H2 => L2.wipe σ2 vs = L2.wipe σ vs ∧ rdTs T K own W0 ifs σ2 H2 fun b H3 =>
        if b = true then rdE T K own W0 ek σ2 H3 fun y H4 => rdE T K own W0 ev σ2 H4 fun z H5 => ∃ kvs k, y = kV k ∧ H5 p = some (.dK kvs) ∧ kvs.length < sizeLine ∧ Nx (upd H5 p (.dK (putK kvs k z))) else Nx H3) := by
  have w : Walk J l.length (fun H => C (U (fun a => B a ∨ a = p) O) H) (fun i H x H' => Ex 0 H H' ∧ ∃ d, l[i]? = some d ∧ Rep K (U (fun a => B a ∨ a = p) O) H' d x) :=
    ⟨fun i H hi h => (wk _ H h).1 i hi, fun H h => (wk _ H h).2.1, fun i H x H' hi h y => (wk _ H h).2.2 i x H' hi y⟩
  generalize hδ : dcEs T ifs + (dcE T ek + dcE T ev) = δ at hR hlp hd
  refine ⟨fun i m H => m = l.length - i ∧ i ≤ l.length ∧ ∃ acc us, Ex (i * δ) H1 H ∧ H p = some (.dK us) ∧ RepK K (U (fun a => B a ∨ a = p) O) H acc us ∧ dcW (dcStep T tg (wipeD ρ vs) ifs ek ev) (l.drop i) acc Qr, ⟨_, rfl, Nat.zero_le _, [], [], (Ex.new hp).any, upd_same, rfl, hw⟩, ?_⟩
  rintro i m H ⟨rfl, hi, acc, us, e1, hus, ra, hl⟩
  have hCi : C (U (fun a => B a ∨ a = p) O) H := cst.ex _ _ _ _ _ hC e1 (grows_into hp)
  by_cases hlt : i < l.length
  · refine .inr ⟨w.goes i H hlt hCi, fun H' => ∃ acc us, Ex ((i + 1) * δ) H1 H' ∧ H' p = some (.dK us) ∧ RepK K (U (fun a => B a ∨ a = p) O) H' acc us ∧ dcW (dcStep T tg (wipeD ρ vs) ifs ek ev) (l.drop (i + 1)) acc Qr, fun H' h => ⟨l.length - (i + 1), by omega, rfl, hlt, h⟩, fun x H' y => ?_⟩
    obtain ⟨e2, d, hd, r⟩ := w.yields i H x H' hlt hCi y
    rw [drop_at hd] at hl
    obtain ⟨hz, hl⟩ := hl
    have hus' := e2.at hus rfl
    have fr : Fr K own (fun a => B a ∨ a = p) O H' (L2.wipe σ vs) (wipeD ρ vs) := ((f.into hp (e1.trans e2) ⟨_, hus', rfl⟩).wipe vs)
    have step : (i + 1) * δ = i * δ + δ := Nat.succ_mul i δ
    have hle := lp_le hlp (show i + 1 ≤ l.length from hlt)
    have rm : Rm H' (dcEs T ifs + (dcE T ek + dcE T ev)) := by
      rw [hδ]
      exact ((hR.le (by rw [← step]; exact hle : i * δ + δ ≤ wkL * δ)).ex e1).ex0 e2
    refine gpt_of fr (fun i hi => (ho i hi).1) r hl fun σ2 ρ2 hr f2 hwp => ⟨(hwp vs fun i hi => (ho i hi).2).trans (wipe_wipe fun i hi => hi), _, _, ρ2, _, _, ⟨f2, rm.l, xok0⟩, hr, fun b hb H3 e3 => ?_⟩
    cases b with
    | false => exact ⟨acc, us, ((e1.trans e2).trans e3).le (by rw [step, ← hδ]; omega), e3.at hus' rfl, RepK.keep (keeps_ex (e2.trans e3)) grows_refl _ _ ra, hb⟩
    | true =>
      refine ⟨_, _, ρ2, _, _, ⟨f2.ex e3, (rm.ex e3).l, xok0⟩, hb, fun dx hx v H4 e4 r4 => ⟨_, _, ρ2, _, _, ⟨(f2.ex e3).ex e4, (rm.ex e3).ex e4, xok0⟩, hx, fun dy hy u H5 e5 r5 => ?_⟩⟩
      obtain ⟨k, hk, hq⟩ := hy
      have h5 : H5 p = some (.dK us) := e5.at (e4.at (e3.at hus' rfl) rfl) rfl
      have ap : U (fun a => B a ∨ a = p) O p := .inl (.inr rfl)
      have kk := keeps_upd (o' := .dK (putK us k u)) ap h5 rfl
      have ee := ((e2.trans e3).trans e4).trans e5
      refine ⟨us, k, keyK_rep hk r4.1, h5, by rw [repK_length ra]; exact hz, putD acc k dy, putK us k u, ex_upd hp ((e1.trans ee).le (by rw [step, ← hδ]; omega)), upd_same, ?_, hq⟩
      exact RepK.keep kk grows_refl _ _ (rep_putK (RepK.keep (keeps_ex ee) grows_refl _ _ ra) (r5.2.1 he))
  · have e : i = l.length := by omega
    subst e
    rw [List.drop_length] at hl
    exact .inl ⟨w.stops H hCi, hd acc us H hl (e1.le (lp_le hlp (Nat.le_refl _))) hus (RepK.keep keeps_refl (grows_less less_into) _ _ ra)⟩
end
section
variable {T : Tb} {L : Nat} {W : WX} {X : Cx} {ow : List Nat}
theorem res_new {K : PySem.W.Frag} {e : E} {A : AP} {H H' : Hp} {p : Addr} {d : D} (na : ¬ A p) (hp : H p = none) (o : OwnAt K (U A (· = p)) H' p d) : Res K e A H H' d (.ref p) := ⟨.inl (own_rep na o), fun _ => own_rep na o, fun _ => ⟨p, rfl, hp, o⟩⟩
theorem lc_rd {own : List (Str × Nat)} {tg : Pt} {it : E} {ifs : List E} {e : E} (ht : ∀ i ∈ ptIx tg, owf ow i = false ∧ i ∈ own.map (·.2)) (he : ownB e = false) {σ : L2.St} {H : Hp} {Q : VK}
    (h : rdE T X.K (owf ow) W (.lc own tg it ifs e) σ H Q) : tLc (rdI T X.K (owf ow) W it) (gPt X.K tg) (rdTs T X.K (owf ow) W0 ifs) (rdE T X.K (owf ow) W0 e) (own.map (·.2)) σ H Q := by
  obtain ⟨B, O, ρ, xk, Qd, f, hq, hf⟩ := h
  refine ⟨B, O, ρ, xk, _, f.l, hq, fun w hw => ?_⟩
  obtain ⟨l, hl, hlp, hw⟩ := hw
  refine ⟨l, hl, fun J C H1 e1 wk cst hC _ p hp => lc_turns (f.fr.ex e1) (f.rm.ex e1) hlp hp wk cst hC ht he hw fun r us H2 hr e2 hus rl => ?_⟩
  exact hf _ hr _ H2 (e1.trans e2) (res_new ((f.fr.ex e1).fresh hp) (e1.none hp) ⟨us, hus, rl⟩)
theorem c_lc (G : Good T L W X) {own : List (Str × Nat)} {tg : Pt} {it : E} {ifs : List E} {e : E} {x t i : Expr} {cs : List Expr} {scope : Scope} {pos : Pos} (hb : blkC X.N X.env.scope scope own = true) (ht : ∀ i ∈ ptIx tg, owf ow i = false ∧ i ∈ own.map (·.2)) (hs : noSet i = true) (he : ownB e = false)
    (hi : PI X t i (rdI T X.K (owf ow) W it)) (hg : ∀ s H C cl fp, PG (X.blk s H scope (compEnvC scope cl C X.env) fp) t (gPt X.K tg)) (hc : ∀ s H C cl fp, PTs (X.blk s H scope (compEnvC scope cl C X.env) fp) cs (rdTs T X.K (owf ow) W0 ifs))
    (hx : ∀ s H C cl fp, PE (X.blk s H scope (compEnvC scope cl C X.env) fp) x (rdE T X.K (owf ow) W0 e)) : PE X (.ListComp x [⟨t, i, cs, 0⟩] scope pos) (rdE T X.K (owf ow) W (.lc own tg it ifs e)) :=
  (pe_lc G.calm G.nd hi (blkOk_by hb) hg hc hx (fold_of hs)).imp fun σ H Q h => lc_rd ht he h
theorem dc_rd {own : List (Str × Nat)} {tg : Pt} {it : E} {ifs : List E} {ek ev : E} (ht : ∀ i ∈ ptIx tg, owf ow i = false ∧ i ∈ own.map (·.2)) (he : ownB ev = false) {σ : L2.St} {H : Hp} {Q : VK}
    (h : rdE T X.K (owf ow) W (.dc own tg it ifs ek ev) σ H Q) : tDc (rdI T X.K (owf ow) W it) (gPt X.K tg) (rdTs T X.K (owf ow) W0 ifs) (rdE T X.K (owf ow) W0 ek) (rdE T X.K (owf ow) W0 ev) (own.map (·.2)) σ H Q := by
  obtain ⟨B, O, ρ, xk, Qd, f, hq, hf⟩ := h
  refine ⟨B, O, ρ, xk, _, f.l, hq, fun w hw => ?_⟩
  obtain ⟨l, hl, hlp, hw⟩ := hw
  refine ⟨l, hl, fun J C H1 e1 wk cst hC _ p hp => dc_turns (f.fr.ex e1) (f.rm.ex e1) hlp hp wk cst hC ht he hw fun r us H2 hr e2 hus rl => ?_⟩
  exact hf _ hr _ H2 (e1.trans e2) (res_new ((f.fr.ex e1).fresh hp) (e1.none hp) ⟨us, hus, rl⟩)
theorem c_dc (G : Good T L W X) {own : List (Str × Nat)} {tg : Pt} {it : E} {ifs : List E} {ek ev : E} {y x t i : Expr} {cs : List Expr} {scope : Scope} {pos : Pos} (hb : blkC X.N X.env.scope scope own = true) (ht : ∀ i ∈ ptIx tg, owf ow i = false ∧ i ∈ own.map (·.2)) (hs : noSet i = true) (he : ownB ev = false)
    (hi : PI X t i (rdI T X.K (owf ow) W it)) (hg : ∀ s H C cl fp, PG (X.blk s H scope (compEnvC scope cl C X.env) fp) t (gPt X.K tg)) (hc : ∀ s H C cl fp, PTs (X.blk s H scope (compEnvC scope cl C X.env) fp) cs (rdTs T X.K (owf ow) W0 ifs))
    (hy : ∀ s H C cl fp, PE (X.blk s H scope (compEnvC scope cl C X.env) fp) y (rdE T X.K (owf ow) W0 ek))
    (hx : ∀ s H C cl fp, PE (X.blk s H scope (compEnvC scope cl C X.env) fp) x (rdE T X.K (owf ow) W0 ev)) : PE X (.DictComp y x [⟨t, i, cs, 0⟩] scope pos) (rdE T X.K (owf ow) W (.dc own tg it ifs ek ev)) :=
  (pe_dc G.calm G.nd hi (blkOk_by hb) hg hc hy hx (fold_of hs)).imp fun σ H Q h => dc_rd ht he h
end
end DL

/-! DH: comprehensions of two clauses -/
namespace DL
open PySem PySem.Spec PyProof.Rows L2 Evl

section
variable {T : Tb} {K : PySem.W.Frag} {own : Nat → Bool} {B O : AP} {H H1 : Hp} {σ : L2.St} {ρ : DE}
theorem Fr.updB (f : Fr K own B O H σ ρ) {p : Addr} {us us' : List V} (hB : B p) (nO : ¬ O p) (hp : H p = some (.lst us)) : Fr K own B O (upd H p (.lst us')) σ ρ := by
  have kk : Keeps (U B O) H (upd H p (.lst us')) := keeps_upd (.inl hB) hp rfl
  refine ⟨f.len, fun i e h1 h2 => ?_, fun i e h1 h2 => ?_, f.dj, fun a h => ?_⟩
  · obtain ⟨v, h3, h4⟩ := f.fz i e h1 h2
    exact ⟨v, h3, Rep.keep kk grows_refl _ _ h4⟩
  · obtain ⟨a, h3, h4, h5⟩ := f.ow i e h1 h2
    exact ⟨a, h3, h4, OwnAt.keep kk grows_refl (fun o q _ => by rw [upd_ne (show a ≠ p from fun z => nO (by rw [← z]; exact h4))]; exact q) h5⟩
  · by_cases z : a = p
    · subst z
      exact ⟨_, upd_same, rfl⟩
    · obtain ⟨o, h1, h2⟩ := f.mt a h
      exact ⟨o, by rw [upd_ne z]; exact h1, h2⟩
abbrev lc2In (T : Tb) (tg : Pt) (vs : List Nat) (ρ : DE) (ifs : List E) (vs1 : List Nat) (tg1 : Pt) (it1 : E) (ifs1 : List E) (e : E) : D → List D → (List D → Prop) → Prop := fun d acc R => setPt tg d (wipeD ρ vs) fun ρ1 => wpT T (fun _ => False) ifs ρ1 fun b => if b = true then wpE T (fun _ => False) it1 ρ1 fun w => ∃ l, walkD w = some l ∧ (dcEs T ifs1 + dcE T e = 0 ∨ l.length ≤ wkL) ∧ lcW (fun d R => setPt tg1 d (wipeD ρ1 vs1) fun ρ' => wpT T (fun _ => False) ifs1 ρ' fun b => if b = true then wpE T (fun _ => False) e ρ' fun x => R (some x) else R none) l acc R else R acc
theorem lc2_turns {J : It} {C : AP → Hp → Prop} {l : List D} {bo : Bool} {vs vs1 : List Nat} {tg tg1 : Pt} {ifs ifs1 : List E} {it1 e : E} {p : Addr} {Qr : List D → Prop} {Qd : Hp → Prop} (f : Fr K own B O H1 σ ρ) (hR : Rm H1 (wkL * (dcEs T ifs + (dcE T it1 + wkL * (dcEs T ifs1 + dcE T e)))))
    (hlp : dcEs T ifs + (dcE T it1 + wkL * (dcEs T ifs1 + dcE T e)) = 0 ∨ l.length ≤ wkL) (hp : H1 p = none) (wk : WkJ K J C l) (cst : CSt bo C) (hC : C (U B O) H1)
    (ho : ∀ i ∈ ptIx tg, own i = false ∧ i ∈ vs) (ho1 : ∀ i ∈ ptIx tg1, own i = false ∧ i ∈ vs1) (hs1 : ownS it1 = false) (he : ownB e = false) (hw : lcW2 (lc2In T tg vs ρ ifs vs1 tg1 it1 ifs1 e) l [] Qr)
    (hd : ∀ r us H, Qr r → Ex (wkL * (dcEs T ifs + (dcE T it1 + wkL * (dcEs T ifs1 + dcE T e)))) H1 H → H p = some (.lst us) → RepL K (U (U B O) (· = p)) H r us → Qd H) :
    ∃ W : Nat → Nat → Hp → Prop, (∃ m, W 0 m (upd H1 p (.lst []))) ∧ ∀ i m H, W i m H →
      (J.stop i H ∧ Qd H) ∨ (J.go i H ∧ ∃ Nx : Hp → Prop, (∀ H', Nx H' → ∃ m', m' < m ∧ W (i + 1) m' H') ∧ ∀ x H', J.yld i H x H' → gPt K tg x (L2.wipe σ vs) H' fun σ2 H2 => L2.wipe σ2 vs = L2.wipe σ vs ∧ rdTs T K own W0 ifs σ2 H2 fun b H3 =>
        if b = true then rdI T K own W0 it1 σ2 H3 fun J1 H4 => ∃ W1 : Nat → Nat → Hp → Prop, (∃ m, W1 0 m H4) ∧ ∀ j k H, W1 j k H →
          (J1.stop j H ∧ Nx H) ∨ (J1.go j H ∧ ∃ Nx1 : Hp → Prop, (∀ H', Nx1 H' → ∃ k', k' < k ∧ W1 (j + 1) k' H') ∧ ∀ x H', J1.yld j H x H' → gPt K tg1 x (L2.wipe σ2 vs1) H' fun σ3 H5 => L2.wipe σ3 vs1 = L2.wipe σ2 vs1 ∧ rdTs T K own W0 ifs1 σ3 H5 fun b H6 =>
            if b = true then rdE T K own W0 e σ3 H6 fun y H7 => ∃ acc, H7 p = some (.lst acc) ∧ acc.length < sizeLine ∧ Nx1 (upd H7 p (.lst (acc ++ [y]))) else Nx1 H6)
        else Nx H3) := by
  have nO : ¬ O p := fun z => by
    obtain ⟨o, h, _⟩ := f.mt p (.inr z)
    rw [hp] at h
    cases h
  have w : Walk J l.length (fun H => C (U (fun a => B a ∨ a = p) O) H) (fun i H x H' => Ex 0 H H' ∧ ∃ d, l[i]? = some d ∧ Rep K (U (fun a => B a ∨ a = p) O) H' d x) :=
    ⟨fun i H hi h => (wk _ H h).1 i hi, fun H h => (wk _ H h).2.1, fun i H x H' hi h y => (wk _ H h).2.2 i x H' hi y⟩
  generalize hδ2 : dcEs T ifs1 + dcE T e = δ2 at hR hlp hd
  generalize hδ : dcEs T ifs + (dcE T it1 + wkL * δ2) = δ at hR hlp hd
  refine ⟨fun i m H => m = l.length - i ∧ i ≤ l.length ∧ ∃ acc us, Ex (i * δ) H1 H ∧ H p = some (.lst us) ∧ RepL K (U (fun a => B a ∨ a = p) O) H acc us ∧ lcW2 (lc2In T tg vs ρ ifs vs1 tg1 it1 ifs1 e) (l.drop i) acc Qr, ⟨_, rfl, Nat.zero_le _, [], [], (Ex.new hp).any, upd_same, rfl, hw⟩, ?_⟩
  rintro i m H ⟨rfl, hi, acc, us, e1, hus, ra, hl⟩
  have hCi : C (U (fun a => B a ∨ a = p) O) H := cst.ex _ _ _ _ _ hC e1 (grows_into hp)
  by_cases hlt : i < l.length
  · refine .inr ⟨w.goes i H hlt hCi, fun H' => ∃ acc us, Ex ((i + 1) * δ) H1 H' ∧ H' p = some (.lst us) ∧ RepL K (U (fun a => B a ∨ a = p) O) H' acc us ∧ lcW2 (lc2In T tg vs ρ ifs vs1 tg1 it1 ifs1 e) (l.drop (i + 1)) acc Qr, fun H' h => ⟨l.length - (i + 1), by omega, rfl, hlt, h⟩, fun x H' y => ?_⟩
    obtain ⟨e2, d, hd1, r⟩ := w.yields i H x H' hlt hCi y
    rw [drop_at hd1] at hl
    have hl : lc2In T tg vs ρ ifs vs1 tg1 it1 ifs1 e d acc (fun acc' => lcW2 (lc2In T tg vs ρ ifs vs1 tg1 it1 ifs1 e) (l.drop (i + 1)) acc' Qr) := hl
    have hus' := e2.at hus rfl
    have fr : Fr K own (fun a => B a ∨ a = p) O H' (L2.wipe σ vs) (wipeD ρ vs) := ((f.into hp (e1.trans e2) ⟨_, hus', rfl⟩).wipe vs)
    have step : (i + 1) * δ = i * δ + δ := Nat.succ_mul i δ
    have hle := lp_le hlp (show i + 1 ≤ l.length from hlt)
    have rm : Rm H' (dcEs T ifs + (dcE T it1 + wkL * δ2)) := by
      rw [hδ]
      exact ((hR.le (by rw [← step]; exact hle : i * δ + δ ≤ wkL * δ)).ex e1).ex0 e2
    refine gpt_of fr (fun i hi => (ho i hi).1) r hl fun σ2 ρ2 hr f2 hwp => ⟨(hwp vs fun i hi => (ho i hi).2).trans (wipe_wipe fun i hi => hi), _, _, ρ2, _, _, ⟨f2, rm.l, xok0⟩, hr, fun b hb H3 e3 => ?_⟩
    cases b with
    | false => exact ⟨acc, us, ((e1.trans e2).trans e3).le (by rw [step, ← hδ]; omega), e3.at hus' rfl, (ra.ex e2).ex e3, hb⟩
    | true =>
      refine ⟨_, _, ρ2, _, _, ⟨f2.ex e3, (rm.ex e3).l, xok0⟩, hb, fun w2 hw2 => ?_⟩
      obtain ⟨l2, hl2, hlp2, hq2⟩ := hw2
      rw [hδ2] at hlp2
      refine ⟨l2, hl2, fun J1 C1 H4 e4 wk1 cst1 hC1 _ => ?_⟩
      rw [hs1] at cst1
      have e14 := ((e1.trans e2).trans e3).trans e4
      have w1 : Walk J1 l2.length (fun H => C1 (U (fun a => B a ∨ a = p) O) H) (fun i H x H' => Ex 0 H H' ∧ ∃ d, l2[i]? = some d ∧ Rep K (U (fun a => B a ∨ a = p) O) H' d x) :=
        ⟨fun i H hi h => (wk1 _ H h).1 i hi, fun H h => (wk1 _ H h).2.1, fun i H x H' hi h y => (wk1 _ H h).2.2 i x H' hi y⟩
      generalize hc0 : i * δ + 0 + dcEs T ifs + dcE T it1 = c0 at e14
      refine ⟨fun j k H => k = l2.length - j ∧ j ≤ l2.length ∧ ∃ acc us, Ex (c0 + j * δ2) H1 H ∧ H p = some (.lst us) ∧ RepL K (U (fun a => B a ∨ a = p) O) H acc us ∧ Fr K own (fun a => B a ∨ a = p) O H σ2 ρ2 ∧ C1 (U (fun a => B a ∨ a = p) O) H ∧ lcW (lcStep T tg1 (wipeD ρ2 vs1) ifs1 e) (l2.drop j) acc (fun acc' => lcW2 (lc2In T tg vs ρ ifs vs1 tg1 it1 ifs1 e) (l.drop (i + 1)) acc' Qr),
        ⟨_, rfl, Nat.zero_le _, acc, us, e14.le (by omega), e4.at (e3.at hus' rfl) rfl, ((ra.ex e2).ex e3).ex e4, (f2.ex e3).ex e4, hC1, hq2⟩, ?_⟩
      rintro j k H ⟨rfl, hj, acc, us, g1, hus1, ra1, fr1, hCj, hlj⟩
      have st2 : (j + 1) * δ2 = j * δ2 + δ2 := Nat.succ_mul j δ2
      by_cases hjt : j < l2.length
      · have hle2 := lp_le hlp2 (show j + 1 ≤ l2.length from hjt)
        refine .inr ⟨w1.goes j H hjt hCj, fun H' => ∃ acc us, Ex (c0 + (j + 1) * δ2) H1 H' ∧ H' p = some (.lst us) ∧ RepL K (U (fun a => B a ∨ a = p) O) H' acc us ∧ Fr K own (fun a => B a ∨ a = p) O H' σ2 ρ2 ∧ C1 (U (fun a => B a ∨ a = p) O) H' ∧ lcW (lcStep T tg1 (wipeD ρ2 vs1) ifs1 e) (l2.drop (j + 1)) acc (fun acc' => lcW2 (lc2In T tg vs ρ ifs vs1 tg1 it1 ifs1 e) (l.drop (i + 1)) acc' Qr), fun H' h => ⟨l2.length - (j + 1), by omega, rfl, hjt, h⟩, fun x1 H5 y1 => ?_⟩
        obtain ⟨e5, d1, hd5, r5⟩ := w1.yields j H x1 H5 hjt hCj y1
        rw [drop_at hd5] at hlj
        obtain ⟨hz, hlj⟩ := hlj
        have hus5 := e5.at hus1 rfl
        have rm5 : Rm H5 (dcEs T ifs1 + dcE T e) := by
          rw [hδ2]
          exact ((hR.le (by omega : (c0 + j * δ2) + δ2 ≤ wkL * δ)).ex g1).ex0 e5
        refine gpt_of ((fr1.ex e5).wipe vs1) (fun i hi => (ho1 i hi).1) r5 hlj fun σ3 ρ3 hr3 f3 hwp3 => ⟨(hwp3 vs1 fun i hi => (ho1 i hi).2).trans (wipe_wipe fun i hi => hi), _, _, ρ3, _, _, ⟨f3, rm5.l, xok0⟩, hr3, fun b1 hb1 H6 e6 => ?_⟩
        have e16 := (g1.trans e5).trans e6
        cases b1 with
        | false => exact ⟨acc, us, e16.le (by rw [st2, ← hδ2]; omega), e6.at hus5 rfl, (ra1.ex e5).ex e6, (fr1.ex e5).ex e6, cst1.ex _ _ _ _ _ (cst1.ex _ _ _ _ _ hCj e5 grows_refl) e6 grows_refl, hb1⟩
        | true =>
          refine ⟨_, _, ρ3, _, _, ⟨f3.ex e6, rm5.ex e6, xok0⟩, hb1, fun dx hx v H7 e7 r7 => ?_⟩
          have h7 : H7 p = some (.lst us) := e7.at (e6.at hus5 rfl) rfl
          have ap : U (fun a => B a ∨ a = p) O p := .inl (.inr rfl)
          have kk := keeps_upd (o' := .lst (us ++ [v])) ap h7 rfl
          refine ⟨us, h7, by rw [RepL.length ra1]; exact hz, acc ++ [dx], us ++ [v], ex_upd hp ((e16.trans e7).le (by rw [st2, ← hδ2]; omega)), upd_same, ?_, (((fr1.ex e5).ex e6).ex e7).updB (.inr rfl) nO h7, ?_, hx⟩
          · exact RepL.append (RepL.keep kk grows_refl _ _ (((ra1.ex e5).ex e6).ex e7)) (repL_one (Rep.keep kk grows_refl _ _ (r7.2.1 he)))
          · exact cst1.kp rfl _ _ _ _ (cst1.ex _ _ _ _ _ (cst1.ex _ _ _ _ _ (cst1.ex _ _ _ _ _ hCj e5 grows_refl) e6 grows_refl) e7 grows_refl) kk grows_refl
      · have ej : j = l2.length := by omega
        subst ej
        rw [List.drop_length] at hlj
        have hle2 := lp_le hlp2 (Nat.le_refl l2.length)
        exact .inl ⟨w1.stops H hCj, acc, us, g1.le (by omega), hus1, ra1, hlj⟩
  · have e : i = l.length := by omega
    subst e
    rw [List.drop_length] at hl
    exact .inl ⟨w.stops H hCi, hd acc us H hl (e1.le (lp_le hlp (Nat.le_refl _))) hus (RepL.keep keeps_refl (grows_less less_into) _ _ ra)⟩
end
section
variable {T : Tb} {L : Nat} {W : WX} {X : Cx} {ow : List Nat}
theorem lc2_rd {own : List (Str × Nat)} {vs1 : List Nat} {tg tg1 : Pt} {it it1 : E} {ifs ifs1 : List E} {e : E} (ht : ∀ i ∈ ptIx tg, owf ow i = false ∧ i ∈ own.map (·.2)) (ht1 : ∀ i ∈ ptIx tg1, owf ow i = false ∧ i ∈ vs1) (hs1 : ownS it1 = false) (he : ownB e = false) {σ : L2.St} {H : Hp} {Q : VK}
    (h : rdE T X.K (owf ow) W (.lc2 own tg it ifs vs1 tg1 it1 ifs1 e) σ H Q) : tLc2 (rdI T X.K (owf ow) W it) (gPt X.K tg) (rdTs T X.K (owf ow) W0 ifs) (rdI T X.K (owf ow) W0 it1) (gPt X.K tg1) (rdTs T X.K (owf ow) W0 ifs1) (rdE T X.K (owf ow) W0 e) (own.map (·.2)) vs1 σ H Q := by
  obtain ⟨B, O, ρ, xk, Qd, f, hq, hf⟩ := h
  refine ⟨B, O, ρ, xk, _, f.l, hq, fun w hw => ?_⟩
  obtain ⟨l, hl, hlp, hw⟩ := hw
  refine ⟨l, hl, fun J C H1 e1 wk cst hC _ p hp => lc2_turns (f.fr.ex e1) (f.rm.ex e1) hlp hp wk cst hC ht ht1 hs1 he hw fun r us H2 hr e2 hus rl => ?_⟩
  exact hf _ hr _ H2 (e1.trans e2) (res_new ((f.fr.ex e1).fresh hp) (e1.none hp) ⟨us, hus, rl⟩)
theorem vs_of {vs1 vs : List Nat} (h : vs1.all (fun j => vs.contains j) = true) : ∀ i ∈ vs1, i ∈ vs := fun i hi => List.contains_iff_mem.mp (List.all_eq_true.mp h i hi)
theorem c_lc2 (G : Good T L W X) {own : List (Str × Nat)} {vs1 : List Nat} {tg tg1 : Pt} {it it1 : E} {ifs ifs1 : List E} {e : E} {x t i t1 i1 : Expr} {cs cs1 : List Expr} {scope : Scope} {pos : Pos} (hb : blkC X.N X.env.scope scope own = true) (hv : ∀ i ∈ vs1, i ∈ own.map (·.2)) (ht : ∀ i ∈ ptIx tg, owf ow i = false ∧ i ∈ own.map (·.2)) (ht1 : ∀ i ∈ ptIx tg1, owf ow i = false ∧ i ∈ vs1) (hs : noSet i = true) (hs1 : noSet i1 = true) (ho1 : ownS it1 = false) (he : ownB e = false)
    (hi : PI X t i (rdI T X.K (owf ow) W it)) (hg : ∀ s H C cl fp, PG (X.blk s H scope (compEnvC scope cl C X.env) fp) t (gPt X.K tg)) (hc : ∀ s H C cl fp, PTs (X.blk s H scope (compEnvC scope cl C X.env) fp) cs (rdTs T X.K (owf ow) W0 ifs))
    (hi1 : ∀ s H C cl fp, PI (X.blk s H scope (compEnvC scope cl C X.env) fp) t1 i1 (rdI T X.K (owf ow) W0 it1)) (hg1 : ∀ s H C cl fp, PG (X.blk s H scope (compEnvC scope cl C X.env) fp) t1 (gPt X.K tg1)) (hc1 : ∀ s H C cl fp, PTs (X.blk s H scope (compEnvC scope cl C X.env) fp) cs1 (rdTs T X.K (owf ow) W0 ifs1))
    (hx : ∀ s H C cl fp, PE (X.blk s H scope (compEnvC scope cl C X.env) fp) x (rdE T X.K (owf ow) W0 e)) : PE X (.ListComp x [⟨t, i, cs, 0⟩, ⟨t1, i1, cs1, 0⟩] scope pos) (rdE T X.K (owf ow) W (.lc2 own tg it ifs vs1 tg1 it1 ifs1 e)) :=
  (pe_lc2 G.calm G.nd hi (blkOk_by hb) hv hg hc hi1 hg1 hc1 hx (fold_of hs) (fun env x => fold_of hs1 x)).imp fun σ H Q h => lc2_rd ht ht1 ho1 he h
end
end DL

/-! DK: more rules: new lists by + and *, index, a def picked, turned round -/
namespace DL
open PySem PySem.Spec PyProof.Rows L2 Evl

section
variable {T : Tb} {L : Nat} {W : WX} {X : Cx} {ow : List Nat}
/-- an operation that makes a new list -/
def r2N (K : PySem.W.Frag) (g : D → D → DK → Prop) : R2 := fun x y H Q => ∃ A dx dy Qd, AOk A H ∧ RepB K A H dx x ∧ RepB K A H dy y ∧ g dx dy Qd ∧ ∀ d, Qd d → ∀ p H', H p = none → Ex 0 H H' → OwnAt K (U A (· = p)) H' p d → Q (.ref p) H'
theorem op_binN (op : Operator) : OpR X (binaryOp op) (r2N X.K (binND op)) := by
  intro pins s σ H x y v u Q I rx ry h
  obtain ⟨A, dx, dy, Qd, hA, hx, hy, hb, hq⟩ := h
  unfold binND at hb
  split at hb
  · obtain ⟨a, xs, rfl, ha, hl⟩ := rb_lst hx
    obtain ⟨b, ys, rfl, hb', hm⟩ := rb_lst hy
    exact op_cat pins s σ H _ _ v u Q I rx ry ⟨a, b, xs, ys, rfl, rfl, ha, hb', by rw [RepL.length hl, RepL.length hm]; exact hb.1, fun p hp => hq _ hb.2 p _ hp (Ex.new hp) (newLst (RepL.append hl hm) hp)⟩
  · obtain ⟨a, xs, rfl, ha, hl⟩ := rb_lst hx
    obtain rfl := rb_int hy
    exact op_rep pins s σ H _ _ v u Q I rx ry ⟨a, _, xs, rfl, rfl, ha, hb.1, hb.2.1, by rw [RepL.length hl]; exact hb.2.2.1, fun p hp => hq _ hb.2.2.2 p _ hp (Ex.new hp) (newLst (repL_rep _ hl) hp)⟩
  · exact hb.elim
theorem c_binN {a b : E} {x y : Expr} {op : Operator} {pos : Pos} (ha : PE X x (rdE T X.K (owf ow) W a)) (hb : PE X y (rdE T X.K (owf ow) W b)) : PE X (.BinOp x op y pos) (rdE T X.K (owf ow) W (.binN op a b)) :=
  (pe_op (op_binN op) ha hb).imp fun σ H Q h => by
    obtain ⟨B, O, ρ, xk, Qd, f, hq, hf⟩ := h
    have f0 : FX X.K (owf ow) W xk B O (dcE T a + dcE T b) H σ ρ := f
    refine ⟨B, O, ρ, xk, _, f0.l, (show wpE T xk a ρ fun x => wpE T xk b ρ fun y => binND op x y Qd from hq), fun dx hx v H1 e1 r1 => ⟨B, O, ρ, xk, _, f0.ex e1, hx, fun dy hy u H2 e2 r2 => ⟨U B O, dx, dy, Qd, ((f.fr.ex e1).ex e2).mt, r1.1.ex e2, r2.1, hy, fun d hd p H3 hp e3 o => ?_⟩⟩⟩
    have na := ((f.fr.ex e1).ex e2).fresh hp
    exact hf d hd _ H3 ((e1.trans e2).trans e3) (res_new na (e1.none (e2.none hp)) o)
/-! index -/
theorem ty_lst {K : PySem.W.Frag} {H : Hp} {a : Addr} {vs : List V} (h : H a = some (.lst vs)) : tyV K "list" (.ref a) H := .inl ⟨rfl, vs, .inl (.inl h)⟩
theorem c_index (G : Good T L W X) {o : E} {es : List E} {x y : Expr} {ap cp : Pos} (hn : noCall x = true) (hln : (ap.endLine == cp.line) = true) (hs : noStar y = true) (ho : PE X x (rdE T X.K (owf ow) W o)) (he : PA X [y] (rdEs T X.K (owf ow) W es)) :
    PE X (.Call (.Attribute x "index" ap) [y] [] cp) (rdE T X.K (owf ow) W (.bm .index o es)) := by
  refine (pe_bm PySem.F.plainAttrs_list PySem.F.slot_list_index PySem.F.type_list_index (mt_indexD (units65 G)) ho he (by cases x <;> first | rfl | cases hn) (by rw [star_of hs]; rfl) hln (star_of hs) rfl).imp fun σ H Q h => ?_
  obtain ⟨B, O, ρ, xk, Qd, f, hq, hf⟩ := h
  have f0 : FX X.K (owf ow) W xk B O (dcE T o + dcEs T es) H σ ρ := f
  refine ⟨B, O, ρ, xk, _, f0.l, (show wpE T xk o ρ fun x => bmTy .index x ∧ wpEs T xk es ρ fun ds => bmD .index x ds Qd from hq), fun dx hx v H1 e1 r1 => ?_⟩
  obtain ⟨ht, hx⟩ := hx
  cases dx with
  | lst l =>
    obtain ⟨a, vs, rfl, hv, hl⟩ := rb_lst r1.1
    refine ⟨ty_lst hv, B, O, ρ, xk, _, f0.ex e1, hx, fun ds hds us H2 e2 r2 _ => ?_⟩
    unfold bmD at hds
    split at hds
    · obtain ⟨p, ps, j, z, h1, h2, h3, h4, h5, h6, h7, h8⟩ := hds
      rename_i l' d' _ ez _
      cases ez
      obtain ⟨u, rfl, hu⟩ := rbl_one r2
      exact ⟨a, u, p, ps, j, z, rfl, rfl, toPy_dp (.lst _) (.list ps) _ (by show (toPy.toPyL _).map PyData.list = _; rw [h2]; rfl) (r1.1.ex e2), toPy_dp _ p u h1 hu, h3, h4, h5, h6, h7, hf _ h8 _ H2 (e1.trans e2) (Res.of rfl rfl)⟩
    · exact hds.elim
  | _ => exact ht.elim
/-! a def that an expression gives -/
theorem c_pick (G : Good T L W X) {c : E} {es : List E} {o i : Expr} {xs : List Expr} {p pos : Pos} (h1 : 1 ≤ xs.length) (hs : xs.all noStar = true) (hc : PE X (.Subscript o i p) (rdE T X.K (owf ow) W c)) (ha : PA X xs (rdEs T X.K (owf ow) W es)) :
    PE X (.Call (.Subscript o i p) xs [] pos) (rdE T X.K (owf ow) W (.pick c es)) := by
  cases xs with
  | nil => exact absurd h1 (by decide)
  | cons y ys =>
    rw [List.all_cons, Bool.and_eq_true] at hs
    refine ⟨fun pins s σ H Q I h => ?_⟩
    obtain ⟨B, O, ρ, xk, Qd, f, hq, hf⟩ := h
    have f0 : FX X.K (owf ow) W xk B O (dcE T c + dcEs T es) H σ ρ := f
    show wpAny _ X.A (do callWith pos (← eval (.Subscript o i p) X.env) [] (backTo pos (starEach (y :: ys) X.env)) (backToKw pos (keywordEach [] X.env))) _ _ s
    refine wpAny_bind (thn (hc.run pins s σ H (fun v H1 => ∃ f e, v = .ref (He.ga X.K f) ∧ (∃ u w, X.mg f = some u ∧ RelV w u ∧ w = .ref (He.ga X.K f)) ∧ T.fn f = some e ∧ e.c = 0 ∧ Ex (dcE T c) H H1 ∧ wpEs T xk es ρ fun ds => ∃ e, T.fn f = some e ∧ ds.length = e.n ∧ e.m ds (fun d => (es.any ownB = true → flatD d = true) ∧ Qd d) xk) I ?_) fun u s1 ⟨v, H1, I1, r1, q1⟩ => ?_)
    · refine ⟨B, O, ρ, xk, _, f0.l, hq, fun d hd v H1 e1 r1 => ?_⟩
      obtain ⟨g, rfl, hg, hm, ⟨e, he, hz⟩, hw⟩ := hd
      have rv : v = .ref (He.ga X.K g) := by
        rcases r1.1 with r | ⟨_, _, r⟩
        · exact r
        · exact r.elim
      obtain ⟨d', hd'⟩ := Option.isSome_iff_exists.mp hg
      rw [hd'] at hm
      cases d' with
      | fn k =>
        obtain rfl : k = g := hm
        obtain ⟨u, w, h1, h2, h3⟩ := G.tab.glob k _ hd'
        exact ⟨k, e, rv, ⟨u, w, h1, h2, h3 noA H⟩, he, hz, e1, hw⟩
      | _ => exact hm.elim
    · obtain ⟨g, e, rfl, ⟨u', w, hu, hw, rfl⟩, he, hz, e1, hq1⟩ := q1
      cases r1
      cases hw
      obtain ⟨fa, fd, ps, hp, hk, F, hm, kp, hb⟩ := G.tab.fn g e he
      rw [hu] at hm
      cases hm
      refine PySem.W.callWith_K (h₀ := X.base) I1.ok.mod.kin kp (thn (ha.run pos pins s1 σ H1 (fun vs H2 => spOf X.K e.n e.c e.m vs H2 Q (W · · σ ·)) I1 ?_) fun us s2 ⟨vs, H2, I2, r, q⟩ => ⟨I2.kIn, runG F (G.room.mono hk) G.guards hb (L2N.passAt G.tk σ) I2 r q⟩) (star_of hs.1) (plain_args hs.2)
      refine ⟨B, O, ρ, xk, _, f0.ex e1, hq1, fun ds hds vs H2 e2 r r2 => ?_⟩
      obtain ⟨e', he', hn, hw⟩ := hds
      rw [he] at he'
      cases he'
      have f2 : FX X.K (owf ow) W xk B O e.c H2 σ ρ := by
        rw [hz]
        exact FX.ex (i := dcEs T es) (j := 0) (f0.ex e1) e2
      refine call_sp f2 hn hw r r2 fun d hd v H3 e3 r3 => hf d hd v H3 ?_ (Res.of r3 rfl)
      rw [hz] at e3
      exact (e1.trans e2).trans e3
end
end DL

/-! DR: turned round; the drawing state made -/
namespace DL
open PySem PySem.Spec PyProof.Rows L2 Evl HT

section
variable {prog : Program} {w : World} {A : Around} {E : Value → Shared → Prop} {s : Shared}
theorem adj_rev (n : Nat) : Builtin.Slice.sliceAdjust none none (-1) (n : Int) = ((n : Int) - 1, -1) := rfl
theorem places_rev (n : Nat) : Builtin.Slice.slicePlaces ((n : Int) - 1) (-1) (-1) = n := by
  unfold Builtin.Slice.slicePlaces
  rw [if_neg (by decide : ¬ ((-1 : Int) > 0))]
  by_cases h : (n : Int) - 1 > -1
  · rw [if_pos h]
    have e : ((n : Int) - 1 - -1 - 1) / (- -1) + 1 = n := by
      rw [show (- -1 : Int) = 1 from rfl, Int.ediv_one]
      omega
    rw [e]
    rfl
  · rw [if_neg h]
    have : n = 0 := by omega
    rw [this]
    rfl
theorem range_picks {α : Type} {f : Nat → Option α} {l : List α} (h : ∀ k, k < l.length → f k = l[k]?) : ∀ m, m ≤ l.length → (List.range m).filterMap f = l.take m
  | 0, _ => rfl
  | m + 1, hm => by
    rw [List.range_succ, List.filterMap_append, range_picks h m (Nat.le_of_succ_le hm), List.take_succ_eq_append_getElem (by omega)]
    congr 1
    rw [List.filterMap_cons, h m (by omega), List.getElem?_eq_getElem (by omega)]
    rfl
theorem picks_rev (xs : Array Value) : ((List.range xs.size).filterMap fun (k : Nat) => xs[(((xs.size : Int) - 1) + (k : Int) * -1).toNat]?).toArray = xs.toList.reverse.toArray := by
  congr 1
  have hl : xs.toList.reverse.length = xs.size := by simp
  have q := range_picks (f := fun (k : Nat) => xs[(((xs.size : Int) - 1) + (k : Int) * -1).toNat]?) (l := xs.toList.reverse) (fun k hk => by
    rw [hl] at hk
    have e : (((xs.size : Int) - 1) + (k : Int) * -1).toNat = xs.size - 1 - k := by omega
    rw [e, List.getElem?_reverse (by simpa using hk)]
    simp) xs.size (by rw [hl]; exact Nat.le_refl _)
  rw [q, ← hl, List.take_length]
theorem applied_rev {sl : Addr} {va vb vc : Value} {n : Nat} {Q : Int × Int × Nat → Shared → Prop} (hs : s.heap.IsSliceOf sl va vb vc) (pa : IsPart va none) (pb : IsPart vb none) (pc : IsPart vc (some (-1)))
    (h : Q ((n : Int) - 1, -1, n) s) : wpAny (model prog w) A (Builtin.Slice.sliceApplied (.ref sl) (pure (n : Int))) Q E s := by
  obtain ⟨os, h1, h2, h3⟩ := id hs
  unfold Builtin.Slice.sliceApplied Builtin.Slice.sliceFields
  refine wpAny_bind (wpAny_bind (wpAny_field h1 h3 (x := va) rfl (wpAny_bind (wpAny_field h1 h3 (x := vb) rfl (wpAny_bind (wpAny_field h1 h3 (x := vc) rfl (wpAny_pure ?_)))))))
  refine wpAny_bind (slicePart_ pc ?_)
  show wpAny _ _ (if ((-1 : Int) == 0) = true then _ else _) _ _ s
  rw [if_neg (by decide)]
  refine wpAny_bind (slicePart_ pa (wpAny_bind (slicePart_ pb (wpAny_bind (wpAny_pure ?_)))))
  show wpAny _ _ (match Builtin.Slice.sliceAdjust none none (-1) (n : Int) with | (lo, hi) => pure (lo, (-1 : Int), Builtin.Slice.slicePlaces lo hi (-1))) _ _ s
  rw [adj_rev]
  show wpAny _ _ (pure ((n : Int) - 1, (-1 : Int), Builtin.Slice.slicePlaces ((n : Int) - 1) (-1) (-1))) _ _ s
  rw [places_rev]
  exact wpAny_pure h
theorem item_tup_rev {t sl : Addr} {items : Array Value} {va vb vc : Value} {Q : Value → Shared → Prop} (ht : IsTup s.heap t items) (hs : s.heap.IsSliceOf sl va vb vc) (pa : IsPart va none) (pb : IsPart vb none) (pc : IsPart vc (some (-1)))
    (h : Q (.ref s.heap.objs.size) { s with heap := s.heap.push { cls := .type "tuple", data := .seq items.toList.reverse.toArray } }) (hz : items.size ≤ sizeLine) : wpAny (model prog w) A (getItem (.ref t) (.ref sl)) Q E s := by
  have hk : sizeOk (.seq items.toList.reverse.toArray) := by
    show items.toList.reverse.toArray.size ≤ sizeLine
    rw [List.size_toArray, List.length_reverse, Array.length_toList]
    exact hz
  obtain ⟨os, h1, h2, h3⟩ := id hs
  have hT : s.TypeIs (.ref sl) "slice" := ⟨os, h1, h2⟩
  unfold getItem
  try with_reducible refine wpAny_holding ?_
  first | refine wpAny_bind (wpAny_pure ?_) | skip
  refine wpAny_bind (wpAny_sequenceKey ht.typeIs (by decide) ?_)
  refine wpAny_bind (wpAny_callSpecial?_slot (name := Str.ofString "__getitem__") ht.typeIs PyProof.Rows.slot_tuple_getitem (wpAny_call_entry PyProof.Rows.slot_tuple_getitem ht.typeIs entry_tuple_getitem ?_ (args_tuple_getitem _ _)))
  show wpAny _ _ (Builtin.Tuple.tupleItemsOf (.ref t) >>= _) _ _ s
  refine wpAny_bind (tupleItemsOf_ ht ?_)
  refine wpAny_bind (wpAny_typeOf hT ?_)
  rw [if_pos (by decide)]
  refine wpAny_bind (applied_rev hs pa pb pc ?_)
  show wpAny _ _ (if ((((items.size : Int) - 1) == 0 && (-1 : Int) == 1 && items.size == items.size)) = true then _ else _) _ _ s
  have no : ¬ (((((items.size : Int) - 1) == 0 && (-1 : Int) == 1 && items.size == items.size)) = true) := fun q => by
    rw [Bool.and_eq_true, Bool.and_eq_true] at q
    exact absurd q.1.2 (by decide)
  rw [if_neg no, picks_rev]
  first
    | exact wpAny_bind (m := Builtin.Tuple.tupleExact _) (wpAny_newObj_type (wpAny_pure ⟨_, rfl, wpAny_pure h⟩) hk)
    | exact wpAny_bind (m := Builtin.Tuple.tupleExact _) (wpAny_newObj_type (wpAny_bind (wpAny_pure (wpAny_pure ⟨_, rfl, wpAny_pure h⟩))) hk)
    | exact wpAny_bind (wpAny_bind (m := Builtin.Tuple.tupleExact _) (wpAny_newObj_type (wpAny_pure (wpAny_pure ⟨_, rfl, wpAny_pure h⟩)) hk))
    | exact wpAny_bind (wpAny_bind (m := Builtin.Tuple.tupleExact _) (wpAny_newObj_type (wpAny_pure ⟨_, rfl, wpAny_pure h⟩) hk))
end
/-! a list or a tuple turned round -/
def tRev (K : PySem.W.Frag) (te : TE) : TE := fun σ H Q => te σ H fun x H1 => (∃ a xs, x = .ref a ∧ SqL K H1 a xs ∧ ∀ p, H1 p = none → Q (.ref p) (upd H1 p (.lst xs.reverse))) ∨ ∃ a xs, x = .ref a ∧ SqT K H1 a xs ∧ ∀ p, H1 p = none → Q (.ref p) (upd H1 p (.tup xs.reverse))
theorem pe_rev {X : Cx} {e : Expr} {te : TE} {k : Nat} {p1 p2 p3 pos : Pos} (he : PE X e te) : PE X (.Subscript e (.Slice none none (some (.UnaryOp .USub (.Constant (.int 1) k p1) p2)) p3) pos) (tRev X.K te) := by
  refine ⟨fun pins s σ H Q I h => Subscript_ (thn (he.run pins s σ H _ I h) fun v s1 ⟨x, H1, I1, r1, q1⟩ => ?_)⟩
  have step : PO X (some (.UnaryOp .USub (.Constant (.int 1) k p1) p2)) (tPart (tUn (rU fun i => .int (-i)) (tC (.int 1)))) := po_some (pe_un un_neg pe_int)
  refine wpAny_Slice (thn (po_none.run pins s1 σ H1 (fun o H2 => o = none ∧ H2 = H1) I1 ⟨rfl, rfl⟩) fun va s2 ⟨a1, H2, I2, pa, ea, e2⟩ => ?_)
  subst ea e2
  refine thn (po_none.run pins s2 σ H2 (fun o H3 => o = none ∧ H3 = H2) I2 ⟨rfl, rfl⟩) fun vb s3 ⟨b1, H3, I3, pb, eb, e3⟩ => ?_
  subst eb e3
  refine thn (step.run pins s3 σ H3 (fun o H4 => o = some (-1) ∧ H4 = H3) I3 ⟨1, rfl, -1, rfl, rfl, rfl⟩) fun vc s4 ⟨c1, H4, I4, pc, ec, e4⟩ => ?_
  subst ec e4
  have I5 : Inv X pins σ H4 { s4 with heap := s4.heap.push { cls := .type "slice", data := .fields #[va, vb, vc] } } := I4.kept (t' := s4.toks) fun b ob q => Heap.get?_push_of_some _ q
  rcases q1 with ⟨a, xs, ex, hx, q⟩ | ⟨a, xs, ex, hx, q⟩
  · subst ex
    cases r1
    obtain ⟨its, r, ht, hz⟩ := I5.list hx
    have hlen := r.length
    show wpAny (model X.prog X.w) X.A (subscriptTail e (.Slice none none (some (.UnaryOp .USub (.Constant (.int 1) k p1) p2)) p3) (.ref a) (.ref s4.heap.objs.size)) (EP X pins σ Q) X.xe { s4 with heap := s4.heap.push { cls := .type "slice", data := .fields #[va, vb, vc] } }
    refine tail_any (ops := [.ref a, .ref s4.heap.objs.size]) ht.isList.typeIs (PySem.slot_list_getitem.lookup) (wpAny_getItem_list_slice ht.isList (Heap.IsSliceOf.new _ va vb vc) pa pb pc (by decide) ?_ (by rw [List.size_toArray]; omega)) (by with_unfolding_all rfl)
    rw [PySem.W.krv_pick]
    exact ⟨.ref _, _, I5.laid (t' := s4.toks) (o := .lst xs.reverse) (fun b ob q => Heap.get?_push_of_some _ q) (Nat.le_refl _) ⟨by rw [List.length_reverse]; exact hz, _, 0, r.reverse, Heap.get?_push_size _ rfl⟩, rfl, q _ (I5.hok.fresh (Nat.le_refl _))⟩
  · subst ex
    cases r1
    obtain ⟨its, r, ht, hz⟩ := I5.tuple hx
    have hlen := r.length
    show wpAny (model X.prog X.w) X.A (subscriptTail e (.Slice none none (some (.UnaryOp .USub (.Constant (.int 1) k p1) p2)) p3) (.ref a) (.ref s4.heap.objs.size)) (EP X pins σ Q) X.xe { s4 with heap := s4.heap.push { cls := .type "slice", data := .fields #[va, vb, vc] } }
    refine tail_any (ops := [.ref a, .ref s4.heap.objs.size]) ht.typeIs (PyProof.Rows.slot_tuple_getitem.lookup) (item_tup_rev ht (Heap.IsSliceOf.new _ va vb vc) pa pb pc ?_ (by rw [List.size_toArray]; omega)) (by with_unfolding_all rfl)
    exact ⟨.ref _, _, I5.laid (t' := s4.toks) (o := .tup xs.reverse) (fun b ob q => Heap.get?_push_of_some _ q) (Nat.le_refl _) ⟨by rw [List.length_reverse]; exact hz, _, r.reverse, IsTup.new _ _⟩, rfl, q _ (I5.hok.fresh (Nat.le_refl _))⟩
section
variable {T : Tb} {L : Nat} {W : WX} {X : Cx} {ow : List Nat}
theorem c_rev {a : E} {e : Expr} {k : Nat} {p1 p2 p3 pos : Pos} (he : PE X e (rdE T X.K (owf ow) W a)) : PE X (.Subscript e (.Slice none none (some (.UnaryOp .USub (.Constant (.int 1) k p1) p2)) p3) pos) (rdE T X.K (owf ow) W (.rev a)) :=
  (pe_rev he).imp fun σ H Q h => by
    obtain ⟨B, O, ρ, xk, Qd, f, hq, hf⟩ := h
    refine ⟨B, O, ρ, xk, _, f, (show wpE T xk a ρ fun x => revD x Qd from hq), fun d hd v H1 e1 r1 => ?_⟩
    unfold revD at hd
    split at hd
    · obtain ⟨a', vs, rfl, hs, hl⟩ := rb_lst r1.1
      exact .inl ⟨a', vs, rfl, .inl (.inl hs), fun p hp => hf _ hd _ _ (e1.trans (Ex.new hp)) (Res.of (rep_lst ((f.fr.ex e1).fresh hp) (RepL.reverse hl) hp) rfl)⟩
    · obtain ⟨a', vs, rfl, hs, hl⟩ := rb_tup r1.1
      exact .inr ⟨a', vs, rfl, hs, fun p hp => hf _ hd _ _ (e1.trans (Ex.new hp)) (Res.of (rep_tup (RepL.reverse hl) hp) rfl)⟩
    · exact hd.elim
end
end DL

/-! DQ: a comprehension over a dict's keys (the dict locked meanwhile) -/
namespace DL
open PySem PySem.Spec PyProof.Rows L2 Evl

section
variable {X : Cx}
/-- the value's dict locked, if it was not -/
def tLk (H0 : Hp) (td : TE) : TE := fun σ H Q => td σ H fun x H1 => ∃ d kvs, x = .ref d ∧ ((∃ o, H1 d = some (.frz o (.dK kvs)) ∧ Q x H1) ∨ (H1 d = some (.dK kvs) ∧ ∀ od, (∀ o' u', H0 d ≠ some (.frz o' u')) → Q x (upd H1 d (.frz od (.dK kvs)))))
theorem pe_lk {e : Expr} {td : TE} (he : PE X e td) : PE X e (tLk X.H_0 td) := ⟨fun pins s σ H Q I h => thn (he.run pins s σ H _ I h) fun v s1 ⟨x, H1, I1, r1, d, kvs, ex, q⟩ => by
  rcases q with ⟨o, _, q⟩ | ⟨hd, q⟩
  · exact ⟨x, H1, I1, r1, q⟩
  · obtain ⟨od, J⟩ := I1.lock hd trivial
    exact ⟨x, _, J, r1, q od (I1.nofrz hd trivial)⟩⟩
/-- unlocked behind it -/
def tUn (H0 : Hp) (t : TE) : TE := fun σ H Q => t σ H fun x H1 => Q x H1 ∨ ∃ d od u, H1 d = some (.frz od u) ∧ (∀ o' u', H0 d ≠ some (.frz o' u')) ∧ Q x (upd H1 d u)
theorem pe_un_lk {e : Expr} {t : TE} (he : PE X e t) : PE X e (tUn X.H_0 t) := ⟨fun pins s σ H Q I h => thn (he.run pins s σ H _ I h) fun v s1 ⟨x, H1, I1, r1, q⟩ => by
  rcases q with q | ⟨d, od, u, hd, hn, q⟩
  · exact ⟨x, H1, I1, r1, q⟩
  · exact ⟨x, _, I1.unlock hd hn, r1, q⟩⟩
end
section
variable {K : PySem.W.Frag} {own : Nat → Bool} {B O A : AP} {H H' : Hp} {σ : L2.St} {ρ : DE} {d : Addr} {kvs : List (Key × V)} {od : Obj}
theorem keeps_lock (hd : H d = some (.dK kvs)) : Keeps A H (upd H d (.frz od (.dK kvs))) := fun b o hb _ => by
  by_cases e : b = d
  · subst e
    rw [hd] at hb
    cases hb
    exact .inr (.inl (.inl ⟨_, od, rfl, rfl, upd_same⟩))
  · exact .inl (by rw [upd_ne e]; exact hb)
theorem keeps_unlock (hd : H d = some (.frz od (.dK kvs))) : Keeps A H (upd H d (.dK kvs)) := fun b o hb _ => by
  by_cases e : b = d
  · subst e
    rw [hd] at hb
    cases hb
    exact .inr (.inl (.inr ⟨_, od, rfl, rfl, upd_same⟩))
  · exact .inl (by rw [upd_ne e]; exact hb)
theorem Fr.lock (f : Fr K own B O H σ ρ) (hd : H d = some (.dK kvs)) (na : ¬ U B O d) : Fr K own B O (upd H d (.frz od (.dK kvs))) σ ρ := by
  have ne : ∀ {b}, U B O b → b ≠ d := fun z e => na (by rw [← e]; exact z)
  refine ⟨f.len, fun i e h1 h2 => ?_, fun i e h1 h2 => ?_, f.dj, fun a h => ?_⟩
  · obtain ⟨v, h3, h4⟩ := f.fz i e h1 h2
    exact ⟨v, h3, Rep.keep (keeps_lock hd) grows_refl _ _ h4⟩
  · obtain ⟨a, h3, h4, h5⟩ := f.ow i e h1 h2
    exact ⟨a, h3, h4, OwnAt.keep (keeps_lock hd) grows_refl (fun o q _ => by rw [upd_ne (ne (.inr h4))]; exact q) h5⟩
  · obtain ⟨o, h1, h2⟩ := f.mt a h
    exact ⟨o, by rw [upd_ne (ne h)]; exact h1, h2⟩
theorem cnt_lock {c : Nat} {o : HO} (hx : isX o = false) (h : Cnt H c) : Cnt (upd H d o) c := fun a s n e => by
  by_cases z : a = d
  · subst z
    rw [upd_same] at e
    cases e
    cases hx
  · rw [upd_ne z] at e
    exact h a s n e
/-- there and back again -/
theorem ex_back {δ : Nat} (hd : H d = some (.dK kvs)) (e : Ex δ (upd H d (.frz od (.dK kvs))) H') : Ex δ H (upd H' d (.dK kvs)) := by
  refine ⟨fun b o hb => ?_, fun c h => cnt_lock rfl (e.ct c (cnt_lock rfl h))⟩
  by_cases z : b = d
  · subst z
    rw [hd] at hb
    cases hb
    exact .inl upd_same
  · rcases e.kp b o (by rw [upd_ne z]; exact hb) with q | ⟨s, n, n', rfl, q⟩
    · exact .inl (by rw [upd_ne z]; exact q)
    · exact .inr ⟨s, n, n', rfl, by rw [upd_ne z]; exact q⟩
theorem wk_keys {l : List (Key × D)} (hk : kvs.map (·.1) = l.map (·.1)) : WkJ K (Itk d od kvs) (fun _ H => H d = some (.frz od (.dK kvs))) (l.map fun kv => dK kv.1) := fun A H h => by
  have w := walk_keys (d := d) (o := od) (kvs := kvs)
  have hl : (l.map fun kv => dK kv.1).length = kvs.length := by
    have := congrArg List.length hk
    simpa using this.symm
  rw [hl]
  refine ⟨fun i hi => w.goes i H hi h, w.stops H h, fun i x H' hi y => ?_⟩
  obtain ⟨rfl, k, v, e, rfl⟩ := w.yields i H x H' hi h y
  have q : (l.map (·.1))[i]? = some k := by
    rw [← hk, List.getElem?_map, e]
    rfl
  rw [List.getElem?_map] at q
  obtain ⟨kv, h1, h2⟩ := Option.map_eq_some_iff.mp q
  refine ⟨Ex.refl _, dK kv.1, by rw [List.getElem?_map, h1]; rfl, ?_⟩
  rw [h2]
  cases k <;> rfl
theorem cst_keys : CSt true (fun (_ : AP) (H : Hp) => H d = some (.frz od (.dK kvs))) := ⟨fun _ _ H H' δ h e _ => e.at h rfl, fun z => by cases z⟩
end
section
variable {T : Tb} {L : Nat} {W : WX} {X : Cx} {ow : List Nat}
theorem c_lck (G : Good T L W X) {own : List (Str × Nat)} {tg : Pt} {it : E} {ifs : List E} {e : E} {x t i : Expr} {cs : List Expr} {scope : Scope} {pos : Pos} (hb : blkC X.N X.env.scope scope own = true) (ht : ∀ i ∈ ptIx tg, owf ow i = false ∧ i ∈ own.map (·.2)) (hs : noSet i = true) (he : ownB e = false) (ho : ownB it = false)
    (hi : PE X i (rdE T X.K (owf ow) W it)) (hg : ∀ s H C cl fp, PG (X.blk s H scope (compEnvC scope cl C X.env) fp) t (gPt X.K tg)) (hc : ∀ s H C cl fp, PTs (X.blk s H scope (compEnvC scope cl C X.env) fp) cs (rdTs T X.K (owf ow) W0 ifs))
    (hx : ∀ s H C cl fp, PE (X.blk s H scope (compEnvC scope cl C X.env) fp) x (rdE T X.K (owf ow) W0 e)) : PE X (.ListComp x [⟨t, i, cs, 0⟩] scope pos) (rdE T X.K (owf ow) W (.lck own tg it ifs e)) :=
  (pe_un_lk (pe_lc G.calm G.nd (pi_keys (pe_lk hi)) (blkOk_by hb) hg hc hx (fold_of hs))).imp fun σ H Q h => by
    obtain ⟨B, O, ρ, xk, Qd, f, hq, hf⟩ := h
    have f0 : FX X.K (owf ow) W xk B O (dcE T it + wkL * (dcEs T ifs + dcE T e)) H σ ρ := f
    refine ⟨B, O, ρ, xk, _, f0.l, hq, fun w hw v H1 e1 r1 => ?_⟩
    obtain ⟨l, rfl, hlp, hw⟩ := hw
    obtain ⟨d, kvs, rfl, na, hrd, rk⟩ := r1.2.1 ho
    have hk := (repK_len rk).2
    have fr := f.fr.ex e1
    have rm := f0.rm.ex e1
    rcases hrd with hd | ⟨o, hd⟩
    · refine ⟨d, kvs, rfl, .inr ⟨hd, fun od hn => ⟨d, od, rfl, .inl ⟨kvs, upd_same, fun p hp => ?_⟩⟩⟩⟩
      have pd : p ≠ d := fun z => by rw [z, upd_same] at hp; cases hp
      have hp1 : H1 p = none := by rwa [upd_ne pd] at hp
      obtain ⟨c, hc1, hc2⟩ := rm
      refine lc_turns (fr.lock hd na) ⟨c, cnt_lock rfl hc1, hc2⟩ hlp hp (wk_keys hk) cst_keys upd_same ht he hw fun r us H2 hr e2 hus rl => ?_
      have h2 := e2.at upd_same (show isX (.frz od (.dK kvs)) = false from rfl)
      refine .inr ⟨d, od, .dK kvs, h2, hn, hf _ hr _ _ (e1.trans (ex_back hd e2)) (res_new (fr.fresh hp1) (e1.none hp1) ⟨us, by rw [upd_ne pd]; exact hus, RepL.keep (keeps_unlock h2) grows_refl _ _ rl⟩)⟩
    · refine ⟨d, kvs, rfl, .inl ⟨o, hd, ⟨d, o, rfl, .inl ⟨kvs, hd, fun p hp => ?_⟩⟩⟩⟩
      refine lc_turns fr rm hlp hp (wk_keys hk) cst_keys hd ht he hw fun r us H2 hr e2 hus rl => ?_
      exact .inl (hf _ hr _ H2 (e1.trans e2) (res_new (fr.fresh hp) (e1.none hp) ⟨us, hus, rl⟩))
end
end DL

/-! DN: the drawing state: made, drawn from -/
namespace DL
open PySem PySem.Spec PyProof.Rows L2 Evl

theorem sto_ok {P : Program} {w : World} {H : Hp} {h : Heap} {a s : Addr} {n : Nat} {t : Tok} {m : Nat} (e : h.get? a = some { cls := .type "list", data := .seq #[.ref s, .int (n : Int) t] m }) : ObjOk P w H h a (StO a s n) :=
  ⟨⟨t, m, e⟩, ⟨_, e⟩, fun h1 h2 ⟨t, m, q⟩ k => ⟨t, m, k _ q⟩⟩
theorem ex_st {H : Hp} {p s : Addr} (hp : H p = none) : Ex 0 H (upd H p (StO p s 0)) := by
  refine ⟨fun b o e => .inl ?_, fun c q a s' n e => ?_⟩
  · rw [upd_ne (ne_of_none e hp)]
    exact e
  · by_cases z : a = p
    · subst z
      rw [upd_same] at e
      obtain ⟨rfl, _⟩ := sto_inj (Option.some.inj e) rfl
      exact Nat.zero_le _
    · rw [upd_ne z] at e
      exact q a s' n e
section
variable {T : Tb} {L : Nat} {W : WX} {X : Cx} {ow : List Nat}
theorem c_newst {e : E} {x : Expr} {k : Nat} {p pos : Pos} (ho : ownB e = false) (hs : noStar x = true) (he : PE X x (rdE T X.K (owf ow) W e)) : PE X (.List [x, .Constant (.int 0) k p] pos) (rdE T X.K (owf ow) W (.newst e)) := by
  have pl := pe_lst (pos := pos) (pa_cons he (pa_cons (pe_int (X := X) (i := 0) (j := k) (pos := p)) pa_nil rfl) (star_of hs))
  refine ⟨fun pins s σ H Q I h => ?_⟩
  obtain ⟨B, O, ρ, xk, Qd, f, hq, hf⟩ := h
  refine wpAny_mono (pl.run pins s σ H (fun v H2 => ∃ q l H1 ns, v = .ref q ∧ H1 q = none ∧ H2 = upd H1 q (.lst [.ref l, .int 0]) ∧ ¬ U B O l ∧ H1 l = some (.lst (ns.map V.int)) ∧ ns ≠ [] ∧ (∀ n ∈ ns, 0 ≤ n ∧ n < 1009) ∧ ns.length ≤ 4000 ∧ Qd .st ∧ Ex (dcE T e) H H1) I ?_) (fun v s' hv => ?_) fun _ _ z => z
  · refine ⟨B, O, ρ, xk, _, f, hq, fun d hd v H1 e1 r1 => ?_⟩
    obtain ⟨ns, rfl, h1, h2, h3, h4⟩ := hd
    obtain ⟨l, vs, rfl, na, hl, rl⟩ := r1.2.1 ho
    obtain rfl := repL_of_map (f := D.int) (g := V.int) (fun _ _ z => z) rl
    refine ⟨by show 2 ≤ sizeLine; decide, fun q hqn => ⟨q, l, H1, ns, rfl, hqn, rfl, na, hl, h1, h2, h3, h4, e1⟩⟩
  · obtain ⟨y, H2, I2, r2, q, l, H1, ns, rfl, hqn, rfl, na, hl, h1, h2, h3, h4, e1⟩ := hv
    obtain ⟨z, its, n, rv, hh⟩ := I2.hok q _ upd_same
    obtain ⟨u1, u2, rfl, ru1, ru2⟩ := vals2 rv
    cases ru1
    obtain ⟨t, rfl⟩ := ru2
    have nq : l ≠ q := fun z => by rw [z, hqn] at hl; cases hl
    have J := I2.write (x := q) (e := q) (o := StO q l 0) (t' := s'.toks) (h' := s'.heap) (by rw [upd_same]; trivial) (.inl rfl) (fun b u _ q => q) ⟨_, hh⟩ (sto_ok (n := 0) hh)
    rw [upd_upd] at J
    have ex := ex_st (s := l) hqn
    refine ⟨.ref q, _, J, r2, hf _ h4 _ _ (e1.trans ex) (Res.of ?_ rfl)⟩
    refine ⟨q, l, 0, ns, rfl, (f.fr.ex e1).fresh hqn, na, upd_same, ?_, h1, h2, h3⟩
    rw [upd_ne nq]
    exact hl
end
/-! ### drawing -/
section
variable {X : Cx}
theorem st_list {h : Heap} {a s : Addr} {n : Nat} {t : Tok} {m : Nat} (e : h.get? a = some { cls := .type "list", data := .seq #[.ref s, .int (n : Int) t] m }) : h.IsList a #[.ref s, .int (n : Int) t] := ⟨_, e, rfl, m, rfl⟩
def rSt0 : R2 := fun x y H Q => ∃ a s n, x = .ref a ∧ y = .int 0 ∧ H a = some (StO a s n) ∧ Q (.ref s) H
def rSt1 : R2 := fun x y H Q => ∃ a s n, x = .ref a ∧ y = .int 1 ∧ H a = some (StO a s n) ∧ Q (.int (n : Nat)) H
theorem ix_st0 : IxR X rSt0 := by
  intro value slice pins s σ H x y v u Q I rx ry h hs
  obtain ⟨a, l, n, rfl, rfl, hH, q⟩ := h
  cases rx
  obtain ⟨t, rfl⟩ := ry
  obtain ⟨⟨t', m, e⟩, _, _⟩ := I.hok a _ hH
  exact item_listR (st_list e) (Int.le_refl 0) (by decide) (by rfl) (show EP X pins σ Q (.ref l) s from ⟨.ref l, H, I, rfl, q⟩) hs
theorem ix_st1 : IxR X rSt1 := by
  intro value slice pins s σ H x y v u Q I rx ry h hs
  obtain ⟨a, l, n, rfl, rfl, hH, q⟩ := h
  cases rx
  obtain ⟨t, rfl⟩ := ry
  obtain ⟨⟨t', m, e⟩, _, _⟩ := I.hok a _ hH
  exact item_listR (st_list e) (by decide) (by decide) (by rfl) (show EP X pins σ Q (.int (n : Nat) t') s from ⟨.int (n : Nat), H, I, ⟨t', rfl⟩, q⟩) hs
def rStSet : TSet := fun o i v H Q => ∃ a s n n', o = .ref a ∧ i = .int 1 ∧ v = .int ((n' : Nat) : Int) ∧ H a = some (StO a s n) ∧ Q (upd H a (StO a s n'))
theorem set_st : PSet X rStSet := by
  intro pins s σ H o i v ov iv u Q I ro ri rv h
  obtain ⟨a, l, n, n', rfl, rfl, rfl, hH, q⟩ := h
  cases ro
  obtain ⟨t, rfl⟩ := ri
  obtain ⟨t2, rfl⟩ := rv
  obtain ⟨⟨t', m, e⟩, _, _⟩ := I.hok a _ hH
  have e' : s.heap.get? a = some { cls := .type "list", data := .seq [Value.ref l, Value.int (n : Int) t'].toArray m } := e
  have up : (s.heap.update a (Obj.mapSeq (·.setIfInBounds 1 (Value.int ((n' : Nat) : Int) t2)))).get? a = some { cls := .type "list", data := .seq #[Value.ref l, Value.int ((n' : Nat) : Int) t2] m } := by
    rw [Heap.get?_update_self _ e' (by rw [mapSeq_set] <;> rfl), mapSeq_set]
    rfl
  refine PySem.W.ki_setAt (n := m) e' (by decide) (by decide) (by show (1 : Int) < 2; decide) ⟨_, I.write (x := a) (e := a) (o := StO a l n') (t' := s.toks) (by rw [hH]; trivial) (.inl rfl) (fun b w hb hw => ?_) ⟨_, up⟩ (sto_ok up), q⟩
  exact (Heap.get?_update_other _ _ (Ne.symm hb)).trans hw
/-- a step of the counter -/
theorem ex_next {H : Hp} {a s : Addr} {n : Nat} (h : H a = some (StO a s n)) : Ex 1 H (upd H a (StO a s (n + 1))) := by
  refine ⟨fun b o e => ?_, fun c q b s' m e => ?_⟩
  · by_cases z : b = a
    · subst z
      rw [h] at e
      cases e
      exact .inr ⟨s, n, n + 1, rfl, upd_same⟩
    · exact .inl (by rw [upd_ne z]; exact e)
  · by_cases z : b = a
    · subst z
      rw [upd_same] at e
      obtain ⟨rfl, _⟩ := sto_inj (Option.some.inj e) rfl
      have := q b s n h
      omega
    · rw [upd_ne z] at e
      have := q b s' m e
      omega
def tNext (K : PySem.W.Frag) : TS :=
  tSeq (tAsg (tOp (rI0 fun i j => .int (i + j)) (tOp rSt1 (tVar 0) (tC (.int 1))) (tC (.int 1))) (gSub (tVar 0) (tC (.int 1)) rStSet))
  (tSeq (tAsg (tOp (rI CDiv fun i j => .int (i / j)) (tOp rSt1 (tVar 0) (tC (.int 1))) (tCB (fun xs H Q => ∃ p ys, xs = [.ref p] ∧ (SqL K H p ys ∨ SqT K H p ys) ∧ Q (.int ys.length) H) (tCons (tOp rSt0 (tVar 0) (tC (.int 0))) tNil))) (gName 2))
  (tRet (tOp (rI (fun _ j => 0 < j) fun i j => .int (i % j))
    (tCB (fun xs H Q => (∃ i, xs = [.int i] ∧ Q (.int i) H) ∨ ∃ k, xs = [.bl k] ∧ Q (.int (if k then 1 else 0)) H)
      (tCons (tOp (rI0 fun i j => .int (i + j)) (tOp (rI0 fun i j => .int (i + j))
        (tOp (rIxL K) (tOp rSt0 (tVar 0) (tC (.int 0))) (tOp (rI (fun _ j => 0 < j) fun i j => .int (i % j)) (tOp rSt1 (tVar 0) (tC (.int 1))) (tCB (fun xs H Q => ∃ p ys, xs = [.ref p] ∧ (SqL K H p ys ∨ SqT K H p ys) ∧ Q (.int ys.length) H) (tCons (tOp rSt0 (tVar 0) (tC (.int 0))) tNil))))
        (tOp (rI CMul fun i j => .int (i * j)) (tVar 2) (tC (.int 389))))
        (tOp (rI CMul fun i j => .int (i * j)) (tOp (rI CMulX fun i j => .int (i * j)) (tOp rSt1 (tVar 0) (tC (.int 1))) (tVar 2)) (tC (.int 17)))) tNil)) (tVar 1))))
theorem next_body {K0 : PySem.W.Frag} (hK : X.K = K0) (hN : X.N = (["state", "many", "turn"] : List Str)) (nd : X.N.Nodup) (fn : ∀ x, X.fn x = true) (hl : X.mg "len" = none) (hi : X.mg "int" = none) (gl : Gl X "len") (gi : Gl X "int") (v0 : Vis X.env.scope "state") (v1 : Vis X.env.scope "many") (v2 : Loc X.env.scope "turn") {k1 k2 k3 k4 k5 k6 k7 k8 k9 k10 k11 : Nat}
    {p1 p2 p3 p4 p5 p6 p7 p8 p9 p10 p11 p12 p13 p14 p15 p16 p17 p18 p19 p20 p21 p22 p23 p24 p25 p26 p27 p28 p29 p30 p31 p32 p33 p34 p35 p36 p37 p38 p39 p40 p41 p42 p43 p44 p45 p46 p47 p48 p49 p50 : Pos} :
    PSs X [.Assign [.Subscript (.Name "state" p1) (.Constant (.int 1) k1 p2) p3] (.BinOp (.Subscript (.Name "state" p4) (.Constant (.int 1) k2 p5) p6) .Add (.Constant (.int 1) k3 p7) p8) p9,
      .Assign [.Name "turn" p10] (.BinOp (.Subscript (.Name "state" p11) (.Constant (.int 1) k4 p12) p13) .FloorDiv (.Call (.Name "len" p14) [.Subscript (.Name "state" p15) (.Constant (.int 0) k5 p16) p17] [] p18) p19) p20,
      .Return (some (.BinOp (.Call (.Name "int" p21) [.BinOp (.BinOp (.Subscript (.Subscript (.Name "state" p22) (.Constant (.int 0) k6 p23) p24) (.BinOp (.Subscript (.Name "state" p25) (.Constant (.int 1) k7 p26) p27) .Mod (.Call (.Name "len" p28) [.Subscript (.Name "state" p29) (.Constant (.int 0) k8 p30) p31] [] p32) p33) p34) .Add
        (.BinOp (.Name "turn" p35) .Mult (.Constant (.int 389) k9 p36) p37) p38) .Add (.BinOp (.BinOp (.Subscript (.Name "state" p39) (.Constant (.int 1) k10 p40) p41) .Mult (.Name "turn" p42) p43) .Mult (.Constant (.int 17) k11 p44) p45) p46] [] p47) .Mod (.Name "many" p48) p49)) p50] (tNext K0) := by
  subst hK
  have n0 : X.N[0]? = some ("state" : Str) := by rw [hN]; rfl
  have n1 : X.N[1]? = some ("many" : Str) := by rw [hN]; rfl
  have n2 : X.N[2]? = some ("turn" : Str) := by rw [hN]; rfl
  have vs : ∀ p, PE X (.Name "state" p) (tVar 0) := fun p => pe_var n0 v0 (by decide) (by decide)
  have vm : ∀ p, PE X (.Name "many" p) (tVar 1) := fun p => pe_var n1 v1 (by decide) (by decide)
  have vt : ∀ p, PE X (.Name "turn" p) (tVar 2) := fun p => pe_var n2 (v2.elim .inl fun z => .inr (.inl z)) (by decide) (by decide)
  have s1 : ∀ p q r k, PE X (.Subscript (.Name "state" p) (.Constant (.int 1) k q) r) (tOp rSt1 (tVar 0) (tC (.int 1))) := fun p q r k => pe_ix ix_st1 (vs p) pe_int fun _ _ => rfl
  have s0 : ∀ p q r k, PE X (.Subscript (.Name "state" p) (.Constant (.int 0) k q) r) (tOp rSt0 (tVar 0) (tC (.int 0))) := fun p q r k => pe_ix ix_st0 (vs p) pe_int fun _ _ => rfl
  have ln : ∀ a b p q r k, PE X (.Call (.Name "len" a) [.Subscript (.Name "state" p) (.Constant (.int 0) k q) r] [] b) (tCB (fun xs H Q => ∃ p ys, xs = [.ref p] ∧ (SqL X.K H p ys ∨ SqT X.K H p ys) ∧ Q (.int ys.length) H) (tCons (tOp rSt0 (tVar 0) (tC (.int 0))) tNil)) := fun a b p q r k =>
    pe_callB call_len_seq gl hl PySem.boot_len (pa_cons (s0 p q r k) pa_nil rfl) (by decide) (by decide) rfl rfl
  refine pss_cons (ps_asg (pe_op op_add (s1 ..) pe_int) (pg_sub (vs _) pe_int set_st (fun _ => rfl)) rfl rfl rfl) (pss_cons (ps_set nd n2 v2 (pe_op op_fdiv (s1 ..) (ln ..)) rfl (.inl (fn _))) (pss_one (ps_ret (pe_op op_mod (pe_callTy call_int1 gi hi PyProof.Rows.boot_int (pa_cons (pe_op op_add (pe_op op_add (pe_ix ix_list (s0 ..) (pe_op op_mod (s1 ..) (ln ..)) fun _ _ => rfl) (pe_op op_mul (vt _) pe_int)) (pe_op op_mul (pe_op op_mulX (s1 ..) (vt _)) pe_int)) pa_nil rfl) (by decide) (by decide) rfl rfl) (vm _)))))
end
end DL

/-! DT: len(set(xs)) of texts -/
namespace DL
open PySem PySem.Spec PyProof.Rows L2 Evl

theorem dist_step {xs : List Str} {i : Nat} (h : i < xs.length) : distS (xs.take (i + 1)) = if xs[i] ∈ distS (xs.take i) then distS (xs.take i) else distS (xs.take i) ++ [xs[i]] := by
  unfold distS
  rw [List.take_succ_eq_append_getElem h, List.foldl_append]
  rfl
theorem dist_le (xs : List Str) : ∀ i, i ≤ xs.length → (distS (xs.take i)).length ≤ i
  | 0, _ => Nat.le_refl _
  | i + 1, h => by
    rw [dist_step h]
    have := dist_le xs i (Nat.le_of_succ_le h)
    split
    · omega
    · rw [List.length_append, List.length_singleton]
      omega
theorem any_mem (l : List Str) (k : Str) : (l.any fun y => y == k) = decide (k ∈ l) := by
  rw [Bool.eq_iff_iff, List.any_eq_true, decide_eq_true_eq]
  exact ⟨fun ⟨y, h, e⟩ => by rw [← beq_iff_eq.mp e]; exact h, fun h => ⟨k, h, beq_iff_eq.mpr rfl⟩⟩
section
variable {prog : Program} {w : World} {A : Around} {R : Result → Shared → Prop} {I : Addr} {fp wr : List Addr} {G : Array GenState → Array GenState → Prop} {n : Nat} {P : Nat → Value → Prop} {St : Nat → Shared → Prop}
abbrev SetStr (prog : Program) (w : World) (h : Heap) (S : Addr) (l : List Str) : Prop := h.SetOf (PySem.strKind prog w) S (fun k => l.any fun y => y == k) l.length
theorem loop_texts (W : WalksS prog w A.in1 I fp wr G n P St) (S : Addr) (hSf : S ∉ fp) (xs : List Str) (hsz : xs.length = n) (hb : n + 1 < scanBound) (hval : ∀ i v, P i v → ∃ t, v = .str (xs.getD i Str.empty) t) :
    ∀ (k i : Nat) (s : Shared), n - i = k → i ≤ n → St i s → SetStr prog w s.heap S (distS (xs.take i)) → (∀ s', Moved (S :: wr) G s s' → SetStr prog w s'.heap S (distS (xs.take n)) → R (.ok (.ret .none)) s') →
      codeAny (model prog w) A (.builtin "set.update.loop" ⟨[.ref S, .ref I], []⟩) R s := by
  have nSw : S ∉ wr := fun z => hSf (W.sub _ z)
  have sub : ∀ b ∈ wr, b ∈ S :: wr := fun b z => List.mem_cons_of_mem _ z
  intro k
  induction k with
  | zero =>
    intro i s hk hi st hS hR
    obtain rfl : i = n := by omega
    refine codeAny_builtin PyProof.Rows.F.entry_set_update_loop ?_
    rw [Around.under_plainId PyProof.Rows.F.plain_set_update_loop _]
    show wpAny _ A.in1 (pyNext (.ref I) >>= _) _ _ s
    refine wpAny_bind (W.done s _ _ st fun s' mv => ?_)
    show wpAny _ A.in1 (ret Value.none) _ _ s'
    refine wpAny_pure (hR s' (mv.mono sub) ?_)
    obtain ⟨o, es, ep, tb, ho, rest⟩ := hS
    exact ⟨o, es, ep, tb, mv.heap S _ nSw ho, rest⟩
  | succ k ih =>
    intro i s hk hi st hS hR
    have lt : i < n := by omega
    have lx : i < xs.length := by omega
    refine codeAny_builtin PyProof.Rows.F.entry_set_update_loop ?_
    rw [Around.under_plainId PyProof.Rows.F.plain_set_update_loop _]
    show wpAny _ A.in1 (pyNext (.ref I) >>= _) _ _ s
    refine wpAny_bind (W.item i s _ _ lt st fun v s' hP st' mv => ?_)
    obtain ⟨t, rfl⟩ := hval i v hP
    have hx : xs.getD i Str.empty = xs[i] := by rw [List.getD_eq_getElem?_getD, List.getElem?_eq_getElem lx]; rfl
    rw [hx]
    have hS' : SetStr prog w s'.heap S (distS (xs.take i)) := by
      obtain ⟨o, es, ep, tb, ho, rest⟩ := hS
      exact ⟨o, es, ep, tb, mv.heap S _ nSw ho, rest⟩
    show wpAny _ A.in1 (holding [Value.str xs[i] t] (setAdd S (.str xs[i] t)) >>= _) _ _ s'
    refine wpAny_bind (wpAny_holding ?_)
    unfold setAdd
    refine wpAny_holding (wpAny_bind ((PySem.strKind prog w).pyHash (k := xs[i]) (strKind_is _ _ _ _) ?_))
    have room : (distS (xs.take i)).length + 1 < scanBound := by
      have := dist_le xs i (by omega)
      omega
    refine wpAny_setAddHashed_of (knd := PySem.strKind prog w) (s := { s' with toks := s'.toks + 1 }) (strKind_is _ _ _ _) rfl hS' room fun h' sb hS2 => ?_
    have hS3 : SetStr prog w h' S (distS (xs.take (i + 1))) := by
      refine SetOf_congr hS2 (fun k' => ?_) ?_
      · rw [dist_step lx, any_mem]
        split
        · rename_i hm
          rw [any_mem]
          by_cases e : k' = xs[i]
          · rw [e]
            simp [hm]
          · simp [e]
        · rw [any_mem]
          by_cases e : k' = xs[i]
          · simp [e]
          · simp [e]
      · rw [dist_step lx, any_mem]
        by_cases hm : xs[i] ∈ distS (xs.take i)
        · rw [if_pos hm, if_pos (by simpa using hm)]
        · rw [if_neg hm, if_neg (by simpa using hm), List.length_append, List.length_singleton]
    refine wpAny_pure ⟨plainId_quiet PyProof.Rows.F.plain_set_update_loop _, ih (i + 1) _ (by omega) lt (W.frame _ s' _ _ st' (Nat.le_succ _) fun b hb o e => ?_) hS3 fun s'' mv2 hS4 => ?_⟩
    · rw [sb.2 b fun z : b = S => hSf (by rw [← z]; exact hb)]
      exact e
    · refine hR s'' (Moved.trans W.gtrans ((mv.mono sub).then_heap (Nat.le_succ _) fun b o hb e => ?_) mv2) hS4
      rw [sb.2 b fun z : b = S => hb (by rw [z]; exact List.mem_cons_self)]
      exact e
end
section
variable {prog : Program} {w : World} {A : Around} {E : Value → Shared → Prop} {s : Shared}
theorem set_texts {l : Addr} {items : Array Value} {xs : List Str} {Q : Value → Shared → Prop} (hh : A.handled = none) (hl : s.heap.IsList l items) (hi : PyProof.Rows.StrsAre items.toList xs) (hb : items.size + 1 < scanBound)
    (h : ∀ (h' : Heap) (tk : Nat), SetStr prog w h' s.heap.objs.size (distS xs) → (∀ b o, b < s.heap.objs.size → s.heap.get? b = some o → h'.get? b = some o) → Q (.ref s.heap.objs.size) { s with heap := h', toks := tk }) :
    wpAny (model prog w) A (call (.type "set") [.ref l]) Q E s := by
  obtain ⟨c0, tl, mro0⟩ := PySem.F.called_set.mro
  have made0 := PySem.F.called_set.made
  have sub0 := PySem.F.called_set.sub
  have xsz : xs.length = items.size := by rw [← StrsAre.len_eq hi, Array.length_toList]
  refine wpAny_call (codeAny_of_tree ?_)
  show wpAny _ _ (callAny (.type "set") _) _ _ _
  refine wpAny_pure ⟨Code.quiet_builtin _ (by decide +kernel), codeAny_builtin PySem.F.entry_type_call ?_⟩
  rw [Around.under_plain (weight_type_call_type "set" [.ref l] []) rfl]
  have nt0 := PySem.F.called_set.notType
  have cc0 := PySem.F.called_set.canCreate
  have ct0 := PySem.F.typeCall_set_1 (.ref l)
  repeat (any_goals (first | assumption | wp_step))
  refine codeAny_mono (code_set_new_1 (.ref l) (E := E) (Q₁ := fun ob s₁ => ∃ led : Bool, ob = .ref s.heap.objs.size ∧ s₁ = { s with heap := s.heap.push { cls := .type "set", dict := none, data := .set #[] 0 (.fresh 0 0 led) } }) fun led => ⟨led, rfl, rfl⟩) fun r s₁ hr => ?_
  cases r with
  | error e => exact hr
  | ok fl =>
    cases fl with
    | ret ob =>
      obtain ⟨led, rfl, rfl⟩ := hr
      have gS : (s.heap.push { cls := .type "set", dict := none, data := .set #[] 0 (.fresh 0 0 led) }).get? s.heap.objs.size = some { cls := .type "set", dict := none, data := .set #[] 0 (.fresh 0 0 led) } := Heap.get?_push_size _ rfl
      have tS : Shared.TypeIs { s with heap := s.heap.push { cls := .type "set", dict := none, data := .set #[] 0 (.fresh 0 0 led) } } (.ref s.heap.objs.size) "set" := ⟨_, gS, rfl⟩
      have il0 := PySem.F.called_set.init.lookup
      have ib0 := PySem.F.called_set.init.bind (.ref s.heap.objs.size)
      repeat (any_goals (first | assumption | wp_step))
      refine codeAny_mono (codeAny_call_builtin (R := wants (fun r s₂ => r = .none ∧ ∃ h' tk, s₂ = { s with heap := h', toks := tk } ∧ SetStr prog w h' s.heap.objs.size (distS xs) ∧
          (∀ b o, b < s.heap.objs.size → s.heap.get? b = some o → h'.get? b = some o)) E) PySem.F.called_set.init.plain PySem.F.entry_set_init (check_set_init_1 tS ?_)) fun r₂ s₂ hr₂ => ?_
      · obtain ⟨ol, gl, cl, nl, dl⟩ := hl
        obtain ⟨ocls, odict, odata, oslots⟩ := ol
        simp only at cl dl
        subst cl dl
        have gl' : (s.heap.push { cls := .type "set", dict := none, data := .set #[] 0 (.fresh 0 0 led) }).get? l = some { cls := .type "list", dict := odict, data := .seq items nl, slots := oslots } := Heap.get?_push_of_some _ gl
        have ls0 := PySem.F.sub_list_set
        have lf0 := PySem.F.sub_list_frozenset
        have ne0 : (Value.type "list" == Value.type "dict") = false := by decide
        have l1 : (s.heap.push { cls := .type "set", dict := none, data := .set #[] 0 (.fresh 0 0 led) }).IsList l items := ⟨_, gl', rfl, nl, rfl⟩
        unfold Builtin.«set.__init__» noKeywords Builtin.Frozenset.updateFrom
        generalize hPI : pyIter = PI
        wp_walk
        subst hPI
        refine wpAny_pyIter_list l1 ?_
        refine wpAny_bind (wpAny_runValue ?_)
        have lS : l < s.heap.objs.size := Heap.lt_size gl
        have h3 : A.in1.in1.in1.handled = none := by simp [hh]
        have nI : l ≠ (s.heap.push { cls := .type "set", dict := none, data := .set #[] 0 (.fresh 0 0 led) }).objs.size := by
          rw [Heap.size_push]
          exact Nat.ne_of_lt (Nat.lt_succ_of_lt lS)
        have nS : s.heap.objs.size ∉ [(s.heap.push { cls := .type "set", dict := none, data := .set #[] 0 (.fresh 0 0 led) }).objs.size, l] := by
          rw [Heap.size_push]
          simp only [List.mem_cons, List.not_mem_nil, or_false, not_or]
          exact ⟨Nat.ne_of_lt (Nat.lt_succ_self _), Nat.ne_of_gt lS⟩
        have val0 : ∀ (i : Nat) (v : Value), items[i]? = some v → ∃ t, v = .str (xs.getD i Str.empty) t := fun i v hv => SS.strs_at hi i v (by rw [Array.getElem?_toList]; exact hv)
        refine loop_texts ((Walks.list h3 _ l nI items).toS) s.heap.objs.size nS xs xsz hb val0 (items.size - 0) 0 _ (by omega) (Nat.zero_le _) ⟨⟨_, Heap.get?_push_size _ rfl, rfl, rfl⟩, (l1.push _)⟩ ?hS0 ?hR
        case hS0 =>
          have g2 : ((s.heap.push { cls := .type "set", dict := none, data := .set #[] 0 (.fresh 0 0 led) }).push { cls := .type "list_iterator", data := .fields #[.ref l, .int 0 0] }).get? s.heap.objs.size = some { cls := .type "set", dict := none, data := .set #[] 0 (.fresh 0 0 led) } := Heap.get?_push_of_some _ gS
          exact PyProof.Rows.SetOf_congr ((PyProof.Rows.setObjOf_fresh (knd := PySem.strKind prog w) led).setOf g2 (by unfold scanBound; omega)) (fun _ => rfl) rfl
        case hR =>
          intro s' mv hS'
          obtain ⟨h', g', d', tk', os'⟩ := s'
          obtain rfl : g' = s.gens := mv.gens
          obtain rfl : d' = s.drawn := mv.drawn
          obtain rfl : os' = s.os := mv.os
          show wpAny _ _ _ _ _ _
          refine wpAny_pure ?_
          show wpAny _ _ (ret Value.none) _ _ _
          rw [← xsz, List.take_length] at hS'
          refine wpAny_pure ⟨rfl, h', tk', rfl, hS', fun b o hb e => ?_⟩
          have b2 : b ≠ (s.heap.push { cls := .type "set", dict := none, data := .set #[] 0 (.fresh 0 0 led) }).objs.size := by
            rw [Heap.size_push]
            exact Nat.ne_of_lt (Nat.lt_succ_of_lt hb)
          exact mv.heap b o (by simp only [List.mem_cons, List.not_mem_nil, or_false, not_or]; exact ⟨Nat.ne_of_lt hb, b2⟩) (Heap.get?_push_of_some _ (Heap.get?_push_of_some _ e))
      · cases r₂ with
        | error e => exact hr₂
        | ok fl₂ =>
          cases fl₂ with
          | ret r =>
            obtain ⟨rfl, h', tk, rfl, hS', hk'⟩ := hr₂
            repeat (any_goals (first | assumption | wp_step))
            exact h _ _ hS' hk'
          | _ => exact hr₂.elim
    | _ => exact hr.elim
end
end DL

/-! DU: len(set(xs)) as an expression -/
namespace DL
open PySem PySem.Spec PyProof.Rows L2 Evl

section
variable {T : Tb} {L : Nat} {W : WX} {X : Cx} {ow : List Nat}
theorem c_lrng (G : Good T L W X) {a : E} {y : Expr} {p p2 q pos : Pos} (g1 : Gl X "list") (g2 : Gl X "range") (ns : noStar y = true) (he : PE X y (rdE T X.K (owf ow) W a)) :
    PE X (.Call (.Name "list" p) [.Call (.Name "range" p2) [y] [] q] [] pos) (rdE T X.K (owf ow) W (.lrng a)) :=
  (pe_listRg G.calm g1 (G.tab.free .list) (prg_1 g2 G.tab.range he (star_of ns))).imp fun σ H Q h => by
    obtain ⟨B, O, ρ, xk, Qd, f, hq, hf⟩ := h
    refine ⟨B, O, ρ, xk, _, f, (show wpE T xk a ρ fun x => ∃ n, x = .int n ∧ 0 ≤ n ∧ n ≤ 16777216 ∧ Qd (.lst ((List.range n.toNat).map fun (k : Nat) => .int (0 + (k : Int)))) from hq), fun d hd v H1 e1 r1 => ?_⟩
    obtain ⟨n, rfl, h0, h1, q⟩ := hd
    refine ⟨n, rb_int r1.1, RgOk.of_le (Int.le_refl 0) h1 (by omega) h0, fun p hp => hf _ q _ _ ((e1.trans (Ex.new hp)).le (Nat.le_refl _)) (Res.of (rep_lst ((f.fr.ex e1).fresh hp) ?_ hp) rfl)⟩
    unfold rgV
    rw [Int.sub_zero]
    exact repL_map (f := fun k : Nat => D.int (0 + (k : Int))) (g := fun k : Nat => V.int (0 + (k : Nat))) (fun _ => rfl) _
theorem c_lenset (G : Good T L W X) {a : E} {y : Expr} {p p2 q pos : Pos} (g1 : Gl X "len") (g2 : Gl X "set") (ns : noStar y = true) (he : PE X y (rdE T X.K (owf ow) W a)) :
    PE X (.Call (.Name "len" p) [.Call (.Name "set" p2) [y] [] q] [] pos) (rdE T X.K (owf ow) W (.lenset a)) := by
  refine ⟨fun pins s σ H Q I h => Call_ (ld_blt I g1 (G.tab.free .len) PySem.boot_len ?_)⟩
  obtain ⟨B, O, ρ, xk, Qd, f, hq, hf⟩ := h
  refine PyProof.Rows.callWith_builtin1 (PyProof.Rows.args_cons (Call_ (ld_blt I g2 G.tab.set boot_set ?_)) rfl) rfl rfl
  refine PyProof.Rows.callWith_type1 (PyProof.Rows.args_cons (thn (he.run pins s σ H (fun v H1 => ∃ l ss, v = .ref l ∧ H1 l = some (.lst (ss.map V.str)) ∧ ss.length ≤ 4000 ∧ Q (.int (distS ss).length) H1) I ?_) fun v s1 ⟨x, H1, I1, r1, q1⟩ => PyProof.Rows.args_nil ?_) (star_of ns)) (star_of ns) rfl
  · refine ⟨B, O, ρ, xk, _, f, (show wpE T xk a ρ fun x => ∃ ss : List Str, x = .lst (ss.map .str) ∧ ss.length ≤ 4000 ∧ Qd (.int (distS ss).length) from hq), fun d hd v H1 e1 r1 => ?_⟩
    obtain ⟨ss, rfl, h1, h2⟩ := hd
    obtain ⟨l, vs, rfl, hl, rl⟩ := rb_lst r1.1
    obtain rfl := repL_of_map (f := D.str) (g := V.str) (fun _ _ z => z) rl
    exact ⟨l, ss, rfl, hl, h1, hf _ h2 _ H1 e1 (Res.of rfl rfl)⟩
  · obtain ⟨l, ss, rfl, hl, h1, h2⟩ := q1
    cases r1
    obtain ⟨its, r, pl, hz⟩ := I1.list (.inl (.inl hl))
    have hn : its.toArray.size = ss.length := by rw [List.size_toArray, ← r.length, List.length_map]
    refine set_texts (I1.ok.hd G.calm) pl.isList (by simpa using strsAre_of r) (by rw [hn]; unfold scanBound; omega) fun h' tk hS hk => PyProof.Rows.args_nil ?_
    have dl := dist_le ss ss.length (Nat.le_refl _)
    rw [List.take_length] at dl
    obtain ⟨o, es, ep, t, ho, hex, hd, _, _, _, hfit, hcount⟩ := hS
    have I2 : Inv X pins σ H1 { s1 with heap := h', toks := tk } := I1.kept fun b o e => hk b o (Heap.lt_size e) e
    exact call_len_set ho hex hd hfit (by rw [hcount]; omega) ⟨.int (distS ss).length, H1, I2.tok _, ⟨_, by rw [hcount]⟩, h2⟩
end
end DL

/-! DJ: dict(zip(t, u)) of two tuples -/
namespace DL
open PySem PySem.Spec PyProof.Rows L2 Evl RZ

section
variable {prog : Program} {w : World} {A : Around} {E : Value → Shared → Prop} {s : Shared}
theorem zh_item {z ti to T j1 j2 t1 t2 : Addr} {f : Bool} {oT : Obj} {m1 m2 : Nat} {us vs : Array Value} {x y : Value} {Q : Value → Shared → Prop} (Z : ZipApart z ti to j1 j2 t1 t2)
    (ez : IsZipHeld s.heap z ti to T f) (eT : s.heap.get? T = some oT) (eti : IsPair s.heap ti (.ref j1) (.ref j2)) (e1 : s.heap.IsTupleIter j1 t1 m1) (e2 : s.heap.IsTupleIter j2 t2 m2) (g1 : s.heap.IsTuple t1 us) (g2 : s.heap.IsTuple t2 vs) (ex : us[m1]? = some x) (ey : vs[m2]? = some y)
    (q : ∀ h', IsZipHeld h' z ti to T true → h'.IsTupleIter j1 t1 (m1 + 1) → h'.IsTupleIter j2 t2 (m2 + 1) → IsPair h' s.heap.objs.size x y → h'.objs.size = s.heap.objs.size + 1 →
      (∀ c o, c ≠ z → c ≠ j1 → c ≠ j2 → s.heap.get? c = some o → h'.get? c = some o) → Q (.ref s.heap.objs.size) { s with heap := h' }) :
    wpAny (model prog w) A (Builtin.«zip.__next__» ⟨[.ref z], []⟩) (fun r s' => ∃ v, r = .done (.ret v) ∧ Q v s') E s := by
  show wpAny _ _ (field (.ref z) 2 >>= _) _ _ _
  refine wpAny_bind (wpAny_field ez rfl (x := .bool false) rfl ?_)
  show wpAny _ _ (field (.ref z) 3 >>= _) _ _ _
  refine wpAny_bind (wpAny_field ez rfl (x := .ref ti) rfl (wpAny_bind (wpAny_seqItems eti rfl ?_)))
  show wpAny _ _ (Builtin.SmallTypes.ownedTupleIsFree (.ref z) >>= _) _ _ _
  refine wpAny_bind (wpAny_tupleHeld_zip ez eT fun ha za sa => ?_)
  simp only [Bool.false_eq_true, if_false]
  refine wpAny_bind ?_
  rw [← Array.forIn_toList]
  simp only [List.forIn_cons, List.forIn_nil]
  refine wpAny_bind (wpAny_bind (wpAny_holding ?_))
  show wpAny _ _ (Builtin.SmallTypes.nextOf (.ref j1) >>= _) _ _ _
  refine wpAny_bind (nextOf_tuple_item (s := { s with heap := ha }) (e1.extBut sa.extBut Z.i1z) (g1.extBut sa.extBut Z.l1z) ex fun hb b1 sb => wpAny_pure (wpAny_pure ?_))
  refine wpAny_bind (wpAny_bind (wpAny_holding ?_))
  show wpAny _ _ (Builtin.SmallTypes.nextOf (.ref j2) >>= _) _ _ _
  refine wpAny_bind (nextOf_tuple_item (s := { s with heap := hb }) ((e2.extBut sa.extBut Z.i2z).extBut sb.extBut Z.i12.symm) ((g2.extBut sa.extBut Z.l2z).extBut sb.extBut Z.l2i1) ey fun hc c2 sc => wpAny_pure (wpAny_pure (wpAny_pure ?_)))
  show wpAny _ _ (newTuple [x, y] >>= _) _ _ _
  refine wpAny_bind (wpAny_newTuple (wpAny_pure ⟨_, rfl, ?_⟩))
  have size : hc.objs.size = s.heap.objs.size := by rw [sc.1, sb.1, sa.1]
  have zc : IsZipHeld hc z ti to T true := sc.extBut _ _ Z.i2z.symm (sb.extBut _ _ Z.i1z.symm za)
  have kp : ∀ c o, c ≠ z → c ≠ j1 → c ≠ j2 → s.heap.get? c = some o → hc.get? c = some o := fun c o n1 n2 n3 e => sc.extBut _ _ n3 (sb.extBut _ _ n2 (sa.extBut _ _ n1 e))
  have c1 : hc.IsTupleIter j1 t1 (m1 + 1) := b1.extBut sc.extBut Z.i12
  show Q (.ref hc.objs.size) _
  have pr : IsPair (hc.push { cls := .type "tuple", data := .seq #[x, y] }) hc.objs.size x y := Heap.get?_push_size _ rfl
  have sz : (hc.push { cls := .type "tuple", data := .seq #[x, y] }).objs.size = hc.objs.size + 1 := Heap.size_push ..
  rw [size] at pr sz ⊢
  exact q _ (Heap.get?_push_of_some _ zc) (c1.at fun o e => Heap.get?_push_of_some _ e) (c2.at fun o e => Heap.get?_push_of_some _ e) pr sz fun c o n1 n2 n3 e => Heap.get?_push_of_some _ (kp c o n1 n2 n3 e)
theorem zh_end {z ti to T j1 j2 t1 t2 : Addr} {f : Bool} {oT : Obj} {m1 m2 : Nat} {us vs : Array Value} {Q : PySem.Fin → Shared → Prop} (hh : A.handled = none) (Z : ZipApart z ti to j1 j2 t1 t2)
    (ez : IsZipHeld s.heap z ti to T f) (eT : s.heap.get? T = some oT) (eti : IsPair s.heap ti (.ref j1) (.ref j2)) (e1 : s.heap.IsTupleIter j1 t1 m1) (e2 : s.heap.IsTupleIter j2 t2 m2) (g1 : s.heap.IsTuple t1 us) (g2 : s.heap.IsTuple t2 vs) (no : us[m1]? = none ∨ vs[m2]? = none)
    (q : ∀ h' e, (∀ c o, c ≠ z → c ≠ j1 → c ≠ j2 → s.heap.get? c = some o → h'.get? c = some o) → (∃ o, h'.get? e = some o ∧ o.cls = .type "StopIteration") → E (.ref e) { s with heap := h' }) :
    wpAny (model prog w) A (Builtin.«zip.__next__» ⟨[.ref z], []⟩) Q E s := by
  show wpAny _ _ (field (.ref z) 2 >>= _) _ _ _
  refine wpAny_bind (wpAny_field ez rfl (x := .bool false) rfl ?_)
  show wpAny _ _ (field (.ref z) 3 >>= _) _ _ _
  refine wpAny_bind (wpAny_field ez rfl (x := .ref ti) rfl (wpAny_bind (wpAny_seqItems eti rfl ?_)))
  show wpAny _ _ (Builtin.SmallTypes.ownedTupleIsFree (.ref z) >>= _) _ _ _
  refine wpAny_bind (wpAny_tupleHeld_zip ez eT fun ha za sa => ?_)
  simp only [Bool.false_eq_true, if_false]
  refine wpAny_bind ?_
  rw [← Array.forIn_toList]
  simp only [List.forIn_cons, List.forIn_nil]
  refine wpAny_bind (wpAny_bind (wpAny_holding ?_))
  show wpAny _ _ (Builtin.SmallTypes.nextOf (.ref j1) >>= _) _ _ _
  cases ex : us[m1]? with
  | none => exact wpAny_bind (nextOf_tuple_end (s := { s with heap := ha }) hh (e1.extBut sa.extBut Z.i1z) (g1.extBut sa.extBut Z.l1z) ex fun hb e sb he => q hb e (fun c o n1 n2 _ x => sb _ _ n2 (sa.extBut _ _ n1 x)) he)
  | some x =>
    have ey : vs[m2]? = none := no.resolve_left fun h => by rw [ex] at h; cases h
    refine wpAny_bind (nextOf_tuple_item (s := { s with heap := ha }) (e1.extBut sa.extBut Z.i1z) (g1.extBut sa.extBut Z.l1z) ex fun hb b1 sb => wpAny_pure (wpAny_pure ?_))
    refine wpAny_bind (wpAny_bind (wpAny_holding ?_))
    show wpAny _ _ (Builtin.SmallTypes.nextOf (.ref j2) >>= _) _ _ _
    exact wpAny_bind (nextOf_tuple_end (s := { s with heap := hb }) hh ((e2.extBut sa.extBut Z.i2z).extBut sb.extBut Z.i12.symm) ((g2.extBut sa.extBut Z.l2z).extBut sb.extBut Z.l2i1) ey fun hc e sc he => q hc e (fun c o n1 n2 n3 x => sc _ _ n3 (sb.extBut _ _ n2 (sa.extBut _ _ n1 x))) he)
theorem zh_next {z ti to T j1 j2 t1 t2 : Addr} {f : Bool} {oT : Obj} {m1 m2 : Nat} {us vs : Array Value} {x y : Value} {Q : Option Value → Shared → Prop} (Z : ZipApart z ti to j1 j2 t1 t2)
    (ez : IsZipHeld s.heap z ti to T f) (eT : s.heap.get? T = some oT) (eti : IsPair s.heap ti (.ref j1) (.ref j2)) (e1 : s.heap.IsTupleIter j1 t1 m1) (e2 : s.heap.IsTupleIter j2 t2 m2) (g1 : s.heap.IsTuple t1 us) (g2 : s.heap.IsTuple t2 vs) (ex : us[m1]? = some x) (ey : vs[m2]? = some y)
    (q : ∀ h', IsZipHeld h' z ti to T true → h'.IsTupleIter j1 t1 (m1 + 1) → h'.IsTupleIter j2 t2 (m2 + 1) → IsPair h' s.heap.objs.size x y → h'.objs.size = s.heap.objs.size + 1 →
      (∀ c o, c ≠ z → c ≠ j1 → c ≠ j2 → s.heap.get? c = some o → h'.get? c = some o) → Q (some (.ref s.heap.objs.size)) { s with heap := h' }) : wpAny (model prog w) A (pyNext (.ref z)) Q E s := by
  have tz : s.TypeIs (.ref z) "zip" := ⟨_, ez, rfl⟩
  unfold pyNext
  exact wpAny_bind (wpAny_attempt (wpAny_callSpecial?_slot (name := Str.ofString "__next__") tz PySem.F.slot_zip_next (wpAny_call_entry PySem.F.slot_zip_next tz PySem.F.entry_zip_next (zh_item Z ez eT eti e1 e2 g1 g2 ex ey fun h' a b c d e g => wpAny_pure (q h' a b c d e g)) (PySem.F.args_zip_next_1 _))))
theorem zh_done {z ti to T j1 j2 t1 t2 : Addr} {f : Bool} {oT : Obj} {m1 m2 : Nat} {us vs : Array Value} {Q : Option Value → Shared → Prop} (hh : A.handled = none) (Z : ZipApart z ti to j1 j2 t1 t2)
    (ez : IsZipHeld s.heap z ti to T f) (eT : s.heap.get? T = some oT) (eti : IsPair s.heap ti (.ref j1) (.ref j2)) (e1 : s.heap.IsTupleIter j1 t1 m1) (e2 : s.heap.IsTupleIter j2 t2 m2) (g1 : s.heap.IsTuple t1 us) (g2 : s.heap.IsTuple t2 vs) (no : us[m1]? = none ∨ vs[m2]? = none)
    (q : ∀ h', (∀ c o, c ≠ z → c ≠ j1 → c ≠ j2 → s.heap.get? c = some o → h'.get? c = some o) → Q none { s with heap := h' }) : wpAny (model prog w) A (pyNext (.ref z)) Q E s := by
  have tz : s.TypeIs (.ref z) "zip" := ⟨_, ez, rfl⟩
  unfold pyNext
  refine wpAny_bind (wpAny_attempt (wpAny_callSpecial?_slot (name := Str.ofString "__next__") tz PySem.F.slot_zip_next (wpAny_call_entry PySem.F.slot_zip_next tz PySem.F.entry_zip_next (zh_end hh Z ez eT eti e1 e2 g1 g2 no fun h' e kp he => ?_) (PySem.F.args_zip_next_1 _))))
  obtain ⟨o, ho, hc⟩ := he
  exact wpAny_bind (wpAny_isInstance (T := "StopIteration") (b := true) ⟨o, ho, hc⟩ isSubtype_stop (wpAny_pure (q _ kp)))
end
section
variable {prog : Program} {w : World}
theorem arg_zipT (z ti to j1 j2 t1 t2 : Addr) (Z : ZipApart z ti to j1 j2 t1 t2) (us vs : Array Value) :
    PairArg prog w "zip" z [z, ti, to, j1, j2, t1, t2] [z, to, j1, j2] (min us.size vs.size) (fun i k v => us[i]? = some k ∧ vs[i]? = some v)
      (fun h => IsZip h z ti to .none ∧ IsPair h ti (.ref j1) (.ref j2) ∧ (∃ a b, IsPair h to a b) ∧ h.IsTupleIter j1 t1 0 ∧ h.IsTupleIter j2 t2 0 ∧ h.IsTuple t1 us ∧ h.IsTuple t2 vs) where
  type := fun s ok => ⟨_, ok.1, rfl⟩
  notDict := by decide
  keep := fun h h' ok kp => by
    obtain ⟨q1, q2, ⟨a, b, q3⟩, q4, q5, q6, q7⟩ := ok
    exact ⟨kp _ _ q1, kp _ _ q2, ⟨a, b, kp _ _ q3⟩, q4.at fun o e => kp _ o e, q5.at fun o e => kp _ o e, q6.at fun o e => kp _ o e, q7.at fun o e => kp _ o e⟩
  there := fun h ok b hb => by
    obtain ⟨q1, q2, ⟨a, c, q3⟩, ⟨o4, q4, _⟩, ⟨o5, q5, _⟩, ⟨o6, q6, _⟩, ⟨o7, q7, _⟩⟩ := ok
    simp only [List.mem_cons, List.not_mem_nil, or_false] at hb
    rcases hb with rfl | rfl | rfl | rfl | rfl | rfl | rfl
    all_goals first | exact ⟨_, q1⟩ | exact ⟨_, q2⟩ | exact ⟨_, q3⟩ | exact ⟨_, q4⟩ | exact ⟨_, q5⟩ | exact ⟨_, q6⟩ | exact ⟨_, q7⟩
  sub := fun b hb => by simp at hb ⊢; rcases hb with rfl | rfl | rfl | rfl <;> simp
  noKeys := fun A s Q E hA ok h => getAttrOr_miss_zip ok.1 rfl rfl rfl zip_no_keys (by decide +kernel) hA h
  iter := fun A s d Q E hA ok hd hdf h => by
    obtain ⟨q1, q2, ⟨a, b, q3⟩, q4, q5, q6, q7⟩ := ok
    simp only [List.mem_cons, List.not_mem_nil, or_false, not_or] at hdf
    obtain ⟨dz, dti, dto, d1, d2, dt1, dt2⟩ := hdf
    refine wpAny_pyIter_zip q1 (h z [z, to, j1, j2] (fun i h => IsPair h ti (.ref j1) (.ref j2) ∧ h.IsTupleIter j1 t1 i ∧ h.IsTupleIter j2 t2 i ∧ h.IsTuple t1 us ∧ h.IsTuple t2 vs ∧
      ((IsZip h z ti to .none ∧ ∃ a b, IsPair h to a b) ∨ ∃ T f oT, IsZipHeld h z ti to T f ∧ h.get? T = some oT ∧ T ≠ z ∧ T ≠ j1 ∧ T ≠ j2 ∧ T ≠ d)) s.heap s.toks ?_
      ⟨q2, q4, q5, q6, q7, .inl ⟨q1, a, b, q3⟩⟩ (fun _ _ e => e) fun b hb => .inl hb)
    exact {
      off := fun hm => by
        simp only [List.mem_cons, List.not_mem_nil, or_false] at hm
        rcases hm with e | e | e | e
        · exact dz e
        · exact dto e
        · exact d1 e
        · exact d2 e
      frame := fun i h₁ h₂ st kp => by
        obtain ⟨r2, r4, r5, r6, r7, rz⟩ := st
        refine ⟨kp _ _ (Ne.symm dti) r2, r4.at fun o e => kp _ o (Ne.symm d1) e, r5.at fun o e => kp _ o (Ne.symm d2) e, r6.at fun o e => kp _ o (Ne.symm dt1) e, r7.at fun o e => kp _ o (Ne.symm dt2) e, ?_⟩
        rcases rz with ⟨rz, a, b, r3⟩ | ⟨T, f, oT, rz, rT, n1, n2, n3, n4⟩
        · exact .inl ⟨kp _ _ (Ne.symm dz) rz, a, b, kp _ _ (Ne.symm dto) r3⟩
        · exact .inr ⟨T, f, oT, kp _ _ (Ne.symm dz) rz, kp _ _ n4 rT, n1, n2, n3, n4⟩
      item := fun i s₁ Q₁ E₁ hi st hds q => by
        obtain ⟨r2, r4, r5, r6, r7, rz⟩ := st
        have iu : i < us.size := Nat.lt_of_lt_of_le hi (Nat.min_le_left ..)
        have iv : i < vs.size := Nat.lt_of_lt_of_le hi (Nat.min_le_right ..)
        have eu := Array.getElem?_eq_getElem iu
        have ev := Array.getElem?_eq_getElem iv
        have lt : ∀ {c o}, s₁.heap.get? c = some o → s₁.heap.objs.size ≠ c := fun e => Nat.ne_of_gt (Heap.lt_size e)
        have l1 : s₁.heap.objs.size ≠ j1 := let ⟨_, e, _⟩ := r4; lt e
        have l2 : s₁.heap.objs.size ≠ j2 := let ⟨_, e, _⟩ := r5; lt e
        rcases rz with ⟨rz, a, b, r3⟩ | ⟨T, f, oT, rz, rT, n1, n2, n3, n4⟩
        · refine pyNext_zipT_item Z rz r2 r3 r4 r5 r6 r7 eu ev fun h' a1 a2 a3 a4 a5 a6 kp => ?_
          exact q s₁.heap.objs.size _ _ h' s₁.toks ⟨eu, ev⟩ (.inl ⟨_, a5, rfl, _, rfl⟩)
            ⟨kp _ _ Z.TIz Z.TITO Z.TIi1 Z.TIi2 r2, a3, a4, r6.at fun o e => kp _ o Z.l1z Z.l1TO Z.l1i1 Z.l1i2 e, r7.at fun o e => kp _ o Z.l2z Z.l2TO Z.l2i1 Z.l2i2 e, .inr ⟨s₁.heap.objs.size, false, _, a1, a5, lt rz, l1, l2, Nat.ne_of_gt hds⟩⟩
            fun c o hc e => kp c o (fun x => hc (by simp [x])) (fun x => hc (by simp [x])) (fun x => hc (by simp [x])) (fun x => hc (by simp [x])) e
        · refine zh_next Z rz rT r2 r4 r5 r6 r7 eu ev fun h' a1 a3 a4 a5 a6 kp => ?_
          exact q s₁.heap.objs.size _ _ h' s₁.toks ⟨eu, ev⟩ (.inl ⟨_, a5, rfl, _, rfl⟩)
            ⟨kp _ _ Z.TIz Z.TIi1 Z.TIi2 r2, a3, a4, r6.at fun o e => kp _ o Z.l1z Z.l1i1 Z.l1i2 e, r7.at fun o e => kp _ o Z.l2z Z.l2i1 Z.l2i2 e, .inr ⟨T, true, oT, a1, kp _ _ n1 n2 n3 rT, n1, n2, n3, n4⟩⟩
            fun c o hc e => kp c o (fun x => hc (by simp [x])) (fun x => hc (by simp [x])) (fun x => hc (by simp [x])) e
      done := fun s₁ Q₁ E₁ st q => by
        obtain ⟨r2, r4, r5, r6, r7, rz⟩ := st
        have no : us[min us.size vs.size]? = none ∨ vs[min us.size vs.size]? = none := by
          rcases Nat.le_total us.size vs.size with h | h
          · exact .inl (Array.getElem?_eq_none (by rw [Nat.min_eq_left h]; exact Nat.le_refl _))
          · exact .inr (Array.getElem?_eq_none (by rw [Nat.min_eq_right h]; exact Nat.le_refl _))
        rcases rz with ⟨rz, a, b, r3⟩ | ⟨T, f, oT, rz, rT, n1, n2, n3, n4⟩
        · exact pyNext_zipT_end hA Z rz r2 r3 r4 r5 r6 r7 no fun h' kp => q h' s₁.toks fun c o hc e => kp c o (fun x => hc (by simp [x])) (fun x => hc (by simp [x])) (fun x => hc (by simp [x])) (fun x => hc (by simp [x])) e
        · exact zh_done hA Z rz rT r2 r4 r5 r6 r7 no fun h' kp => q h' s₁.toks fun c o hc e => kp c o (fun x => hc (by simp [x])) (fun x => hc (by simp [x])) (fun x => hc (by simp [x])) e }
end
end DL

/-! DL: dict(zip(t, u)) as an expression -/
namespace DL
open PySem PySem.Spec PyProof.Rows L2 Evl RZ

theorem kv_fold : ∀ {ps : List (Key × V)} {qs : List (Key × Value)} {a : List (Key × V)} {b : List (Key × Value)}, KV a b → KV ps qs → KV (ps.foldl (fun acc p => putK acc p.1 p.2) a) (merged b qs)
  | [], [], a, b, h, _ => h
  | [], _ :: _, _, _, _, h => by cases h
  | _ :: _, [], _, _, _, h => by cases h
  | p :: ps, q :: qs, a, b, h, r => by
    cases r with
    | cons r1 r2 =>
      have e : merged b (q :: qs) = merged (stored b q.1 q.2) qs := rfl
      rw [e, List.foldl_cons]
      refine kv_fold ?_ r2
      rw [← r1.1]
      exact h.put _ r1.2
theorem putD_rep {K : PySem.W.Frag} {A : AP} {H : Hp} : ∀ {ks : List Key} {m : List D} {us : List V} {l : List (Key × D)} {a : List (Key × V)}, RepK K A H l a → RepL K A H m us → RepK K A H ((ks.zip m).foldl (fun acc p => putD acc p.1 p.2) l) ((ks.zip us).foldl (fun acc p => putK acc p.1 p.2) a)
  | [], m, us, l, a, h, _ => by simpa using h
  | k :: ks, [], us, l, a, h, r => by
    rw [show us = [] from r]
    simpa using h
  | k :: ks, d :: m, us, l, a, h, r => by
    obtain ⟨v, w, rfl, r1, r2⟩ := r
    have q := putD_rep (ks := ks) (m := m) (rep_putK (k := k) h r1) r2
    exact q
theorem pairs_have {P : Program} {w : World} : ∀ {ks : List Key} {us : List V} {xs ys : List Value}, Vals (ks.map kV) xs → Vals us ys → KV (ks.zip us) (ks.zip ys) ∧ ∀ (i : Nat) (key v : Value), xs[i]? = some key → ys[i]? = some v → ∃ k, (ks.zip ys)[i]? = some (k, v) ∧ (mixKind P w).is k key = true := by
  intro ks
  induction ks with
  | nil =>
    intro us xs ys h1 h2
    cases h1
    exact ⟨.nil, fun i key v e => by simp at e⟩
  | cons k ks ih =>
    intro us xs ys h1 h2
    cases h1 with
    | cons r1 t1 =>
      cases h2 with
      | nil => exact ⟨.nil, fun i key v _ e => by simp at e⟩
      | cons r2 t2 =>
        obtain ⟨q1, q2⟩ := ih t1 t2
        refine ⟨.cons ⟨rfl, r2⟩ q1, fun i key v e1 e2 => ?_⟩
        cases i with
        | zero =>
          simp at e1 e2
          subst e1 e2
          exact ⟨k, rfl, kV_is r1⟩
        | succ i =>
          simp at e1 e2
          obtain ⟨k', h1, h2⟩ := q2 i key v e1 e2
          exact ⟨k', by simpa using h1, h2⟩
end DL

namespace DL
open PySem PySem.Spec PyProof.Rows L2 Evl RZ
theorem putK_fold_len : ∀ (ps : List (Key × V)) (a : List (Key × V)), (ps.foldl (fun acc p => putK acc p.1 p.2) a).length ≤ a.length + ps.length
  | [], a => by simp
  | p :: ps, a => by
    have h1 := putK_fold_len ps (putK a p.1 p.2)
    have h2 := length_putK a p.1 p.2
    rw [List.foldl_cons, List.length_cons]
    omega
section
variable {T : Tb} {L : Nat} {W : WX} {X : Cx} {ow : List Nat}
theorem c_dictzip (G : Good T L W X) {a b : E} {y z : Expr} {p p2 q pos : Pos} (g1 : Gl X "dict") (g2 : Gl X "zip") (n1 : noStar y = true) (n2 : noStar z = true) (ha : PE X y (rdE T X.K (owf ow) W a)) (hb : PE X z (rdE T X.K (owf ow) W b)) :
    PE X (.Call (.Name "dict" p) [.Call (.Name "zip" p2) [y, z] [] q] [] pos) (rdE T X.K (owf ow) W (.dictzip a b)) := by
  refine ⟨fun pins s σ H Q I h => Call_ (ld_blt I g1 G.tab.dict boot_dict ?_)⟩
  obtain ⟨B, O, ρ, xk, Qd, f, hq, hf⟩ := h
  have f0 : FX X.K (owf ow) W xk B O (dcE T a + dcE T b) H σ ρ := f
  refine PyProof.Rows.callWith_type1 (PyProof.Rows.args_cons (Call_ (ld_blt I g2 G.tab.zip PyProof.Rows.boot_zip (PyProof.Rows.callWith_type1 (thn ((a_two n1 n2 ha hb).run q pins s σ H (fun vs H1 => ∃ (t u : Addr) (ks : List Key) (ws : List V) (m : List D) (l : List (Key × D)), vs = [.ref t, .ref u] ∧ SqT X.K H1 t (ks.map kV) ∧ SqT X.K H1 u ws ∧ RepL X.K (U B O) H1 m ws ∧ ks.length ≤ 4000 ∧ l = (ks.zip m).foldl (fun acc p => putD acc p.1 p.2) [] ∧ Qd (.dic l) ∧ Ex (dcE T a + dcE T b) H H1) I ?_) fun us s1 ⟨vs, H1, I1, r1, q1⟩ => ?_) (star_of n1) (by rw [star_of n2]; rfl)))) rfl) rfl rfl
  · refine ⟨B, O, ρ, xk, _, f0.l, (show wpE T xk a ρ fun x => wpE T xk b ρ fun y => ∃ l m ks, x = .tup l ∧ y = .tup m ∧ keyKs l = some ks ∧ l.length ≤ 4000 ∧ Qd (.dic ((ks.zip m).foldl (fun acc p => putD acc p.1 p.2) [])) from hq), fun dx hx v H1 e1 r1 => ⟨B, O, ρ, xk, _, f0.ex e1, hx, fun dy hy u H2 e2 r2 => ?_⟩⟩
    obtain ⟨l, m, ks, rfl, rfl, hk, hl, hq2⟩ := hy
    obtain ⟨t, ts, rfl, ht, rt⟩ := rb_tup (r1.1.ex e2)
    obtain ⟨t2, ws, rfl, ht2, rt2⟩ := rb_tup r2.1
    have ek := keyKs_rep hk rt
    subst ek
    have := RepL.length rt
    rw [List.length_map] at this
    exact ⟨t, t2, ks, ws, m, _, rfl, ht, ht2, rt2, by omega, rfl, hq2, e1.trans e2⟩
  · obtain ⟨t, t2, ks, ws, m, l, rfl, ht, ht2, rt2, hl, rfl, hq2, e12⟩ := q1
    obtain ⟨u1, u2, rfl, rv1, rv2⟩ := vals2 r1
    cases rv1
    cases rv2
    obtain ⟨its, rv, p1, z1⟩ := I1.tuple ht
    obtain ⟨its2, rv2, p2, _⟩ := I1.tuple ht2
    obtain ⟨o1, ho1, _⟩ := id p1
    obtain ⟨o2, ho2, _⟩ := id p2
    refine call_zipT (show s1.heap.IsTuple t its.toArray from p1) (show s1.heap.IsTuple t2 its2.toArray from p2) fun h1 hz hTI hTO i1 i2 hsz hk => PyProof.Rows.args_nil ?_
    obtain ⟨kv, ph⟩ := pairs_have (P := X.prog) (w := X.w) rv rv2
    have hl2 : its.length = ks.length := by rw [← rv.length, List.length_map]
    refine _root_.PySem.call_dict_pairs (s := { s1 with heap := h1 }) (knd := mixKind X.prog X.w) (kvs := ks.zip its2) (arg_zipT _ _ _ _ _ t t2 (PySem.W.ktu_apart s1.heap.objs.size t t2 (Heap.lt_size ho1) (Heap.lt_size ho2)) its.toArray its2.toArray) (I1.ok.hd G.calm) ⟨hz, hTI, ⟨_, _, hTO⟩, i1, i2, p1.keeps hk, p2.keeps hk⟩ ⟨by simp [hl2], fun i key v q => ph i key v (by simpa using q.1) (by simpa using q.2)⟩ (by rw [List.size_toArray, List.size_toArray]; exact Nat.le_trans (Nat.min_le_left _ _) (by rw [hl2]; rw [List.length_map] at z1; exact z1)) fun h' tk hd' hk' => ?_
    have k : ∀ b u, s1.heap.get? b = some u → h'.get? b = some u := fun b u e => hk' b u (fun hm => by
      have hb := Heap.lt_size e
      simp only [List.mem_cons, List.not_mem_nil, or_false] at hm
      rcases hm with z | z | z | z <;> (rw [z] at hb; first | exact absurd hb (Nat.not_lt.mpr (Nat.le_add_right _ _)) | exact absurd hb (Nat.lt_irrefl _))) (hk b u e)
    have hle : s1.heap.objs.size ≤ h1.objs.size := by omega
    have hm : (h1.objs.size == sysModules) = false := beq_eq_false_iff_ne.mpr (Nat.ne_of_gt (Nat.lt_of_lt_of_le I1.big hle))
    have kf := kv_fold (a := []) (b := []) .nil kv
    have hn := I1.hok.fresh hle
    have rk : RepK X.K (U B O) H1 ((ks.zip m).foldl (fun acc p => putD acc p.1 p.2) []) ((ks.zip ws).foldl (fun acc p => putK acc p.1 p.2) []) := putD_rep (l := []) (a := []) rfl rt2
    refine ⟨.ref h1.objs.size, L2.upd H1 h1.objs.size (.dK ((ks.zip ws).foldl (fun acc p => putK acc p.1 p.2) [])), I1.laid (t' := tk) k hle (show ObjOk X.prog X.w _ _ _ (.dK _) from ⟨?_, hm, _, kf, hd'⟩), rfl, ?_⟩
    · have q := putK_fold_len (ks.zip ws) ([] : List (Key × V))
      rw [List.length_zip] at q
      rw [List.length_map] at z1
      have := Nat.min_le_left ks.length ws.length
      exact Nat.le_trans q (by simp only [List.length_nil]; omega)
    · have fr := f0.fr.ex e12
      refine hf _ hq2 _ _ (by have := e12.trans (Ex.new (o := .dK ((ks.zip ws).foldl (fun acc p => putK acc p.1 p.2) [])) hn rfl); rwa [Nat.add_zero] at this) (Res.of (own_rep (d := .dic _) (fr.fresh hn) ⟨_, upd_same, RepK.keep (keeps_new hn) (grows_new hn) _ _ rk⟩) rfl)
end
end DL

/-! DP: objects: a field read, a method called, an object made -/
namespace DL
open PySem PySem.Spec PyProof.Rows L2 Evl

section
variable {K : PySem.W.Frag} {A : AP} {H : Hp} {v : V}
theorem rb_obj {c : Str} {l : List (Str × D)} (h : RepB K A H (.obj c l) v) : ∃ a dx fs, v = .ref a ∧ H a = some (.ins (He.ga K c) dx fs) ∧ RepF K A H l fs := by
  rcases h with h | ⟨_, _, h⟩
  · obtain ⟨a, dx, fs, e, _, h1, h2⟩ := h
    exact ⟨a, dx, fs, e, h1, h2⟩
  · obtain ⟨dx, fs, h1, h2⟩ := h
    exact ⟨_, dx, fs, by assumption, h1, h2⟩
theorem repF_look {f : Str} {d : D} : ∀ {l : List (Str × D)} {fs : List (Str × V)}, RepF K A H l fs → l.lookup f = some d → ∃ v, fs.lookup f = some v ∧ Rep K A H d v
  | [], _, _, e => by cases e
  | (k, x) :: l, fs, h, e => by
    obtain ⟨v, r, rfl, h1, h2⟩ := (show ∃ v r, fs = (k, v) :: r ∧ Rep K A H x v ∧ RepF K A H l r from h)
    by_cases q : (f == k) = true
    · rw [List.lookup_cons, q] at e
      cases e
      exact ⟨v, by rw [List.lookup_cons, q], h1⟩
    · rw [Bool.not_eq_true] at q
      rw [List.lookup_cons, q] at e
      obtain ⟨w, e1, e2⟩ := repF_look h2 e
      exact ⟨w, by rw [List.lookup_cons, q]; exact e1, e2⟩
theorem repF_none {f : Str} : ∀ {l : List (Str × D)} {fs : List (Str × V)}, RepF K A H l fs → l.lookup f = none → fs.lookup f = none
  | [], _, h, _ => by rw [show _ = [] from h]; rfl
  | (k, x) :: l, fs, h, e => by
    obtain ⟨v, r, rfl, h1, h2⟩ := (show ∃ v r, fs = (k, v) :: r ∧ Rep K A H x v ∧ RepF K A H l r from h)
    by_cases q : (f == k) = true
    · rw [List.lookup_cons, q] at e
      cases e
    · rw [Bool.not_eq_true] at q
      rw [List.lookup_cons, q] at e ⊢
      exact repF_none h2 e
end
section
variable {X : Cx} {k : Nat} {f C : Addr} {fd : FuncData} {ps : List Str} {sp : Sp} {E : L2.St → XK} {x m : Str} {p pos apos : Pos} {o e : Expr} {es : List Expr} {ta : TE} {t : TA}
theorem meth_eq {o : Expr} {m : Str} {apos pos : Pos} {args : List Expr} {env : Env} (hb : attributeBase o m env (eval o env) = eval o env) (hl : (apos.endLine == pos.line) = true) (ha : (backTo pos (starEach args env)).any (·.1) = false) (hn : args.length < 30) :
    eval (.Call (.Attribute o m apos) args [] pos) env = (do
      let ov ← eval o env
      standAt apos.atName
      let (f, first) ← holding [ov] (getMethod ov m (do return (← importBound o env).getD true))
      callWith pos f first (backTo pos (starEach args env)) (backToKw pos (keywordEach [] env))) := by
  have hf : methodCallForm (args.length + ([] : List Keyword).length) (backTo pos (starEach args env)) (backToKw pos (keywordEach [] env)) = true := by
    unfold methodCallForm
    have h1 : ((backTo pos (starEach args env)).all fun x => !x.1) = true := by
      rw [List.all_eq_true]
      intro x hx
      have := List.any_eq_false.mp ha x hx
      simpa using this
    have h2 : ((backToKw pos (keywordEach [] env)).all fun x => x.1.isSome) = true := rfl
    have h3 : (if (backToKw pos (keywordEach [] env)).isEmpty = true then 0 else 1) = 0 := rfl
    rw [h1, h2, h3]
    exact decide_eq_true (show args.length + 0 + 0 < 30 by omega)
  have hpos : methodCallPos true o env apos pos = pure pos := by unfold methodCallPos; simp [hl]
  rw [arm_eval_Call, hb]
  unfold methodCall
  rw [hf, hpos]
  rfl
def tMethG (C : Addr) (m : Str) (sp : Sp) (E : L2.St → XK) (ta : TE) (t : TA) : TE := fun σ H Q => ta σ H fun x H1 => ∃ a dx fs, x = .ref a ∧ H1 a = some (.ins C dx fs) ∧ fs.lookup m = none ∧ t σ H1 fun vs H2 => sp (x :: vs) H2 Q (E σ)
theorem pe_methG {pl : Sem Bool} (he : PE X o ta) (c : Cls X.K C) (hm : Meth X.K C m f) (F : FnG X.prog X.w X.K X.mg X.base k f fd ps sp) (hr : Room k X.A) (hgu : X.A.guards = some []) (hb : Binds X.K fd ps []) (hx : ∀ σ, PassesAt (L2N.CX X.prog X.w) X σ (E σ)) (ha : PA X (e :: es) t)
    (hst : starEach (e :: es) X.env = (false, eval e X.env) :: starEach es X.env) (hpl : (backTo pos (starEach es X.env)).any (·.1) = false)
    (ht : eval (.Call (.Attribute o m apos) (e :: es) [] pos) X.env = (do
      let ov ← eval o X.env
      standAt apos.atName
      let (f, first) ← holding [ov] (getMethod ov m pl)
      callWith pos f first (backTo pos (starEach (e :: es) X.env)) (backToKw pos (keywordEach [] X.env)))) :
    PE X (.Call (.Attribute o m apos) (e :: es) [] pos) (tMethG C m sp E ta t) := by
  refine ⟨fun pins s σ H Q I h => ?_⟩
  refine PySem.W.methodCall_KW (pl := pl) (thn (he.run pins s σ H _ I h) fun u s1 ⟨x, H1, I1, rx, a, dx, fs, ex, ea, l, q⟩ => ?_) ht
  subst ex
  obtain rfl : u = Value.ref a := rx
  refine getmeth_ok I1 ea c hm l ?_
  refine PySem.W.callWith_K (first := [.ref a]) (h₀ := X.base) I.ok.mod.kin hm.kp (thn (ha.run pos pins s1 σ H1 _ I1 q) fun us s2 ⟨vs, H2, I2, r, q2⟩ => ⟨I2.kIn, ?_⟩) hst hpl
  exact runG (us := .ref a :: us) (vs := .ref a :: vs) F hr hgu hb (hx σ) I2 (.cons rfl r) q2
theorem pe_meth0G {pl : Sem Bool} (he : PE X o ta) (c : Cls X.K C) (hm : Meth X.K C m f) (F : FnG X.prog X.w X.K X.mg X.base k f fd ps sp) (hr : Room k X.A) (hgu : X.A.guards = some []) (hb : Binds X.K fd ps []) (hx : ∀ σ, PassesAt (L2N.CX X.prog X.w) X σ (E σ))
    (ht : eval (.Call (.Attribute o m apos) [] [] pos) X.env = (do
      let ov ← eval o X.env
      standAt apos.atName
      let (f, first) ← holding [ov] (getMethod ov m pl)
      callWith pos f first (backTo pos (starEach [] X.env)) (backToKw pos (keywordEach [] X.env)))) :
    PE X (.Call (.Attribute o m apos) [] [] pos) (tMethG C m sp E ta tNil) := by
  refine ⟨fun pins s σ H Q I h => ?_⟩
  refine PySem.W.methodCall_KW (pl := pl) (thn (he.run pins s σ H _ I h) fun u s1 ⟨x, H1, I1, rx, a, dx, fs, ex, ea, l, q⟩ => ?_) ht
  subst ex
  obtain rfl : u = Value.ref a := rx
  refine getmeth_ok I1 ea c hm l ?_
  exact PySem.W.callWith_K0 (first := [.ref a]) I1.kIn hm.kp (runG (us := [.ref a]) (vs := [.ref a]) F hr hgu hb (hx σ) I1 (.cons rfl .nil) q)
theorem runMakeG {pins : List (Addr × Obj)} {σ : L2.St} {H : Hp} {s : Shared} {Q : VK} {us : List Value} {vs : List V} (M : Mk X.K C f) (F : FnG X.prog X.w X.K X.mg X.base k f fd ps sp) (hr : Room (k + 1) X.A) (hgu : X.A.guards = some []) (hb : Binds X.K fd ps [])
    (hx : PassesAt (L2N.CX X.prog X.w) X σ (E σ)) (I : Inv X pins σ H s) (r : Vals vs us)
    (h : ∀ x dx, H x = none → H dx = none → dx ≠ x → sp (.ref x :: vs) (upd (upd H dx (.own x)) x (.ins C dx [])) (fun v H2 => v = .non ∧ Q (.ref x) H2) (E σ)) :
    wpAny (model X.prog X.w) X.A (call (.ref C) us) (EP X pins σ Q) X.xe s := by
  have hq := h (s.heap.objs.size + 1) s.heap.objs.size (I.hok.fresh (Nat.le_succ _)) (I.hok.fresh (Nat.le_refl _)) (Nat.ne_of_lt (Nat.lt_succ_self _))
  have I2 := Inv.made (C := C) I
  have r2 : Vals (V.ref (s.heap.objs.size + 1) :: vs) (Value.ref (s.heap.objs.size + 1) :: us) := .cons rfl r
  have hl : (Value.ref (s.heap.objs.size + 1) :: us ++ ([] : List Value)).length = ps.length := by
    rw [List.append_nil, ← r2.length]
    exact F.len _ _ _ _ hq
  have b := hb _ (Value.ref (s.heap.objs.size + 1) :: us) I2.kIn hl
  rw [List.append_nil] at b
  refine wpAny_call (make_map (f := f) I.kIn M.makes M.init (beq_iff_eq.mp M.fn) (codeAny_mono (F.run _ X.stack _ _ ⟨Value.ref (s.heap.objs.size + 1) :: us, []⟩ (Value.ref (s.heap.objs.size + 1) :: us) _ _ (E σ) (hr.make C us []) hgu
    (I2.env0.make C us []) b r2 hq) fun r s' hq' => ?_))
  cases r with
  | error e => exact hx pins _ _ e s' I2 hq'
  | ok fl =>
    cases fl with
    | ret u =>
      obtain ⟨v, H', I3, rv, ev, q3⟩ := I2.after hq'
      subst ev
      exact ⟨rv, ⟨V.ref (s.heap.objs.size + 1), H', I3, rfl, q3⟩⟩
    | next => exact False.elim hq'
    | brk => exact False.elim hq'
    | cont => exact False.elim hq'
def tMakeG (C : Addr) (sp : Sp) (E : L2.St → XK) (t : TA) : TE := fun σ H Q => t σ H fun vs H1 => ∀ x dx, H1 x = none → H1 dx = none → dx ≠ x → sp (.ref x :: vs) (upd (upd H1 dx (.own x)) x (.ins C dx [])) (fun v H2 => v = .non ∧ Q (.ref x) H2) (E σ)
theorem pe_makeG (M : Mk X.K C f) (F : FnG X.prog X.w X.K X.mg X.base k f fd ps sp) (hr : Room (k + 1) X.A) (hgu : X.A.guards = some []) (hg : Gl X x) (hm : X.mg x = some (.ref C)) (hb : Binds X.K fd ps []) (hx : ∀ σ, PassesAt (L2N.CX X.prog X.w) X σ (E σ))
    (ha : PA X (e :: es) t) (hdb : (x == ("__debug__" : Str)) = false) (he : starEach (e :: es) X.env = (false, eval e X.env) :: starEach es X.env) (hpl : (backTo pos (starEach es X.env)).any (·.1) = false) :
    PE X (.Call (.Name x p) (e :: es) [] pos) (tMakeG C sp E t) :=
  ⟨fun pins s σ H Q I h => wpAny_Call_Name_kw (ld_glob I hg hm (PySem.W.callWith_K (h₀ := X.base) I.ok.mod.kin M.kp (thn (ha.run pos pins s σ H _ I h) fun us s1 ⟨vs, H1, I1, r, q⟩ => ⟨I1.kIn, runMakeG M F hr hgu hb (hx σ) I1 r q⟩) he hpl) hdb)⟩
end
section
variable {T : Tb} {L : Nat} {W : WX} {X : Cx} {ow : List Nat}
theorem any_of_cons {z : Expr} {zs : List Expr} {pos : Pos} {env : Env} (hs : noStar z = true ∧ zs.all noStar = true) : (backTo pos (starEach (z :: zs) env)).any (·.1) = false := by
  rw [star_of hs.1]
  show (false || (backTo pos (starEach zs env)).any (·.1)) = false
  rw [plain_args hs.2]
  rfl
theorem c_attr (G : Good T L W X) {c f : Str} {o : E} {y : Str} {p pos : Pos} (hf : T.fld c f = true) (he : PE X (.Name y p) (rdE T X.K (owf ow) W o)) : PE X (.Attribute (.Name y p) f pos) (rdE T X.K (owf ow) W (.attr c f o)) := by
  obtain ⟨cl, na⟩ := G.tab.fld c f hf
  refine (pe_fld he rfl).imp fun σ H Q h => ?_
  obtain ⟨B, O, ρ, xk, Qd, fx, hq, hk⟩ := h
  refine ⟨B, O, ρ, xk, _, fx, (show wpE T xk o ρ fun x => attrD c f x Qd from hq), fun d hd v H1 e1 r => ?_⟩
  unfold attrD at hd
  cases d with
  | obj c' l =>
    obtain ⟨rfl, d, e, q⟩ := hd
    obtain ⟨a, dx, fs, rfl, ha, rf⟩ := rb_obj r.1
    obtain ⟨v, ev, rv⟩ := repF_look rf e
    exact ⟨a, _, dx, fs, v, rfl, ha, cl, na, ev, hk d q v H1 e1 (Res.of rv rfl)⟩
  | _ => exact hd.elim
theorem c_mk (G : Good T L W X) {c : Str} {es : List E} {xs : List Expr} {p pos : Pos} (hf : (T.new c).isSome = true) (hg : Gl X c) (hd : c ≠ "__debug__") (h1 : 1 ≤ xs.length) (hs : xs.all noStar = true) (ho : es.all (fun e => !ownB e) = true)
    (h : PA X xs (rdEs T X.K (owf ow) W es)) : PE X (.Call (.Name c p) xs [] pos) (rdE T X.K (owf ow) W (.mk c es)) := by
  obtain ⟨e, he⟩ := Option.isSome_iff_exists.mp hf
  obtain ⟨fa, fd, ps, spI, hk, F, hm, M, hb, hsp⟩ := G.tab.new c e he
  have hcost : dcE T (.mk c es) = dcEs T es + e.c := by
    show dcEs T es + (match T.new c with
      | some e => e.c
      | none => 0) = _
    rw [he]
  cases xs with
  | nil => exact absurd h1 (by decide)
  | cons y ys =>
    rw [List.all_cons, Bool.and_eq_true] at hs
    refine (pe_makeG (E := fun σ cls d H => W cls d σ H) M F (G.room.mono hk) G.guards hg hm hb (L2N.passAt G.tk) h (beq_eq_false_iff_ne.mpr hd) (star_of hs.1) (plain_args hs.2)).imp fun σ H Q h => ?_
    obtain ⟨B, O, ρ, xk, Qd, f, hq, hf⟩ := h
    rw [hcost] at f hf
    refine ⟨B, O, ρ, xk, _, f.l, (show wpEs T xk es ρ fun ds => ∃ e, T.new c = some e ∧ ds.length = e.n ∧ e.m ds Qd xk from hq), fun ds hds vs H1 e1 r r2 => ?_⟩
    obtain ⟨e', he', hn, hw⟩ := hds
    rw [he] at he'
    cases he'
    have no : es.any ownB = false := by
      rw [List.any_eq_false]
      intro x hx
      have := List.all_eq_true.mp ho x hx
      simpa using this
    refine hsp vs H1 Q _ (call_sp (es := es) (f.ex e1) hn ?_ r r2 (fun d hd v H2 e2 r3 => hf d hd v H2 (e1.trans e2) (Res.of r3 rfl)))
    have : (fun d => (es.any ownB = true → flatD d = true) ∧ Qd d) = Qd := by
      funext d
      rw [no]
      simp
    rw [this]
    exact hw
theorem c_meth (G : Good T L W X) {c m : Str} {o : E} {es : List E} {y : Expr} {apos pos : Pos} {xs : List Expr} (hr : recvE y = true) (hf : (T.meth c m).isSome = true) (hs : xs.all noStar = true) (hn : xs = [] → es = []) (hline : (apos.endLine == pos.line) = true) (h30 : xs.length < 30)
    (hx : PE X y (rdE T X.K (owf ow) W o)) (h : PA X xs (rdEs T X.K (owf ow) W es)) : PE X (.Call (.Attribute y m apos) xs [] pos) (rdE T X.K (owf ow) W (.meth c m o es)) := by
  obtain ⟨e, he⟩ := Option.isSome_iff_exists.mp hf
  obtain ⟨fa, fd, ps, hp, hk, F, cl, hm, hb⟩ := G.tab.meth c m e he
  have hcost : dcE T (.meth c m o es) = dcE T o + (dcEs T es + e.c) := by
    show dcE T o + (dcEs T es + (match T.meth c m with
      | some e => e.c
      | none => 0)) = _
    rw [he]
  have fin : ∀ {t : TA}, (∀ σ H (Q : List V → Hp → Prop), rdEs T X.K (owf ow) W es σ H Q → t σ H Q) → ∀ σ H Q, rdE T X.K (owf ow) W (.meth c m o es) σ H Q → tMethG (He.ga X.K c) m (spOf X.K e.n e.c e.m) (fun σ cls d H => W cls d σ H) (rdE T X.K (owf ow) W o) t σ H Q := by
    intro t ht σ H Q h
    obtain ⟨B, O, ρ, xk, Qd, f, hq, hf⟩ := h
    rw [hcost] at f hf
    refine ⟨B, O, ρ, xk, _, f.l, (show wpE T xk o ρ fun x => ∃ l, x = .obj c l ∧ l.lookup m = none ∧ wpEs T xk es ρ fun ds => ∃ e, T.meth c m = some e ∧ ds.length + 1 = e.n ∧ e.m (.obj c l :: ds) (fun d => ((es.any ownB = true → flatD d = true) ∧ (ownB o = true → noB d = true)) ∧ Qd d) xk from hq), fun dx hdx v H1 e1 r1 => ?_⟩
    obtain ⟨l, rfl, hl, hq2⟩ := hdx
    obtain ⟨a, dx, fs, rfl, ha, rf⟩ := rb_obj r1.1
    refine ⟨a, dx, fs, rfl, ha, repF_none rf hl, ht _ _ _ ⟨B, O, ρ, xk, _, (f.ex e1).l, hq2, fun ds hds vs H2 e2 r r2 => ?_⟩⟩
    obtain ⟨e', he', hn, hw⟩ := hds
    rw [he] at he'
    cases he'
    exact call_spM (o := o) (es := es) (ds := ds) (vs := vs) ((f.ex e1).ex e2) hn hw ⟨_, _, rfl, r1.1.ex e2, r⟩ (fun z => (r1.2.1 z).ex e2) r2 (e2.at ha rfl) (fun d hd v H3 e3 r3 => hf d hd v H3 ((e1.trans (e2.trans e3))) (Res.of r3 rfl))
  have base : ∀ env, attributeBase y m env (eval y env) = eval y env := fun env => by
    cases y with
    | Name _ _ => rfl
    | Call g as _ _ => cases g <;> cases as <;> first | rfl | cases hr
    | _ => cases hr
  cases xs with
  | nil =>
    refine (pe_meth0G (E := fun σ cls d H => W cls d σ H) hx cl hm F (G.room.mono hk) G.guards hb (L2N.passAt G.tk) (meth_eq (base _) hline rfl h30)).imp (fin fun σ H Q h => ?_)
    cases hn rfl
    obtain ⟨B, O, ρ, xk, Qd, f, hq, hf⟩ := h
    exact hf [] hq [] H (Ex.refl H) rfl fun _ => rfl
  | cons z zs =>
    rw [List.all_cons, Bool.and_eq_true] at hs
    exact (pe_methG (E := fun σ cls d H => W cls d σ H) hx cl hm F (G.room.mono hk) G.guards hb (L2N.passAt G.tk) h (star_of hs.1) (plain_args hs.2) (meth_eq (base _) hline (any_of_cons hs) h30)).imp (fin fun σ H Q h => h)
theorem pe_tget {x : Str} {ei ed : Expr} {apos p cpos : Pos} {ti td : TE} {a : Addr} {l : List (Str × Int)} (hg : Gl X x) (hd : (x == ("__debug__" : Str)) = false) (hm : X.mg x = some (.ref a)) (ht : TabAt X.K X.w a l) (hi : PE X ei ti) (hz : PE X ed td) (m : M2 X (.Name x p) "get" apos ei ed cpos) :
    PE X (.Call (.Attribute (.Name x p) "get" apos) [ei, ed] [] cpos) (fun σ H Q => ti σ H fun y H1 => td σ H1 fun z H2 => ∃ s, y = .str s ∧ Q (((l.lookup s).map V.int).getD z) H2) := by
  obtain ⟨es, n, D, look⟩ := ht
  refine ⟨fun pins s σ H Q I h => ?_⟩
  refine wpAny_Call_method m.base m.few m.line PySem.F.plainAttrs_dict PySem.F.slot_dict_get PySem.F.type_dict_get (ld_glob I hg hm ?_ hd)
  have ob := I.kIn a _ D.at_
  refine ⟨⟨_, ob, rfl⟩, fun b e => by cases e; exact ⟨_, ob, rfl⟩, ?_⟩
  rw [m.trees]
  refine Calls.callWith_builtin rfl (Calls.evalArgs_plain (Calls.spliced_cons (thn (hi.run pins s σ H _ I h) fun iv s2 ⟨y, H2, I2, ry, q2⟩ =>
    Calls.spliced_cons (thn (hz.run pins s2 σ H2 _ I2 q2) fun fv s3 ⟨z, H3, I3, rz, sx, ey, q3⟩ => Calls.spliced_nil ?_))))
  subst ey
  obtain ⟨t, rfl⟩ := ry
  obtain ⟨r, e, hr⟩ := look sx
  refine call_meetsIn PySem.F.slot_dict_get ⟨_, I3.kIn a _ D.at_, rfl⟩ PySem.F.entry_dict_get (PySem.F.args_dict_get_3 _ _ _) (meets_dict_get_default (strKind X.prog X.w) a (PySem.strKind_is X.prog X.w sx t) D.low fv) ⟨_, PySem.W.mapOf_K (prog := X.prog) I3.kIn D.at_ D.lit, ?_⟩
  rw [PySem.W.find_K D.at_ e]
  cases lk : l.lookup sx with
  | none =>
    rw [lk] at hr q3
    have hr : r = none := hr
    subst hr
    exact ⟨z, H3, I3.tok _, rz, q3⟩
  | some i =>
    rw [lk] at hr q3
    obtain ⟨t', rfl⟩ := (show ∃ t, r = some (.int i t) from hr)
    exact ⟨.int i, H3, I3.tok _, ⟨t', rfl⟩, q3⟩
theorem m2_of {x : Str} {apos p cpos : Pos} {y z : Expr} (h1 : noStar y = true) (h2 : noStar z = true) (hl : (apos.endLine == cpos.line) = true) : M2 X (.Name x p) "get" apos y z cpos :=
  ⟨rfl, by rw [star_of h1, star_of h2]; rfl, hl, by rw [star_of h1, star_of h2]; rfl⟩
theorem c_tget (G : Good T L W X) {x : Str} {i d : E} {y z : Expr} {p apos cpos : Pos} (hs : (T.tab x).isSome = true) (hg : Gl X x) (hd : x ≠ "__debug__") (n1 : noStar y = true) (n2 : noStar z = true) (ho : ownB d = false) (hl : (apos.endLine == cpos.line) = true) (hi : PE X y (rdE T X.K (owf ow) W i)) (hz : PE X z (rdE T X.K (owf ow) W d)) :
    PE X (.Call (.Attribute (.Name x p) "get" apos) [y, z] [] cpos) (rdE T X.K (owf ow) W (.tget x i d)) := by
  obtain ⟨l, hs⟩ := Option.isSome_iff_exists.mp hs
  obtain ⟨a, hm, ht⟩ := G.tab.tab x l hs
  refine (pe_tget hg (beq_eq_false_iff_ne.mpr hd) hm ht hi hz (m2_of n1 n2 hl)).imp fun σ H Q h => ?_
  obtain ⟨B, O, ρ, xk, Qd, f, hq, hf⟩ := h
  have f0 : FX X.K (owf ow) W xk B O (dcE T i + dcE T d) H σ ρ := f
  refine ⟨B, O, ρ, xk, _, f0.l, (show wpE T xk i ρ fun y => wpE T xk d ρ fun z => ∃ l s, T.tab x = some l ∧ y = .str s ∧ Qd (((l.lookup s).map D.int).getD z) from hq), fun dy hy v H1 e1 r1 => ⟨B, O, ρ, xk, _, f0.ex e1, hy, fun dz hz u H2 e2 r2 => ?_⟩⟩
  obtain ⟨l', s, e, rfl, q⟩ := hz
  rw [hs] at e
  cases e
  refine ⟨s, rb_str r1.1, hf _ q _ H2 (e1.trans e2) ?_⟩
  cases l.lookup s with
  | none => exact Res.of (r2.2.1 ho) rfl
  | some i => exact Res.of rfl rfl
end
end DL

/-! D4: what the checker lets through is right: expressions -/
namespace DL
open PySem PySem.Spec PyProof.Rows L2 Evl

section
variable {T : Tb} {L : Nat}
def SndM (T : Tb) (ow : List Nat) (W : WX) (X : Cx) : Md → E → Expr → Prop
  | .val, e, x => PE X x (rdE T X.K (owf ow) W e)
  | .tst, e, x => PT X x (rdT T X.K (owf ow) W e)
  | .itr, e, x => ∀ tg, tupT e tg = true → PI X tg x (rdI T X.K (owf ow) W e)
/-- what is said of lists -/
def SndL (T : Tb) (ow : List Nat) (W : WX) (X : Cx) : Md → List E → List Expr → Prop
  | .val, es, xs => PA X xs (rdEs T X.K (owf ow) W es) ∧ (xs.all noStar = true → es.all (fun e => !ownB e) = true → xs ≠ [] → ∀ pos, PE X (.BoolOp .And xs pos) (rdE T X.K (owf ow) W (.and es)) ∧ PE X (.BoolOp .Or xs pos) (rdE T X.K (owf ow) W (.or es)))
  | .tst, es, xs => (xs.all noStar = true → es.all (fun e => !ownB e) = true → xs ≠ [] → ∀ pos, PW X (.BoolOp .And xs pos) (rdT T X.K (owf ow) W (.and es)) ∧ PW X (.BoolOp .Or xs pos) (rdT T X.K (owf ow) W (.or es))) ∧ (xs.length ≤ 1 → xs.all noStar = true → PTs X xs (rdTs T X.K (owf ow) W es))
  | .itr, _, _ => True
def SndO (T : Tb) (ow : List Nat) (W : WX) (X : Cx) (e : Option E) (x : Option Expr) : Prop := PO X x (rdO T X.K (owf ow) W e)
variable {W : WX} {X : Cx} {ow : List Nat}
theorem val_t {e : E} {x : Expr} (h : PE X x (rdE T X.K (owf ow) W e)) (he : ∀ whole, isTrue x X.env whole = (do let v ← whole; standAt x.pos; holding [v] (truthy v))) : PT X x (rdT T X.K (owf ow) W e) :=
  (pt_val h he).imp fun σ H Q q => t_of q
theorem all_md {e : E} {x : Expr} (h1 : ownB e = false) (h2 : ownS e = false) (h : PE X x (rdE T X.K (owf ow) W e)) (ht : PT X x (rdT T X.K (owf ow) W e)) : ∀ md, SndM T ow W X md e x
  | .val => h
  | .tst => ht
  | .itr => fun tg _ => c_iseq h1 h2 h
theorem all_v {e : E} {x : Expr} (h1 : ownB e = false) (h2 : ownS e = false) (h : PE X x (rdE T X.K (owf ow) W e)) (he : ∀ whole, isTrue x X.env whole = (do let v ← whole; standAt x.pos; holding [v] (truthy v))) : ∀ md, SndM T ow W X md e x :=
  all_md h1 h2 h (val_t h he)
theorem negMark {neg : Bool} {y : Expr} {op : CmpOp} (h : (!behindInMarks op y) = true) (ho : op = if neg then .NotIn else .In) : behindInMarks (if neg then .NotIn else .In) y = false := by
  rw [← ho]
  simpa using h
theorem and2 {a b : Bool} (h : (a && b) = true) : a = true ∧ b = true := by rwa [Bool.and_eq_true] at h
theorem not1 {a : Bool} (h : (!a) = true) : a = false := by rwa [Bool.not_eq_true'] at h
end
def Sound (T : Tb) (L : Nat) (N : List Str) (ow : List Nat) (e : E) : Prop := ∀ md sc x, mE T N ow md sc e x = true → ∀ W X, Good T L W X → X.N = N → X.env.scope = sc → SndM T ow W X md e x
def SoundL (T : Tb) (L : Nat) (N : List Str) (ow : List Nat) (es : List E) : Prop := ∀ md sc xs, mEs T N ow md sc es xs = true → ∀ W X, Good T L W X → X.N = N → X.env.scope = sc → SndL T ow W X md es xs
def SoundO (T : Tb) (L : Nat) (N : List Str) (ow : List Nat) (e : Option E) : Prop := ∀ sc x, mO T N ow sc e x = true → ∀ W X, Good T L W X → X.N = N → X.env.scope = sc → SndO T ow W X e x
section
variable {T : Tb} {L : Nat} {N : List Str} {ow : List Nat}
theorem s_var {i : Nat} : Sound T L N ow (.var i) := fun md sc x h W X G hN hS => by
  cases x with
  | Name x p =>
    obtain ⟨h1, h2⟩ := and2 (show (decide (N[i]? = some x) && (visB sc x && (okNm x && !ow.contains i))) = true from h)
    obtain ⟨h2, h3⟩ := and2 h2
    obtain ⟨h3, h4⟩ := and2 h3
    exact all_v rfl rfl (c_var (by rw [hN]; exact of_decide_eq_true h1) (by rw [hS]; exact vis_of h2) h3 (not1 h4)) (fun _ => rfl) md
  | _ => exact absurd h Bool.false_ne_true
theorem s_own {i : Nat} : Sound T L N ow (.own i) := fun md sc x h W X G hN hS => by
  cases x with
  | Name x p =>
    obtain ⟨h1, h2⟩ := and2 (show (decide (N[i]? = some x) && (visB sc x && (okNm x && ow.contains i))) = true from h)
    obtain ⟨h2, h3⟩ := and2 h2
    obtain ⟨h3, h4⟩ := and2 h3
    have c := c_own (T := T) (W := W) (pos := p) (by rw [hN]; exact of_decide_eq_true h1) (by rw [hS]; exact vis_of h2) h3 h4
    cases md with
    | val => exact c
    | tst => exact val_t c fun _ => rfl
    | itr => exact fun tg _ => c_iown (by rw [hN]; exact of_decide_eq_true h1) (by rw [hS]; exact vis_of h2) h3 h4
  | _ => exact absurd h Bool.false_ne_true
theorem s_con {d : D} : Sound T L N ow (.con d) := fun md sc x h W X G hN hS => by
  cases x with
  | Constant c k p => exact all_v rfl rfl (c_con (show conB d c = true from h)) (fun _ => rfl) md
  | _ => exact absurd h Bool.false_ne_true
theorem s_glob {g : Str} : Sound T L N ow (.glob g) := fun md sc x h W X G hN hS => by
  cases x with
  | Name y p =>
    obtain ⟨h1, h2⟩ := and2 (show (decide (g = y) && glB sc g) = true from h)
    obtain rfl := of_decide_eq_true h1
    obtain ⟨h3, h4, h5⟩ := gl_of hS h2
    exact all_v rfl rfl (c_glob G h3 h4) (fun _ => rfl) md
  | _ => exact absurd h Bool.false_ne_true
theorem s_tup {es : List E} (ih : SoundL T L N ow es) : Sound T L N ow (.tup es) := fun md sc x h W X G hN hS => by
  cases x with
  | Tuple xs k p =>
    obtain ⟨h1, h2⟩ := and2 (show (es.all (fun e => !ownB e) && mEs T N ow .val sc es xs) = true from h)
    exact all_v rfl rfl (c_tup h1 (ih .val sc xs h2 W X G hN hS).1) (fun _ => rfl) md
  | _ => exact absurd h Bool.false_ne_true
theorem s_lst {es : List E} (ih : SoundL T L N ow es) : Sound T L N ow (.lst es) := fun md sc x h W X G hN hS => by
  cases x with
  | List xs p =>
    obtain ⟨h1, h2⟩ := and2 (show (es.all (fun e => !ownB e) && mEs T N ow .val sc es xs) = true from h)
    exact all_v rfl rfl (c_lst h1 (ih .val sc xs h2 W X G hN hS).1) (fun _ => rfl) md
  | _ => exact absurd h Bool.false_ne_true
theorem s_bin {op : Operator} {a b : E} (iha : Sound T L N ow a) (ihb : Sound T L N ow b) : Sound T L N ow (.bin op a b) := fun md sc x h W X G hN hS => by
  cases x with
  | BinOp x op' y p =>
    obtain ⟨h1, h2⟩ := and2 (show (decide (op = op') && (mE T N ow .val sc a x && mE T N ow .val sc b y)) = true from h)
    obtain ⟨h2, h3⟩ := and2 h2
    obtain rfl := of_decide_eq_true h1
    exact all_v rfl rfl (c_bin (iha .val sc x h2 W X G hN hS) (ihb .val sc y h3 W X G hN hS)) (fun _ => rfl) md
  | _ => exact absurd h Bool.false_ne_true
theorem s_neg {a : E} (iha : Sound T L N ow a) : Sound T L N ow (.neg a) := fun md sc x h W X G hN hS => by
  cases x with
  | UnaryOp op x p =>
    cases op with
    | USub => exact all_v rfl rfl (c_neg (iha .val sc x (show mE T N ow .val sc a x = true from h) W X G hN hS)) (fun _ => rfl) md
    | _ => exact absurd h Bool.false_ne_true
  | _ => exact absurd h Bool.false_ne_true
theorem s_inv {a : E} (iha : Sound T L N ow a) : Sound T L N ow (.inv a) := fun md sc x h W X G hN hS => by
  cases x with
  | UnaryOp op x p =>
    cases op with
    | Invert => exact all_v rfl rfl (c_inv (iha .val sc x (show mE T N ow .val sc a x = true from h) W X G hN hS)) (fun _ => rfl) md
    | _ => exact absurd h Bool.false_ne_true
  | _ => exact absurd h Bool.false_ne_true
theorem s_not {a : E} (iha : Sound T L N ow a) : Sound T L N ow (.not a) := fun md sc x h W X G hN hS => by
  cases x with
  | UnaryOp op x p =>
    cases op with
    | Not =>
      obtain ⟨h1, h2⟩ := and2 (show (decide (md ≠ .itr) && mE T N ow md sc a x) = true from h)
      have k := iha md sc x h2 W X G hN hS
      cases md with
      | val => exact c_notV k
      | tst => exact c_notT k
      | itr => exact absurd h1 (by decide)
    | _ => exact absurd h Bool.false_ne_true
  | _ => exact absurd h Bool.false_ne_true
theorem s_cmp {op : CmpOp} {a b : E} (iha : Sound T L N ow a) (ihb : Sound T L N ow b) : Sound T L N ow (.cmp op a b) := fun md sc x h W X G hN hS => by
  cases x with
  | Compare x ops ys p =>
    match ops, ys, h with
    | [op'], [y], h =>
      obtain ⟨h1, h2⟩ := and2 (show (decide (op = op') && (decide (op ≠ .In) && (decide (op ≠ .NotIn) && (mE T N ow .val sc a x && mE T N ow .val sc b y)))) = true from h)
      obtain ⟨h2, h3⟩ := and2 h2
      obtain ⟨h3, h4⟩ := and2 h3
      obtain ⟨h4, h5⟩ := and2 h4
      obtain rfl := of_decide_eq_true h1
      have ka := iha .val sc x h4 W X G hN hS
      have kb := ihb .val sc y h5 W X G hN hS
      exact all_md rfl rfl (c_cmp G (of_decide_eq_true h2) (of_decide_eq_true h3) ka kb) (c_cmpT G (of_decide_eq_true h2) (of_decide_eq_true h3) ka kb) md
    | [], _, h => exact absurd h Bool.false_ne_true
    | [_], [], h => exact absurd h Bool.false_ne_true
    | [_], _ :: _ :: _, h => exact absurd h Bool.false_ne_true
    | _ :: _ :: _, _, h => exact absurd h Bool.false_ne_true
  | _ => exact absurd h Bool.false_ne_true
theorem s_chain {o1 o2 : CmpOp} {a b c : E} (iha : Sound T L N ow a) (ihb : Sound T L N ow b) (ihc : Sound T L N ow c) : Sound T L N ow (.chain o1 o2 a b c) := fun md sc x h W X G hN hS => by
  cases x with
  | Compare x ops ys p =>
    match ops, ys, h with
    | [p1, p2], [y, z], h =>
      obtain ⟨h1, h2⟩ := and2 (show (decide (o1 = p1) && (decide (o2 = p2) && (decide (o2 ≠ .In) && (decide (o2 ≠ .NotIn) && (mE T N ow .val sc a x && (mE T N ow .val sc b y && mE T N ow .val sc c z)))))) = true from h)
      obtain ⟨h2, h3⟩ := and2 h2
      obtain ⟨h3, h4⟩ := and2 h3
      obtain ⟨h4, h5⟩ := and2 h4
      obtain ⟨h5, h6⟩ := and2 h5
      obtain ⟨h6, h7⟩ := and2 h6
      obtain rfl := of_decide_eq_true h1
      obtain rfl := of_decide_eq_true h2
      have ka := iha .val sc x h5 W X G hN hS
      have kb := ihb .val sc y h6 W X G hN hS
      have kc := ihc .val sc z h7 W X G hN hS
      exact all_md rfl rfl (c_chain G (of_decide_eq_true h3) (of_decide_eq_true h4) ka kb kc) (c_chainT G (of_decide_eq_true h3) (of_decide_eq_true h4) ka kb kc) md
    | [], _, h => exact absurd h Bool.false_ne_true
    | [_], _, h => exact absurd h Bool.false_ne_true
    | [_, _], [], h => exact absurd h Bool.false_ne_true
    | [_, _], [_], h => exact absurd h Bool.false_ne_true
    | [_, _], _ :: _ :: _ :: _, h => exact absurd h Bool.false_ne_true
    | _ :: _ :: _ :: _, _, h => exact absurd h Bool.false_ne_true
  | _ => exact absurd h Bool.false_ne_true
theorem s_inn {neg : Bool} {a b : E} (iha : Sound T L N ow a) (ihb : Sound T L N ow b) : Sound T L N ow (.inn neg a b) := fun md sc x h W X G hN hS => by
  cases x with
  | Compare x ops ys p =>
    match ops, ys, h with
    | [op], [y], h =>
      obtain ⟨h1, h2⟩ := and2 (show (decide (op = if neg then .NotIn else .In) && (!behindInMarks op y && (mE T N ow .val sc a x && mE T N ow .val sc b y))) = true from h)
      obtain ⟨h2, h3⟩ := and2 h2
      obtain ⟨h3, h4⟩ := and2 h3
      have ho := of_decide_eq_true h1
      have hm := negMark h2 ho
      subst ho
      have ka := iha .val sc x h3 W X G hN hS
      have kb := ihb .val sc y h4 W X G hN hS
      exact all_md rfl rfl (c_inn G hm ka kb) (c_innT G hm ka kb) md
    | [], _, h => exact absurd h Bool.false_ne_true
    | [_], [], h => exact absurd h Bool.false_ne_true
    | [_], _ :: _ :: _, h => exact absurd h Bool.false_ne_true
    | _ :: _ :: _, _, h => exact absurd h Bool.false_ne_true
  | _ => exact absurd h Bool.false_ne_true
theorem s_din {neg : Bool} {a b : E} (iha : Sound T L N ow a) (ihb : Sound T L N ow b) : Sound T L N ow (.din neg a b) := fun md sc x h W X G hN hS => by
  cases x with
  | Compare x ops ys p =>
    match ops, ys, h with
    | [op], [y], h =>
      obtain ⟨h1, h2⟩ := and2 (show (decide (op = if neg then .NotIn else .In) && (!behindInMarks op y && (mE T N ow .val sc a x && mE T N ow .val sc b y))) = true from h)
      obtain ⟨h2, h3⟩ := and2 h2
      obtain ⟨h3, h4⟩ := and2 h3
      have ho := of_decide_eq_true h1
      have hm := negMark h2 ho
      subst ho
      have ka := iha .val sc x h3 W X G hN hS
      have kb := ihb .val sc y h4 W X G hN hS
      exact all_md rfl rfl (c_din G hm ka kb) (c_dinT G hm ka kb) md
    | [], _, h => exact absurd h Bool.false_ne_true
    | [_], [], h => exact absurd h Bool.false_ne_true
    | [_], _ :: _ :: _, h => exact absurd h Bool.false_ne_true
    | _ :: _ :: _, _, h => exact absurd h Bool.false_ne_true
  | _ => exact absurd h Bool.false_ne_true
theorem isn_of {neg : Bool} {a : E} {W : WX} {X : Cx} {σ : L2.St} {H : Hp} {Q : VK} (h : rdE T X.K (owf ow) W (.isn neg a) σ H Q) :
    rdE T X.K (owf ow) W a σ H fun v H1 => Q (.bl (negB neg (decide (v = .non)))) H1 := by
  have key : ∀ {A : AP} {H : Hp} {d : D} {v : V}, RepB X.K A H d v → decide (v = .non) = (match d with
      | .non => true
      | _ => false) := fun {A H d v} r => by
    cases d with
    | non => rw [rb_non r]; rfl
    | bl b => rw [rb_bl r]; rfl
    | int b => rw [rb_int r]; rfl
    | str b => rw [rb_str r]; rfl
    | tup l => obtain ⟨_, _, rfl, _⟩ := rb_tup r; rfl
    | lst l => obtain ⟨_, _, rfl, _⟩ := rb_lst r; rfl
    | dic l => obtain ⟨_, _, rfl, _⟩ := rb_dic r; rfl
    | dit l => obtain ⟨_, _, rfl, _⟩ := rb_dit r; rfl
    | scr l => obtain ⟨_, rfl, _⟩ := rb_scr r; rfl
    | kt l => obtain ⟨_, _, rfl, _⟩ := rb_kt r; rfl
    | obj c l => rcases r with ⟨_, _, _, rfl, _⟩ | ⟨_, rfl, _⟩ <;> rfl
    | fn f =>
      rcases r with r | ⟨_, rfl, _⟩
      · rw [show v = _ from r]; rfl
      · rfl
    | st => rcases r with ⟨_, _, _, _, rfl, _⟩ | ⟨_, rfl, _⟩ <;> rfl
  obtain ⟨B, O, ρ, xk, Qd, f, hq, hf⟩ := h
  refine ⟨B, O, ρ, xk, _, f, hq, fun d hd v H' e r => ?_⟩
  show Q (.bl (negB neg (decide (v = .non)))) H'
  rw [key r.1]
  exact hf _ hd _ _ e (Res.of rfl rfl)
theorem c_isnT {neg : Bool} {a : E} {W : WX} {X : Cx} {x : Expr} {k : Nat} {p pos : Pos} (ha : PE X x (rdE T X.K (owf ow) W a)) : PT X (.Compare x [if neg then .IsNot else .Is] [.Constant .none k p] pos) (rdT T X.K (owf ow) W (.isn neg a)) := by
  cases neg with
  | false =>
    refine (pt_cmpR op_isN ha pe_non (nomark _)).imp fun σ H Q h => ?_
    obtain ⟨B, O, ρ, xk, Qd, f, hq, hf⟩ := isn_of (neg := false) (t_of h)
    exact ⟨B, O, ρ, xk, Qd, f, hq, fun d hd v H' e r => ⟨rfl, hf d hd v H' e r⟩⟩
  | true =>
    refine (pt_cmpR op_notN ha pe_non (nomark _)).imp fun σ H Q h => ?_
    obtain ⟨B, O, ρ, xk, Qd, f, hq, hf⟩ := isn_of (neg := true) (t_of h)
    exact ⟨B, O, ρ, xk, Qd, f, hq, fun d hd v H' e r => ⟨rfl, hf d hd v H' e r⟩⟩
theorem s_isn {neg : Bool} {a : E} (iha : Sound T L N ow a) : Sound T L N ow (.isn neg a) := fun md sc x h W X G hN hS => by
  cases x with
  | Compare x ops ys p =>
    match ops, ys, h with
    | [], _, h => exact absurd h Bool.false_ne_true
    | [_], [], h => exact absurd h Bool.false_ne_true
    | [_], y :: _ :: _, h =>
      cases y with
      | Constant c k q => cases c <;> exact absurd h Bool.false_ne_true
      | _ => exact absurd h Bool.false_ne_true
    | _ :: _ :: _, _, h => exact absurd h Bool.false_ne_true
    | [op], [y], h =>
      cases y with
      | Constant c k q =>
        cases c with
        | none =>
          obtain ⟨h1, h2⟩ := and2 (show (decide (op = if neg then .IsNot else .Is) && mE T N ow .val sc a x) = true from h)
          obtain rfl := of_decide_eq_true h1
          have ka := iha .val sc x h2 W X G hN hS
          exact all_md rfl rfl (c_isn ka) (c_isnT ka) md
        | _ => exact absurd h Bool.false_ne_true
      | _ => exact absurd h Bool.false_ne_true
  | _ => exact absurd h Bool.false_ne_true
theorem s_ite {c a b : E} (ihc : Sound T L N ow c) (iha : Sound T L N ow a) (ihb : Sound T L N ow b) : Sound T L N ow (.ite c a b) := fun md sc x h W X G hN hS => by
  cases x with
  | IfExp z x y p =>
    obtain ⟨h1, h2⟩ := and2 (show (decide (md = .val) && (!ownB a && (!ownB b && (mE T N ow .tst sc c z && (mE T N ow .val sc a x && mE T N ow .val sc b y))))) = true from h)
    obtain ⟨h2, h3⟩ := and2 h2
    obtain ⟨h3, h4⟩ := and2 h3
    obtain ⟨h4, h5⟩ := and2 h4
    obtain ⟨h5, h6⟩ := and2 h5
    obtain rfl := of_decide_eq_true h1
    exact c_ite (not1 h2) (not1 h3) (ihc .tst sc z h4 W X G hN hS) (iha .val sc x h5 W X G hN hS) (ihb .val sc y h6 W X G hN hS)
  | _ => exact absurd h Bool.false_ne_true
theorem s_sub {a i : E} (iha : Sound T L N ow a) (ihi : Sound T L N ow i) : Sound T L N ow (.sub a i) := fun md sc x h W X G hN hS => by
  cases x with
  | Subscript x y p =>
    obtain ⟨h1, h2⟩ := and2 (show (noSlice y && (mE T N ow .val sc a x && mE T N ow .val sc i y)) = true from h)
    obtain ⟨h2, h3⟩ := and2 h2
    exact all_v rfl rfl (c_sub h1 (iha .val sc x h2 W X G hN hS) (ihi .val sc y h3 W X G hN hS)) (fun _ => rfl) md
  | _ => exact absurd h Bool.false_ne_true
theorem s_dget {a i : E} (iha : Sound T L N ow a) (ihi : Sound T L N ow i) : Sound T L N ow (.dget a i) := fun md sc x h W X G hN hS => by
  cases x with
  | Subscript x y p =>
    obtain ⟨h1, h2⟩ := and2 (show (noSlice y && (mE T N ow .val sc a x && mE T N ow .val sc i y)) = true from h)
    obtain ⟨h2, h3⟩ := and2 h2
    exact all_v rfl rfl (c_dget G h1 (iha .val sc x h2 W X G hN hS) (ihi .val sc y h3 W X G hN hS)) (fun _ => rfl) md
  | _ => exact absurd h Bool.false_ne_true
theorem s_slice {a : E} {lo hi : Option E} (iha : Sound T L N ow a) (ihl : SoundO T L N ow lo) (ihh : SoundO T L N ow hi) : Sound T L N ow (.slice a lo hi) := fun md sc x h W X G hN hS => by
  cases x with
  | Subscript x y p =>
    cases y with
    | Slice l u st q =>
      cases st with
      | none =>
        obtain ⟨h1, h2⟩ := and2 (show (mE T N ow .val sc a x && (mO T N ow sc lo l && mO T N ow sc hi u)) = true from h)
        obtain ⟨h2, h3⟩ := and2 h2
        exact all_v rfl rfl (c_slice (iha .val sc x h1 W X G hN hS) (ihl sc l h2 W X G hN hS) (ihh sc u h3 W X G hN hS)) (fun _ => rfl) md
      | some st => exact absurd h Bool.false_ne_true
    | _ => exact absurd h Bool.false_ne_true
  | _ => exact absurd h Bool.false_ne_true
theorem s_blt {f : BF} {es : List E} (ih : SoundL T L N ow es) : Sound T L N ow (.blt f es) := fun md sc x h W X G hN hS => by
  cases x with
  | Call fx xs ks p =>
    cases ks with
    | cons k ks => cases fx <;> exact absurd h Bool.false_ne_true
    | nil =>
      cases fx with
      | Name y q =>
        obtain ⟨h1, h2⟩ := and2 (show (bfOk f && (decide (y = bfName f) && (glB sc y && (decide (1 ≤ xs.length) && (xs.all noStar && mEs T N ow .val sc es xs))))) = true from h)
        obtain ⟨h2, h3⟩ := and2 h2
        obtain ⟨h3, h4⟩ := and2 h3
        obtain ⟨h4, h5⟩ := and2 h4
        obtain ⟨h5, h6⟩ := and2 h5
        obtain ⟨g1, g2, g3⟩ := gl_of hS h3
        exact all_v rfl rfl (c_blt G h1 (of_decide_eq_true h2) g1 g2 g3 (of_decide_eq_true h4) h5 (ih .val sc xs h6 W X G hN hS).1) (fun _ => rfl) md
      | _ => exact absurd h Bool.false_ne_true
  | _ => exact absurd h Bool.false_ne_true
theorem s_call {f : Str} {es : List E} (ih : SoundL T L N ow es) : Sound T L N ow (.call f es) := fun md sc x h W X G hN hS => by
  cases x with
  | Call fx xs ks p =>
    cases ks with
    | cons k ks => cases fx <;> exact absurd h Bool.false_ne_true
    | nil =>
      cases fx with
      | Name y q =>
        obtain ⟨h1, h2⟩ := and2 (show (decide (y = f) && (glB sc y && (decide (1 ≤ xs.length) && (xs.all noStar && ((T.fn f).isSome && mEs T N ow .val sc es xs))))) = true from h)
        obtain ⟨h3, k4⟩ := and2 h2
        obtain ⟨h4, k5⟩ := and2 k4
        obtain ⟨h5, k6⟩ := and2 k5
        obtain ⟨h6, h7⟩ := and2 k6
        obtain ⟨g1, g2, g3⟩ := gl_of hS h3
        obtain rfl := of_decide_eq_true h1
        exact all_v rfl rfl (c_call G h6 g1 g2 (of_decide_eq_true h4) h5 (ih .val sc xs h7 W X G hN hS).1) (fun _ => rfl) md
      | _ => exact absurd h Bool.false_ne_true
  | _ => exact absurd h Bool.false_ne_true
theorem s_attr {c f : Str} {o : E} (ih : Sound T L N ow o) : Sound T L N ow (.attr c f o) := fun md sc x h W X G hN hS => by
  cases x with
  | Attribute y g p =>
    obtain ⟨h1, h2⟩ := and2 (show (decide (f = g) && (nameE y && (T.fld c f && mE T N ow .val sc o y))) = true from h)
    obtain ⟨k1, k2⟩ := and2 h2
    obtain ⟨k3, k4⟩ := and2 k2
    obtain rfl := of_decide_eq_true h1
    cases y with
    | Name z q => exact all_v rfl rfl (c_attr G k3 (ih .val sc _ k4 W X G hN hS)) (fun _ => rfl) md
    | _ => exact absurd k1 Bool.false_ne_true
  | _ => exact absurd h Bool.false_ne_true
theorem s_tget {t : Str} {i d : E} (ih : Sound T L N ow i) (ihd : Sound T L N ow d) : Sound T L N ow (.tget t i d) := fun md sc x h W X G hN hS => by
  cases x with
  | Call fx xs ks p =>
    cases ks with
    | cons k ks =>
      cases fx with
      | Attribute o g q =>
        cases o with
        | Name x q2 =>
          match xs, h with
          | [], h => exact absurd h Bool.false_ne_true
          | [_], h => exact absurd h Bool.false_ne_true
          | [_, _], h => exact absurd h Bool.false_ne_true
          | _ :: _ :: _ :: _, h => exact absurd h Bool.false_ne_true
        | _ => exact absurd h Bool.false_ne_true
      | _ => exact absurd h Bool.false_ne_true
    | nil =>
      cases fx with
      | Attribute o g q =>
        cases o with
        | Name x q2 =>
          match xs, h with
          | [], h => exact absurd h Bool.false_ne_true
          | [_], h => exact absurd h Bool.false_ne_true
          | _ :: _ :: _ :: _, h => exact absurd h Bool.false_ne_true
          | [y, z], h =>
            obtain ⟨h1, k2⟩ := and2 (show ((q.endLine == p.line) && (decide (x = t) && (decide (g = "get") && (glB sc x && ((T.tab t).isSome && (noStar y && (noStar z && (!ownB d && (mE T N ow .val sc i y && mE T N ow .val sc d z))))))))) = true from h)
            obtain ⟨h2, k3⟩ := and2 k2
            obtain ⟨h3, k4⟩ := and2 k3
            obtain ⟨h4, k5⟩ := and2 k4
            obtain ⟨h5, k6⟩ := and2 k5
            obtain ⟨h6, k7⟩ := and2 k6
            obtain ⟨h7, k8⟩ := and2 k7
            obtain ⟨h8, k9⟩ := and2 k8
            obtain ⟨h9, h10⟩ := and2 k9
            obtain rfl := of_decide_eq_true h2
            obtain rfl := of_decide_eq_true h3
            obtain ⟨g1, g2, g3⟩ := gl_of hS h4
            exact all_v rfl rfl (c_tget G h5 g1 g2 h6 h7 (not1 h8) h1 (ih .val sc _ h9 W X G hN hS) (ihd .val sc _ h10 W X G hN hS)) (fun _ => rfl) md
        | _ => exact absurd h Bool.false_ne_true
      | _ => exact absurd h Bool.false_ne_true
  | _ => exact absurd h Bool.false_ne_true
theorem s_meth {c m : Str} {o : E} {es : List E} (ih : Sound T L N ow o) (ihs : SoundL T L N ow es) : Sound T L N ow (.meth c m o es) := fun md sc x h W X G hN hS => by
  cases x with
  | Call fx xs ks p =>
    cases ks with
    | cons k ks => cases fx <;> exact absurd h Bool.false_ne_true
    | nil =>
      cases fx with
      | Attribute y g q =>
        obtain ⟨h0, h1⟩ := and2 (show (((q.endLine == p.line) && decide (xs.length < 30)) && (decide (m = g) && (recvE y && (xs.all noStar && ((T.meth c m).isSome && (mE T N ow .val sc o y && mEs T N ow .val sc es xs)))))) = true from h)
        obtain ⟨ha, hb⟩ := and2 h0
        obtain ⟨n1, h2⟩ := and2 h1
        obtain ⟨n2, h5⟩ := and2 h2
        obtain ⟨n5, h6⟩ := and2 h5
        obtain ⟨n6, h7⟩ := and2 h6
        obtain ⟨n7, n8⟩ := and2 h7
        obtain rfl := of_decide_eq_true n1
        have hn : xs = [] → es = [] := fun e => by
          subst e
          cases es with
          | nil => rfl
          | cons e es => cases e <;> exact absurd n8 Bool.false_ne_true
        exact all_v rfl rfl (c_meth G n2 n6 n5 hn ha (of_decide_eq_true hb) (ih .val sc _ n7 W X G hN hS) (ihs .val sc xs n8 W X G hN hS).1) (fun _ => rfl) md
      | _ => exact absurd h Bool.false_ne_true
  | _ => exact absurd h Bool.false_ne_true
theorem s_mk {c : Str} {es : List E} (ih : SoundL T L N ow es) : Sound T L N ow (.mk c es) := fun md sc x h W X G hN hS => by
  cases x with
  | Call fx xs ks p =>
    cases ks with
    | cons k ks => cases fx <;> exact absurd h Bool.false_ne_true
    | nil =>
      cases fx with
      | Name y q =>
        obtain ⟨h1, h2⟩ := and2 (show (decide (y = c) && (glB sc y && (decide (1 ≤ xs.length) && (xs.all noStar && (es.all (fun e => !ownB e) && ((T.new c).isSome && mEs T N ow .val sc es xs)))))) = true from h)
        obtain ⟨h3, k4⟩ := and2 h2
        obtain ⟨h4, k5⟩ := and2 k4
        obtain ⟨h5, k6⟩ := and2 k5
        obtain ⟨h6, h7⟩ := and2 k6
        obtain ⟨h7, h8⟩ := and2 h7
        obtain ⟨g1, g2, g3⟩ := gl_of hS h3
        obtain rfl := of_decide_eq_true h1
        exact all_v rfl rfl (c_mk G h7 g1 g2 (of_decide_eq_true h4) h5 h6 (ih .val sc xs h8 W X G hN hS).1) (fun _ => rfl) md
      | _ => exact absurd h Bool.false_ne_true
  | _ => exact absurd h Bool.false_ne_true
theorem s_dnew {t : Bool} : Sound T L N ow (.dnew t) := fun md sc x h W X G hN hS => by
  cases x with
  | Dict ks vs p =>
    cases ks with
    | cons k ks => exact absurd h Bool.false_ne_true
    | nil =>
      cases vs with
      | cons v vs => exact absurd h Bool.false_ne_true
      | nil => exact all_v rfl rfl c_dnew (fun _ => rfl) md
  | _ => exact absurd h Bool.false_ne_true
theorem s_none : SoundO T L N ow none := fun sc x h W X G hN hS => by
  cases x with
  | none => exact o_none
  | some x => exact absurd h Bool.false_ne_true
theorem s_some {e : E} (ih : Sound T L N ow e) : SoundO T L N ow (some e) := fun sc x h W X G hN hS => by
  cases x with
  | none => exact absurd h Bool.false_ne_true
  | some x => exact o_some (ih .val sc x h W X G hN hS)
theorem s_never {e : E} (h : ∀ md sc x, mE T N ow md sc e x = false) : Sound T L N ow e := fun md sc x q => by
  rw [h] at q
  cases q
theorem s_rng {a : E} (iha : Sound T L N ow a) : Sound T L N ow (.rng a) := fun md sc x h W X G hN hS => by
  cases x with
  | Call fx xs ks p =>
    cases ks with
    | cons k ks => cases fx <;> (match xs, h with
      | [], h => exact absurd h Bool.false_ne_true
      | [_], h => exact absurd h Bool.false_ne_true
      | _ :: _ :: _, h => exact absurd h Bool.false_ne_true)
    | nil =>
      cases fx with
      | Name y q =>
        match xs, h with
        | [], h => exact absurd h Bool.false_ne_true
        | _ :: _ :: _, h => exact absurd h Bool.false_ne_true
        | [z], h =>
          obtain ⟨h1, k2⟩ := and2 (show (decide (md = .itr) && (decide (y = "range") && (glB sc y && (noStar z && mE T N ow .val sc a z)))) = true from h)
          obtain ⟨h2, k3⟩ := and2 k2
          obtain ⟨h3, k4⟩ := and2 k3
          obtain ⟨h4, h5⟩ := and2 k4
          obtain ⟨g1, g2, g3⟩ := gl_of hS h3
          have ka := iha .val sc z h5 W X G hN hS
          obtain rfl := of_decide_eq_true h1
          obtain rfl := of_decide_eq_true h2
          exact fun tg _ => c_irng G g1 h4 ka
      | _ => exact absurd h Bool.false_ne_true
  | _ => exact absurd h Bool.false_ne_true
theorem s_rng2 {a b : E} (iha : Sound T L N ow a) (ihb : Sound T L N ow b) : Sound T L N ow (.rng2 a b) := fun md sc x h W X G hN hS => by
  cases x with
  | Call fx xs ks p =>
    cases ks with
    | cons k ks => cases fx <;> (match xs, h with
      | [], h => exact absurd h Bool.false_ne_true
      | [_], h => exact absurd h Bool.false_ne_true
      | [_, _], h => exact absurd h Bool.false_ne_true
      | _ :: _ :: _ :: _, h => exact absurd h Bool.false_ne_true)
    | nil =>
      cases fx with
      | Name y q =>
        match xs, h with
        | [], h => exact absurd h Bool.false_ne_true
        | [_], h => exact absurd h Bool.false_ne_true
        | _ :: _ :: _ :: _, h => exact absurd h Bool.false_ne_true
        | [z, u], h =>
          obtain ⟨h1, k2⟩ := and2 (show (decide (md = .itr) && (decide (y = "range") && (glB sc y && (noStar z && (noStar u && (mE T N ow .val sc a z && mE T N ow .val sc b u)))))) = true from h)
          obtain ⟨h2, k3⟩ := and2 k2
          obtain ⟨h3, k4⟩ := and2 k3
          obtain ⟨h4, k5⟩ := and2 k4
          obtain ⟨h5, k6⟩ := and2 k5
          obtain ⟨h6, h7⟩ := and2 k6
          obtain ⟨g1, g2, g3⟩ := gl_of hS h3
          have ka := iha .val sc z h6 W X G hN hS
          have kb := ihb .val sc u h7 W X G hN hS
          obtain rfl := of_decide_eq_true h1
          obtain rfl := of_decide_eq_true h2
          exact fun tg _ => c_irng2 G g1 h4 h5 ka kb
      | _ => exact absurd h Bool.false_ne_true
  | _ => exact absurd h Bool.false_ne_true
theorem s_enum {a : E} (iha : Sound T L N ow a) : Sound T L N ow (.enum a) := fun md sc x h W X G hN hS => by
  cases x with
  | Call fx xs ks p =>
    cases ks with
    | cons k ks => cases fx <;> (match xs, h with
      | [], h => exact absurd h Bool.false_ne_true
      | [_], h => exact absurd h Bool.false_ne_true
      | _ :: _ :: _, h => exact absurd h Bool.false_ne_true)
    | nil =>
      cases fx with
      | Name y q =>
        match xs, h with
        | [], h => exact absurd h Bool.false_ne_true
        | _ :: _ :: _, h => exact absurd h Bool.false_ne_true
        | [z], h =>
          obtain ⟨h1, k2⟩ := and2 (show (decide (md = .itr) && (decide (y = "enumerate") && (glB sc y && (noStar z && (!ownB a && mE T N ow .val sc a z))))) = true from h)
          obtain ⟨h2, k3⟩ := and2 k2
          obtain ⟨h3, k4⟩ := and2 k3
          obtain ⟨h4, k5⟩ := and2 k4
          obtain ⟨h5, h6⟩ := and2 k5
          obtain ⟨g1, g2, g3⟩ := gl_of hS h3
          have ka := iha .val sc z h6 W X G hN hS
          obtain rfl := of_decide_eq_true h1
          obtain rfl := of_decide_eq_true h2
          intro tg ht
          cases tg with
          | Tuple es k q => exact c_ienum G g1 h4 (not1 h5) ka
          | _ => exact absurd ht Bool.false_ne_true
      | _ => exact absurd h Bool.false_ne_true
  | _ => exact absurd h Bool.false_ne_true
theorem s_zip {a b : E} (iha : Sound T L N ow a) (ihb : Sound T L N ow b) : Sound T L N ow (.zip a b) := fun md sc x h W X G hN hS => by
  cases x with
  | Call fx xs ks p =>
    cases ks with
    | cons k ks => cases fx <;> (match xs, h with
      | [], h => exact absurd h Bool.false_ne_true
      | [_], h => exact absurd h Bool.false_ne_true
      | [_, _], h => exact absurd h Bool.false_ne_true
      | _ :: _ :: _ :: _, h => exact absurd h Bool.false_ne_true)
    | nil =>
      cases fx with
      | Name y q =>
        match xs, h with
        | [], h => exact absurd h Bool.false_ne_true
        | [_], h => exact absurd h Bool.false_ne_true
        | _ :: _ :: _ :: _, h => exact absurd h Bool.false_ne_true
        | [z, u], h =>
          obtain ⟨h1, k2⟩ := and2 (show (decide (md = .itr) && (decide (y = "zip") && (glB sc y && (noStar z && (noStar u && (!ownB a && (!ownB b && (mE T N ow .val sc a z && mE T N ow .val sc b u)))))))) = true from h)
          obtain ⟨h2, k3⟩ := and2 k2
          obtain ⟨h3, k4⟩ := and2 k3
          obtain ⟨h4, k5⟩ := and2 k4
          obtain ⟨h5, k6⟩ := and2 k5
          obtain ⟨o1, k7⟩ := and2 k6
          obtain ⟨o2, k8⟩ := and2 k7
          obtain ⟨h6, h7⟩ := and2 k8
          obtain ⟨g1, g2, g3⟩ := gl_of hS h3
          have ka := iha .val sc z h6 W X G hN hS
          have kb := ihb .val sc u h7 W X G hN hS
          obtain rfl := of_decide_eq_true h1
          obtain rfl := of_decide_eq_true h2
          intro tg ht
          cases tg with
          | Tuple es k q => exact c_izip G g1 h4 h5 (not1 o1) (not1 o2) ka kb
          | _ => exact absurd ht Bool.false_ne_true
      | _ => exact absurd h Bool.false_ne_true
  | _ => exact absurd h Bool.false_ne_true
theorem fnof_blk {X : Cx} {s : Shared} {H : Hp} {scope : Scope} {cenv : PySem.Env} {fp : List Addr} {l : List Nat} : FnOf (X.blk s H scope cenv fp) (some (scope, l)) := fun x h => by
  show (scope.names.lookup x == some .cell) = true
  rw [h]
  rfl
theorem s_lc {own : List (Str × Nat)} {tg : Pt} {it : E} {ifs : List E} {e : E} (ihi : Sound T L N ow it) (ihs : SoundL T L N ow ifs) (ihe : Sound T L N ow e) : Sound T L N ow (.lc own tg it ifs e) := fun md sc x h W X G hN hS => by
  cases x with
  | ListComp x cl scope p =>
    match cl, h with
    | [⟨t, i, cs, n⟩], h =>
      cases n with
      | negSucc m => exact absurd h Bool.false_ne_true
      | ofNat m =>
        cases m with
        | succ m => exact absurd h Bool.false_ne_true
        | zero =>
          obtain ⟨h1, k2⟩ := and2 (show (!ownB e && (noSet i && (tupT it t && (blkC N sc scope own && (own.all (fun p => !ow.contains p.2) && (mE T N ow .itr sc it i && (mPt N ow (some (scope, own.map (·.2))) (relS scope sc) tg t && (decide (cs.length ≤ 1) && (cs.all noStar && (mEs T N ow .tst (relS scope sc) ifs cs && mE T N ow .val (relS scope sc) e x)))))))))) = true from h)
          obtain ⟨h2, k3⟩ := and2 k2
          obtain ⟨h3, k4⟩ := and2 k3
          obtain ⟨h4, k5⟩ := and2 k4
          obtain ⟨h5, k6⟩ := and2 k5
          obtain ⟨h6, k7⟩ := and2 k6
          obtain ⟨h7, k8⟩ := and2 k7
          obtain ⟨h8, k9⟩ := and2 k8
          obtain ⟨h9, k10⟩ := and2 k9
          obtain ⟨h10, h11⟩ := and2 k10
          have po := mPt_own h7
          subst hN
          subst hS
          have c : PE X (.ListComp x [⟨t, i, cs, 0⟩] scope p) (rdE T X.K (owf ow) W (.lc own tg it ifs e)) := c_lc G h4 (fun j hj => ⟨(po j hj).1, (po j hj).2 _ _ rfl⟩) h2 (not1 h1) (ihi .itr _ i h6 W X G rfl rfl t h3)
            (fun s H C cl fp => pg_pt (X := X.blk s H scope (compEnvC scope cl C X.env) fp) G.calm rfl G.nd rfl fnof_blk h7)
            (fun s H C cl fp => (ihs .tst _ cs h10 W0 (X.blk s H scope (compEnvC scope cl C X.env) fp) (G.blk ..) rfl rfl).2 (of_decide_eq_true h8) h9)
            (fun s H C cl fp => ihe .val _ x h11 W0 (X.blk s H scope (compEnvC scope cl C X.env) fp) (G.blk ..) rfl rfl)
          exact all_v rfl rfl c (fun _ => rfl) md
    | [], h => exact absurd h Bool.false_ne_true
    | ⟨t, i, cs, n⟩ :: _ :: _, h =>
      cases n with
      | negSucc m => exact absurd h Bool.false_ne_true
      | ofNat m => cases m <;> exact absurd h Bool.false_ne_true
  | _ => exact absurd h Bool.false_ne_true
theorem s_lck {own : List (Str × Nat)} {tg : Pt} {it : E} {ifs : List E} {e : E} (ihi : Sound T L N ow it) (ihs : SoundL T L N ow ifs) (ihe : Sound T L N ow e) : Sound T L N ow (.lck own tg it ifs e) := fun md sc x h W X G hN hS => by
  cases x with
  | ListComp x cl scope p =>
    match cl, h with
    | [⟨t, i, cs, n⟩], h =>
      cases n with
      | negSucc m => exact absurd h Bool.false_ne_true
      | ofNat m =>
        cases m with
        | succ m => exact absurd h Bool.false_ne_true
        | zero =>
          obtain ⟨h1, k2⟩ := and2 (show (!ownB e && (noSet i && (!ownB it && (blkC N sc scope own && (own.all (fun p => !ow.contains p.2) && (mE T N ow .val sc it i && (mPt N ow (some (scope, own.map (·.2))) (relS scope sc) tg t && (decide (cs.length ≤ 1) && (cs.all noStar && (mEs T N ow .tst (relS scope sc) ifs cs && mE T N ow .val (relS scope sc) e x)))))))))) = true from h)
          obtain ⟨h2, k3⟩ := and2 k2
          obtain ⟨h3, k4⟩ := and2 k3
          obtain ⟨h4, k5⟩ := and2 k4
          obtain ⟨h5, k6⟩ := and2 k5
          obtain ⟨h6, k7⟩ := and2 k6
          obtain ⟨h7, k8⟩ := and2 k7
          obtain ⟨h8, k9⟩ := and2 k8
          obtain ⟨h9, k10⟩ := and2 k9
          obtain ⟨h10, h11⟩ := and2 k10
          have po := mPt_own h7
          subst hN
          subst hS
          have c : PE X (.ListComp x [⟨t, i, cs, 0⟩] scope p) (rdE T X.K (owf ow) W (.lck own tg it ifs e)) := c_lck G h4 (fun j hj => ⟨(po j hj).1, (po j hj).2 _ _ rfl⟩) h2 (not1 h1) (not1 h3) (ihi .val _ i h6 W X G rfl rfl)
            (fun s H C cl fp => pg_pt (X := X.blk s H scope (compEnvC scope cl C X.env) fp) G.calm rfl G.nd rfl fnof_blk h7)
            (fun s H C cl fp => (ihs .tst _ cs h10 W0 (X.blk s H scope (compEnvC scope cl C X.env) fp) (G.blk ..) rfl rfl).2 (of_decide_eq_true h8) h9)
            (fun s H C cl fp => ihe .val _ x h11 W0 (X.blk s H scope (compEnvC scope cl C X.env) fp) (G.blk ..) rfl rfl)
          exact all_v rfl rfl c (fun _ => rfl) md
    | [], h => exact absurd h Bool.false_ne_true
    | ⟨t, i, cs, n⟩ :: _ :: _, h =>
      cases n with
      | negSucc m => exact absurd h Bool.false_ne_true
      | ofNat m => cases m <;> exact absurd h Bool.false_ne_true
  | _ => exact absurd h Bool.false_ne_true
theorem s_lc2 {own : List (Str × Nat)} {vs1 : List Nat} {tg tg1 : Pt} {it it1 : E} {ifs ifs1 : List E} {e : E} (ihi : Sound T L N ow it) (ihs : SoundL T L N ow ifs) (ihi1 : Sound T L N ow it1) (ihs1 : SoundL T L N ow ifs1) (ihe : Sound T L N ow e) : Sound T L N ow (.lc2 own tg it ifs vs1 tg1 it1 ifs1 e) := fun md sc x h W X G hN hS => by
  cases x with
  | ListComp x cl scope p =>
    match cl, h with
    | [⟨t, i, cs, n⟩, ⟨t1, i1, cs1, n1⟩], h =>
      cases n with
      | negSucc m => exact absurd h Bool.false_ne_true
      | ofNat m =>
        cases m with
        | succ m => exact absurd h Bool.false_ne_true
        | zero =>
          cases n1 with
          | negSucc m => exact absurd h Bool.false_ne_true
          | ofNat m =>
            cases m with
            | succ m => exact absurd h Bool.false_ne_true
            | zero =>
              obtain ⟨h1, k2⟩ := and2 (show (!ownB e && (noSet i && (noSet i1 && (tupT it t && (tupT it1 t1 && (blkC N sc scope own && (own.all (fun p => !ow.contains p.2) && (vs1.all (fun j => (own.map (·.2)).contains j) && (!ownS it1 && (mE T N ow .itr sc it i && (mPt N ow (some (scope, own.map (·.2))) (relS scope sc) tg t && (mE T N ow .itr (relS scope sc) it1 i1 && (mPt N ow (some (scope, vs1)) (relS scope sc) tg1 t1 && (decide (cs.length ≤ 1) && (cs.all noStar && (decide (cs1.length ≤ 1) && (cs1.all noStar && (mEs T N ow .tst (relS scope sc) ifs cs && (mEs T N ow .tst (relS scope sc) ifs1 cs1 && mE T N ow .val (relS scope sc) e x))))))))))))))))))) = true from h)
              obtain ⟨h2, k3⟩ := and2 k2
              obtain ⟨h3, k4⟩ := and2 k3
              obtain ⟨h4, k5⟩ := and2 k4
              obtain ⟨h5, k6⟩ := and2 k5
              obtain ⟨h6, k7⟩ := and2 k6
              obtain ⟨h7, k8⟩ := and2 k7
              obtain ⟨h8, k9⟩ := and2 k8
              obtain ⟨h9, k10⟩ := and2 k9
              obtain ⟨h10, k11⟩ := and2 k10
              obtain ⟨h11, k12⟩ := and2 k11
              obtain ⟨h12, k13⟩ := and2 k12
              obtain ⟨h13, k14⟩ := and2 k13
              obtain ⟨h14, k15⟩ := and2 k14
              obtain ⟨h15, k16⟩ := and2 k15
              obtain ⟨h16, k17⟩ := and2 k16
              obtain ⟨h17, k18⟩ := and2 k17
              obtain ⟨h18, k19⟩ := and2 k18
              obtain ⟨h19, h20⟩ := and2 k19
              have po := mPt_own h11
              have po1 := mPt_own h13
              subst hN
              subst hS
              have c : PE X (.ListComp x [⟨t, i, cs, 0⟩, ⟨t1, i1, cs1, 0⟩] scope p) (rdE T X.K (owf ow) W (.lc2 own tg it ifs vs1 tg1 it1 ifs1 e)) := c_lc2 G h6 (vs_of h8) (fun j hj => ⟨(po j hj).1, (po j hj).2 _ _ rfl⟩) (fun j hj => ⟨(po1 j hj).1, (po1 j hj).2 _ _ rfl⟩) h2 h3 (not1 h9) (not1 h1) (ihi .itr _ i h10 W X G rfl rfl t h4)
                (fun s H C cl fp => pg_pt (X := X.blk s H scope (compEnvC scope cl C X.env) fp) G.calm rfl G.nd rfl fnof_blk h11)
                (fun s H C cl fp => (ihs .tst _ cs h18 W0 (X.blk s H scope (compEnvC scope cl C X.env) fp) (G.blk ..) rfl rfl).2 (of_decide_eq_true h14) h15)
                (fun s H C cl fp => ihi1 .itr _ i1 h12 W0 (X.blk s H scope (compEnvC scope cl C X.env) fp) (G.blk ..) rfl rfl t1 h5)
                (fun s H C cl fp => pg_pt (X := X.blk s H scope (compEnvC scope cl C X.env) fp) G.calm rfl G.nd rfl fnof_blk h13)
                (fun s H C cl fp => (ihs1 .tst _ cs1 h19 W0 (X.blk s H scope (compEnvC scope cl C X.env) fp) (G.blk ..) rfl rfl).2 (of_decide_eq_true h16) h17)
                (fun s H C cl fp => ihe .val _ x h20 W0 (X.blk s H scope (compEnvC scope cl C X.env) fp) (G.blk ..) rfl rfl)
              exact all_v rfl rfl c (fun _ => rfl) md
    | [], h => exact absurd h Bool.false_ne_true
    | [⟨t, i, cs, n⟩], h =>
      cases n with
      | negSucc m => exact absurd h Bool.false_ne_true
      | ofNat m => cases m <;> exact absurd h Bool.false_ne_true
    | ⟨t, i, cs, n⟩ :: ⟨t1, i1, cs1, n1⟩ :: _ :: _, h =>
      cases n with
      | negSucc m => exact absurd h Bool.false_ne_true
      | ofNat m =>
        cases m with
        | succ m => exact absurd h Bool.false_ne_true
        | zero =>
          cases n1 with
          | negSucc m => exact absurd h Bool.false_ne_true
          | ofNat m => cases m <;> exact absurd h Bool.false_ne_true
  | _ => exact absurd h Bool.false_ne_true
theorem s_dc {own : List (Str × Nat)} {tg : Pt} {it : E} {ifs : List E} {ek ev : E} (ihi : Sound T L N ow it) (ihs : SoundL T L N ow ifs) (ihk : Sound T L N ow ek) (ihe : Sound T L N ow ev) : Sound T L N ow (.dc own tg it ifs ek ev) := fun md sc x h W X G hN hS => by
  cases x with
  | DictComp y x cl scope p =>
    match cl, h with
    | [⟨t, i, cs, n⟩], h =>
      cases n with
      | negSucc m => exact absurd h Bool.false_ne_true
      | ofNat m =>
        cases m with
        | succ m => exact absurd h Bool.false_ne_true
        | zero =>
          obtain ⟨h0, k1⟩ := and2 (show (!ownB ek && (!ownB ev && (noSet i && (tupT it t && (blkC N sc scope own && (own.all (fun p => !ow.contains p.2) && (mE T N ow .itr sc it i && (mPt N ow (some (scope, own.map (·.2))) (relS scope sc) tg t && (decide (cs.length ≤ 1) && (cs.all noStar && (mEs T N ow .tst (relS scope sc) ifs cs && (mE T N ow .val (relS scope sc) ek y && mE T N ow .val (relS scope sc) ev x)))))))))))) = true from h)
          obtain ⟨h1, k2⟩ := and2 k1
          obtain ⟨h2, k3⟩ := and2 k2
          obtain ⟨h3, k4⟩ := and2 k3
          obtain ⟨h4, k5⟩ := and2 k4
          obtain ⟨h5, k6⟩ := and2 k5
          obtain ⟨h6, k7⟩ := and2 k6
          obtain ⟨h7, k8⟩ := and2 k7
          obtain ⟨h8, k9⟩ := and2 k8
          obtain ⟨h9, k10⟩ := and2 k9
          obtain ⟨h10, k11⟩ := and2 k10
          obtain ⟨h11, h12⟩ := and2 k11
          have po := mPt_own h7
          subst hN
          subst hS
          have c : PE X (.DictComp y x [⟨t, i, cs, 0⟩] scope p) (rdE T X.K (owf ow) W (.dc own tg it ifs ek ev)) := c_dc G h4 (fun j hj => ⟨(po j hj).1, (po j hj).2 _ _ rfl⟩) h2 (not1 h1) (ihi .itr _ i h6 W X G rfl rfl t h3)
            (fun s H C cl fp => pg_pt (X := X.blk s H scope (compEnvC scope cl C X.env) fp) G.calm rfl G.nd rfl fnof_blk h7)
            (fun s H C cl fp => (ihs .tst _ cs h10 W0 (X.blk s H scope (compEnvC scope cl C X.env) fp) (G.blk ..) rfl rfl).2 (of_decide_eq_true h8) h9)
            (fun s H C cl fp => ihk .val _ y h11 W0 (X.blk s H scope (compEnvC scope cl C X.env) fp) (G.blk ..) rfl rfl)
            (fun s H C cl fp => ihe .val _ x h12 W0 (X.blk s H scope (compEnvC scope cl C X.env) fp) (G.blk ..) rfl rfl)
          exact all_v rfl rfl c (fun _ => rfl) md
    | [], h => exact absurd h Bool.false_ne_true
    | ⟨t, i, cs, n⟩ :: _ :: _, h =>
      cases n with
      | negSucc m => exact absurd h Bool.false_ne_true
      | ofNat m => cases m <;> exact absurd h Bool.false_ne_true
  | _ => exact absurd h Bool.false_ne_true
theorem s_binN {op : Operator} {a b : E} (iha : Sound T L N ow a) (ihb : Sound T L N ow b) : Sound T L N ow (.binN op a b) := fun md sc x h W X G hN hS => by
  cases x with
  | BinOp x op' y p =>
    obtain ⟨h1, h2⟩ := and2 (show (decide (op = op') && (mE T N ow .val sc a x && mE T N ow .val sc b y)) = true from h)
    obtain ⟨h2, h3⟩ := and2 h2
    obtain rfl := of_decide_eq_true h1
    exact all_v rfl rfl (c_binN (iha .val sc x h2 W X G hN hS) (ihb .val sc y h3 W X G hN hS)) (fun _ => rfl) md
  | _ => exact absurd h Bool.false_ne_true
theorem s_index {o : E} {es : List E} (iho : Sound T L N ow o) (ihs : SoundL T L N ow es) : Sound T L N ow (.bm .index o es) := fun md sc x h W X G hN hS => by
  cases x with
  | Call f xs ks cp =>
    cases f with
    | Attribute x m ap =>
      match xs, ks, h with
      | [], _, h => exact absurd h Bool.false_ne_true
      | _ :: _ :: _, _, h => exact absurd h Bool.false_ne_true
      | [_], _ :: _, h => exact absurd h Bool.false_ne_true
      | [y], [], h =>
        obtain ⟨h1, k2⟩ := and2 (show (decide (m = "index") && ((ap.endLine == cp.line) && (noStar y && (noCall x && (mE T N ow .val sc o x && mEs T N ow .val sc es [y]))))) = true from h)
        obtain ⟨h2, k3⟩ := and2 k2
        obtain ⟨h3, k4⟩ := and2 k3
        obtain ⟨h4, k5⟩ := and2 k4
        obtain ⟨h5, h6⟩ := and2 k5
        have k1 := iho .val sc x h5 W X G hN hS
        have k2 := (ihs .val sc [y] h6 W X G hN hS).1
        obtain rfl := of_decide_eq_true h1
        exact all_v rfl rfl (c_index G h4 h2 h3 k1 k2) (fun _ => rfl) md
    | _ => (match xs, ks, h with
      | [], _, h => exact absurd h Bool.false_ne_true
      | [_], [], h => exact absurd h Bool.false_ne_true
      | [_], _ :: _, h => exact absurd h Bool.false_ne_true
      | _ :: _ :: _, _, h => exact absurd h Bool.false_ne_true)
  | _ => exact absurd h Bool.false_ne_true
theorem s_pick {c : E} {es : List E} (ihc : Sound T L N ow c) (ihs : SoundL T L N ow es) : Sound T L N ow (.pick c es) := fun md sc x h W X G hN hS => by
  cases x with
  | Call f xs ks cp =>
    cases ks with
    | cons k ks => cases f <;> exact absurd h Bool.false_ne_true
    | nil =>
      cases f with
      | Subscript o i p =>
        obtain ⟨h1, k2⟩ := and2 (show (decide (1 ≤ xs.length) && (xs.all noStar && (mE T N ow .val sc c (.Subscript o i p) && mEs T N ow .val sc es xs))) = true from h)
        obtain ⟨h2, k3⟩ := and2 k2
        obtain ⟨h3, h4⟩ := and2 k3
        exact all_v rfl rfl (c_pick G (of_decide_eq_true h1) h2 (ihc .val sc _ h3 W X G hN hS) (ihs .val sc xs h4 W X G hN hS).1) (fun _ => rfl) md
      | _ => exact absurd h Bool.false_ne_true
  | _ => exact absurd h Bool.false_ne_true
theorem s_rev {a : E} (iha : Sound T L N ow a) : Sound T L N ow (.rev a) := fun md sc x h W X G hN hS => by
  cases x with
  | Subscript x y p =>
    cases y with
    | Slice lo hi st q =>
      match lo, hi, st, h with
      | some _, _, _, h => exact absurd h Bool.false_ne_true
      | none, some _, _, h => exact absurd h Bool.false_ne_true
      | none, none, none, h => exact absurd h Bool.false_ne_true
      | none, none, some u, h =>
        cases u with
        | UnaryOp o v r =>
          cases o with
          | USub =>
            cases v with
            | Constant k j r2 =>
              cases k with
              | int n =>
                by_cases hn : n = 1
                · subst hn
                  exact all_v rfl rfl (c_rev (iha .val sc x (show mE T N ow .val sc a x = true from h) W X G hN hS)) (fun _ => rfl) md
                · exfalso
                  revert h
                  cases n with
                  | negSucc m => exact fun h => absurd h Bool.false_ne_true
                  | ofNat m =>
                    match m with
                    | 0 => exact fun h => absurd h Bool.false_ne_true
                    | 1 => exact absurd rfl hn
                    | m + 2 => exact fun h => absurd h Bool.false_ne_true
              | _ => exact absurd h Bool.false_ne_true
            | _ => exact absurd h Bool.false_ne_true
          | _ => exact absurd h Bool.false_ne_true
        | _ => exact absurd h Bool.false_ne_true
    | _ => exact absurd h Bool.false_ne_true
  | _ => exact absurd h Bool.false_ne_true
theorem s_newst {e : E} (ih : Sound T L N ow e) : Sound T L N ow (.newst e) := fun md sc x h W X G hN hS => by
  cases x with
  | List xs p =>
    match xs, h with
    | [], h => exact absurd h Bool.false_ne_true
    | [_], h => exact absurd h Bool.false_ne_true
    | _ :: y :: _ :: _, h =>
      cases y with
      | Constant k j q =>
        cases k with
        | int n =>
          cases n with
          | negSucc m => exact absurd h Bool.false_ne_true
          | ofNat m => cases m <;> exact absurd h Bool.false_ne_true
        | _ => exact absurd h Bool.false_ne_true
      | _ => exact absurd h Bool.false_ne_true
    | [z, y], h =>
      cases y with
      | Constant k j q =>
        cases k with
        | int n =>
          cases n with
          | negSucc m => exact absurd h Bool.false_ne_true
          | ofNat m =>
            cases m with
            | succ m => exact absurd h Bool.false_ne_true
            | zero =>
              obtain ⟨h1, k2⟩ := and2 (show (!ownB e && (noStar z && mE T N ow .val sc e z)) = true from h)
              obtain ⟨h2, h3⟩ := and2 k2
              have c : PE X (.List [z, .Constant (.int 0) j q] p) (rdE T X.K (owf ow) W (.newst e)) := c_newst (not1 h1) h2 (ih .val sc z h3 W X G hN hS)
              exact all_v rfl rfl c (fun _ => rfl) md
        | _ => exact absurd h Bool.false_ne_true
      | _ => exact absurd h Bool.false_ne_true
  | _ => exact absurd h Bool.false_ne_true
theorem s_lrng {a : E} (ih : Sound T L N ow a) : Sound T L N ow (.lrng a) := fun md sc x h W X G hN hS => by
  cases x with
  | Call f xs ks p =>
    cases f with
    | Name x q =>
      match xs, ks, h with
      | [], _, h => exact absurd h Bool.false_ne_true
      | y :: _ :: _, ks, h =>
        cases y with
        | Call g zs ls r =>
          cases g with
          | Name u v =>
            match zs, ls, h with
            | [], _, h => exact absurd h Bool.false_ne_true
            | [_], [], h => exact absurd h Bool.false_ne_true
            | [_], _ :: _, h => exact absurd h Bool.false_ne_true
            | _ :: _ :: _, _, h => exact absurd h Bool.false_ne_true
          | _ => exact absurd h Bool.false_ne_true
        | _ => exact absurd h Bool.false_ne_true
      | [y], ks, h =>
        cases y with
        | Call g zs ls r =>
          cases g with
          | Name u v =>
            match zs, ls, ks, h with
            | [], _, _, h => exact absurd h Bool.false_ne_true
            | [_], _ :: _, _, h => exact absurd h Bool.false_ne_true
            | _ :: _ :: _, _, _, h => exact absurd h Bool.false_ne_true
            | [_], [], _ :: _, h => exact absurd h Bool.false_ne_true
            | [z], [], [], h =>
              obtain ⟨h1, k2⟩ := and2 (show (decide (x = "list") && (decide (u = "range") && (glB sc x && (glB sc u && (noStar z && mE T N ow .val sc a z))))) = true from h)
              obtain ⟨h2, k3⟩ := and2 k2
              obtain ⟨h3, k4⟩ := and2 k3
              obtain ⟨h4, k5⟩ := and2 k4
              obtain ⟨h5, h6⟩ := and2 k5
              have ka := ih .val sc z h6 W X G hN hS
              have g1 := (gl_of hS h3).1
              have g2 := (gl_of hS h4).1
              obtain rfl := of_decide_eq_true h1
              obtain rfl := of_decide_eq_true h2
              exact all_v rfl rfl (c_lrng G g1 g2 h5 ka) (fun _ => rfl) md
          | _ => exact absurd h Bool.false_ne_true
        | _ => exact absurd h Bool.false_ne_true
    | _ => exact absurd h Bool.false_ne_true
  | _ => exact absurd h Bool.false_ne_true
theorem s_lenset {a : E} (ih : Sound T L N ow a) : Sound T L N ow (.lenset a) := fun md sc x h W X G hN hS => by
  cases x with
  | Call f xs ks p =>
    cases f with
    | Name x q =>
      match xs, ks, h with
      | [], _, h => exact absurd h Bool.false_ne_true
      | y :: _ :: _, ks, h =>
        cases y with
        | Call g zs ls r =>
          cases g with
          | Name u v =>
            match zs, ls, h with
            | [], _, h => exact absurd h Bool.false_ne_true
            | [_], [], h => exact absurd h Bool.false_ne_true
            | [_], _ :: _, h => exact absurd h Bool.false_ne_true
            | _ :: _ :: _, _, h => exact absurd h Bool.false_ne_true
          | _ => exact absurd h Bool.false_ne_true
        | _ => exact absurd h Bool.false_ne_true
      | [y], ks, h =>
        cases y with
        | Call g zs ls r =>
          cases g with
          | Name u v =>
            match zs, ls, ks, h with
            | [], _, _, h => exact absurd h Bool.false_ne_true
            | [_], _ :: _, _, h => exact absurd h Bool.false_ne_true
            | _ :: _ :: _, _, _, h => exact absurd h Bool.false_ne_true
            | [_], [], _ :: _, h => exact absurd h Bool.false_ne_true
            | [z], [], [], h =>
              obtain ⟨h1, k2⟩ := and2 (show (decide (x = "len") && (decide (u = "set") && (glB sc x && (glB sc u && (noStar z && mE T N ow .val sc a z))))) = true from h)
              obtain ⟨h2, k3⟩ := and2 k2
              obtain ⟨h3, k4⟩ := and2 k3
              obtain ⟨h4, k5⟩ := and2 k4
              obtain ⟨h5, h6⟩ := and2 k5
              have ka := ih .val sc z h6 W X G hN hS
              have g1 := (gl_of hS h3).1
              have g2 := (gl_of hS h4).1
              obtain rfl := of_decide_eq_true h1
              obtain rfl := of_decide_eq_true h2
              exact all_v rfl rfl (c_lenset G g1 g2 h5 ka) (fun _ => rfl) md
          | _ => exact absurd h Bool.false_ne_true
        | _ => exact absurd h Bool.false_ne_true
    | _ => exact absurd h Bool.false_ne_true
  | _ => exact absurd h Bool.false_ne_true
theorem s_dictzip {a b : E} (ih : Sound T L N ow a) (ih2 : Sound T L N ow b) : Sound T L N ow (.dictzip a b) := fun md sc x h W X G hN hS => by
  cases x with
  | Call f xs ks p =>
    cases f with
    | Name x q =>
      match xs, ks, h with
      | [], _, h => exact absurd h Bool.false_ne_true
      | y :: _ :: _, ks, h =>
        cases y with
        | Call g zs ls r =>
          cases g with
          | Name u v =>
            match zs, ls, h with
            | [], _, h => exact absurd h Bool.false_ne_true
            | [_], _, h => exact absurd h Bool.false_ne_true
            | [_, _], [], h => exact absurd h Bool.false_ne_true
            | [_, _], _ :: _, h => exact absurd h Bool.false_ne_true
            | _ :: _ :: _ :: _, _, h => exact absurd h Bool.false_ne_true
          | _ => exact absurd h Bool.false_ne_true
        | _ => exact absurd h Bool.false_ne_true
      | [y], ks, h =>
        cases y with
        | Call g zs ls r =>
          cases g with
          | Name u v =>
            match zs, ls, ks, h with
            | [], _, _, h => exact absurd h Bool.false_ne_true
            | [_], _, _, h => exact absurd h Bool.false_ne_true
            | [_, _], _ :: _, _, h => exact absurd h Bool.false_ne_true
            | _ :: _ :: _ :: _, _, _, h => exact absurd h Bool.false_ne_true
            | [_, _], [], _ :: _, h => exact absurd h Bool.false_ne_true
            | [z, w], [], [], h =>
              obtain ⟨h1, k2⟩ := and2 (show (decide (x = "dict") && (decide (u = "zip") && (glB sc x && (glB sc u && (noStar z && (noStar w && (mE T N ow .val sc a z && mE T N ow .val sc b w))))))) = true from h)
              obtain ⟨h2, k3⟩ := and2 k2
              obtain ⟨h3, k4⟩ := and2 k3
              obtain ⟨h4, k5⟩ := and2 k4
              obtain ⟨h5, k6⟩ := and2 k5
              obtain ⟨h6, k7⟩ := and2 k6
              obtain ⟨h7, h8⟩ := and2 k7
              have ka := ih .val sc z h7 W X G hN hS
              have kb := ih2 .val sc w h8 W X G hN hS
              have g1 := (gl_of hS h3).1
              have g2 := (gl_of hS h4).1
              obtain rfl := of_decide_eq_true h1
              obtain rfl := of_decide_eq_true h2
              exact all_v rfl rfl (c_dictzip G g1 g2 h5 h6 ka kb) (fun _ => rfl) md
          | _ => exact absurd h Bool.false_ne_true
        | _ => exact absurd h Bool.false_ne_true
    | _ => exact absurd h Bool.false_ne_true
  | _ => exact absurd h Bool.false_ne_true
end
end DL

/-! D5: the checker is right for expressions: lists; the whole -/
namespace DL
open PySem PySem.Spec PyProof.Rows L2 Evl

section
variable {T : Tb} {L : Nat} {N : List Str} {ow : List Nat}
def isStar : E → Bool
  | .star _ => true
  | _ => false
theorem mEs_cons {md : Md} {sc : Scope} {e : E} {es : List E} {x : Expr} {xs : List Expr} (h : mEs T N ow md sc (e :: es) (x :: xs) = true) :
    (∃ e' x' p, e = .star e' ∧ x = .Starred x' p ∧ mE T N ow md sc e' x' = true ∧ mEs T N ow md sc es xs = true) ∨ (isStar e = false ∧ noStar x = true ∧ mE T N ow md sc e x = true ∧ mEs T N ow md sc es xs = true) := by
  by_cases hs : isStar e = true
  · cases e with
    | star e' =>
      cases x with
      | Starred x' p => exact .inl ⟨e', x', p, rfl, rfl, and2 h⟩
      | _ => exact absurd (and2 (and2 h).2).1 Bool.false_ne_true
    | _ => cases hs
  · have hs' : isStar e = false := by simpa using hs
    have h' : (noStar x && (mE T N ow md sc e x && mEs T N ow md sc es xs)) = true := by
      cases e with
      | star e' => cases hs'
      | _ => exact h
    obtain ⟨h1, h2⟩ := and2 h'
    obtain ⟨h2, h3⟩ := and2 h2
    exact .inr ⟨hs', h1, h2, h3⟩
theorem wp_cons {X : EK} {e : E} {es : List E} {ρ : DE} {Q : List D → Prop} (hs : isStar e = false) (h : wpEs T X (e :: es) ρ Q) : wpE T X e ρ fun d => wpEs T X es ρ fun ds => Q (d :: ds) := by
  cases e with
  | star e' => cases hs
  | _ => exact h
theorem sl_nil : SoundL T L N ow [] := fun md sc xs h W X G hN hS => by
  cases xs with
  | cons x xs => exact absurd h Bool.false_ne_true
  | nil =>
    cases md with
    | val => exact ⟨as_nil, fun _ _ z => absurd rfl z⟩
    | tst => exact ⟨fun _ _ z => absurd rfl z, fun _ _ => ts_nil⟩
    | itr => trivial
theorem sl_cons {e : E} {es : List E} (ihe : Sound T L N ow e) (ihs : ∀ e', e = .star e' → Sound T L N ow e') (ihl : SoundL T L N ow es) : SoundL T L N ow (e :: es) := fun md sc xs h W X G hN hS => by
  cases xs with
  | nil => cases e <;> exact absurd h Bool.false_ne_true
  | cons x xs =>
    rcases mEs_cons h with ⟨e', x', p, rfl, rfl, h1, h2⟩ | ⟨h0, h1, h2, h3⟩
    · have k := ihs e' rfl md sc x' h1 W X G hN hS
      have kl := ihl md sc xs h2 W X G hN hS
      cases md with
      | val => exact ⟨as_star k kl.1, fun z => absurd z Bool.false_ne_true⟩
      | tst => exact ⟨fun z => absurd z Bool.false_ne_true, fun _ z => absurd z Bool.false_ne_true⟩
      | itr => trivial
    · have k := ihe md sc x h2 W X G hN hS
      have kl := ihl md sc xs h3 W X G hN hS
      cases md with
      | itr => trivial
      | val =>
        refine ⟨as_cons h1 (fun xk ρ Q q => wp_cons h0 q) k kl.1, fun n o _ pos => ?_⟩
        obtain ⟨n1, n2⟩ := and2 (show (noStar x && xs.all noStar) = true from n)
        obtain ⟨o1, o2⟩ := and2 (show (!ownB e && es.all (fun e => !ownB e)) = true from o)
        cases xs with
        | nil =>
          cases es with
          | nil => exact ⟨c_and1 (not1 o1) k, c_or1 (not1 o1) k⟩
          | cons e2 es => cases e2 <;> exact absurd h3 Bool.false_ne_true
        | cons y ys =>
          cases es with
          | nil => exact absurd h3 Bool.false_ne_true
          | cons e2 es =>
            obtain ⟨ka, ko⟩ := kl.2 n2 o2 (fun z => nomatch z) pos
            exact ⟨c_andC k ka, c_orC k ko⟩
      | tst =>
        refine ⟨fun n o _ pos => ?_, fun hl n => ?_⟩
        · obtain ⟨n1, n2⟩ := and2 (show (noStar x && xs.all noStar) = true from n)
          obtain ⟨o1, o2⟩ := and2 (show (!ownB e && es.all (fun e => !ownB e)) = true from o)
          cases xs with
          | nil =>
            cases es with
            | nil => exact ⟨c_and1T k, c_or1T k⟩
            | cons e2 es => cases e2 <;> exact absurd h3 Bool.false_ne_true
          | cons y ys =>
            cases es with
            | nil => exact absurd h3 Bool.false_ne_true
            | cons e2 es =>
              obtain ⟨ka, ko⟩ := kl.1 n2 o2 (fun z => nomatch z) pos
              exact ⟨c_andCT k ka, c_orCT k ko⟩
        · cases xs with
          | nil =>
            cases es with
            | nil => exact ts_one k
            | cons e2 es => cases e2 <;> exact absurd h3 Bool.false_ne_true
          | cons y ys => exact absurd (show ys.length + 1 + 1 ≤ 1 from hl) (by omega)
theorem len1 {xs : List Expr} (h : decide (1 ≤ xs.length) = true) : xs ≠ [] := fun z => by
  rw [z] at h
  cases h
theorem s_and {es : List E} (ih : SoundL T L N ow es) : Sound T L N ow (.and es) := fun md sc x h W X G hN hS => by
  cases x with
  | BoolOp op xs p =>
    cases op with
    | And =>
      obtain ⟨h0, k1⟩ := and2 (show (decide (md ≠ .itr) && (es.all (fun e => !ownB e) && (xs.all noStar && (mEs T N ow md sc es xs && decide (1 ≤ xs.length))))) = true from h)
      obtain ⟨h1, k2⟩ := and2 k1
      obtain ⟨h2, k3⟩ := and2 k2
      obtain ⟨h3, h4⟩ := and2 k3
      have k := ih md sc xs h3 W X G hN hS
      cases md with
      | itr => exact absurd h0 (by decide)
      | val => exact (k.2 h2 h1 (len1 h4) p).1
      | tst => exact (k.1 h2 h1 (len1 h4) p).1.pt
    | Or => exact absurd h Bool.false_ne_true
  | _ => exact absurd h Bool.false_ne_true
theorem s_or {es : List E} (ih : SoundL T L N ow es) : Sound T L N ow (.or es) := fun md sc x h W X G hN hS => by
  cases x with
  | BoolOp op xs p =>
    cases op with
    | Or =>
      obtain ⟨h0, k1⟩ := and2 (show (decide (md ≠ .itr) && (es.all (fun e => !ownB e) && (xs.all noStar && (mEs T N ow md sc es xs && decide (1 ≤ xs.length))))) = true from h)
      obtain ⟨h1, k2⟩ := and2 k1
      obtain ⟨h2, k3⟩ := and2 k2
      obtain ⟨h3, h4⟩ := and2 k3
      have k := ih md sc xs h3 W X G hN hS
      cases md with
      | itr => exact absurd h0 (by decide)
      | val => exact (k.2 h2 h1 (len1 h4) p).2
      | tst => exact (k.1 h2 h1 (len1 h4) p).2.pt
    | And => exact absurd h Bool.false_ne_true
  | _ => exact absurd h Bool.false_ne_true
def Sound2 (T : Tb) (L : Nat) (N : List Str) (ow : List Nat) (e : E) : Prop := Sound T L N ow e ∧ ∀ e', e = .star e' → Sound T L N ow e'
theorem s2 {e : E} (h : Sound T L N ow e) (hs : isStar e = false) : Sound2 T L N ow e := ⟨h, fun e' z => by rw [z] at hs; cases hs⟩
theorem mE_none {e : E} (he : ∀ md sc x, mE T N ow md sc e x = false) (hs : isStar e = false) : Sound2 T L N ow e := s2 (s_never he) hs
mutual
theorem snd2 : ∀ e : E, Sound2 T L N ow e
  | .var i => s2 s_var rfl
  | .own i => s2 s_own rfl
  | .con d => s2 s_con rfl
  | .glob x => s2 s_glob rfl
  | .tup es => s2 (s_tup (sndEs es)) rfl
  | .lst es => s2 (s_lst (sndEs es)) rfl
  | .star e => ⟨s_never fun md sc x => by cases x <;> rfl, fun e' z => by cases z; exact (snd2 e).1⟩
  | .bin op a b => s2 (s_bin (snd2 a).1 (snd2 b).1) rfl
  | .binN op a b => s2 (s_binN (snd2 a).1 (snd2 b).1) rfl
  | .lrng a => s2 (s_lrng (snd2 a).1) rfl
  | .lenset a => s2 (s_lenset (snd2 a).1) rfl
  | .dictzip a b => s2 (s_dictzip (snd2 a).1 (snd2 b).1) rfl
  | .neg a => s2 (s_neg (snd2 a).1) rfl
  | .inv a => s2 (s_inv (snd2 a).1) rfl
  | .cmp op a b => s2 (s_cmp (snd2 a).1 (snd2 b).1) rfl
  | .chain o1 o2 a b c => s2 (s_chain (snd2 a).1 (snd2 b).1 (snd2 c).1) rfl
  | .inn neg a b => s2 (s_inn (snd2 a).1 (snd2 b).1) rfl
  | .din neg a b => s2 (s_din (snd2 a).1 (snd2 b).1) rfl
  | .isn neg a => s2 (s_isn (snd2 a).1) rfl
  | .and es => s2 (s_and (sndEs es)) rfl
  | .or es => s2 (s_or (sndEs es)) rfl
  | .not a => s2 (s_not (snd2 a).1) rfl
  | .ite c a b => s2 (s_ite (snd2 c).1 (snd2 a).1 (snd2 b).1) rfl
  | .sub a i => s2 (s_sub (snd2 a).1 (snd2 i).1) rfl
  | .dget a i => s2 (s_dget (snd2 a).1 (snd2 i).1) rfl
  | .tget x i d => s2 (s_tget (snd2 i).1 (snd2 d).1) rfl
  | .dgetd a i d => mE_none (fun md sc x => by cases x <;> rfl) rfl
  | .slice a lo hi => s2 (s_slice (snd2 a).1 (sndO lo) (sndO hi)) rfl
  | .rev a => s2 (s_rev (snd2 a).1) rfl
  | .blt f es => s2 (s_blt (sndEs es)) rfl
  | .call f es => s2 (s_call (sndEs es)) rfl
  | .pick c es => s2 (s_pick (snd2 c).1 (sndEs es)) rfl
  | .bm m o es => by
    cases m with
    | index => exact s2 (s_index (snd2 o).1 (sndEs es)) rfl
    | _ => exact mE_none (fun md sc x => by cases x <;> rfl) rfl
  | .meth c m o es => s2 (s_meth (snd2 o).1 (sndEs es)) rfl
  | .attr c f o => s2 (s_attr (snd2 o).1) rfl
  | .mk c es => s2 (s_mk (sndEs es)) rfl
  | .lc own tg it ifs e => s2 (s_lc (snd2 it).1 (sndEs ifs) (snd2 e).1) rfl
  | .lck own tg it ifs e => s2 (s_lck (snd2 it).1 (sndEs ifs) (snd2 e).1) rfl
  | .lc2 own tg it ifs own2 tg2 it2 ifs2 e => s2 (s_lc2 (snd2 it).1 (sndEs ifs) (snd2 it2).1 (sndEs ifs2) (snd2 e).1) rfl
  | .dc own tg it ifs k v => s2 (s_dc (snd2 it).1 (sndEs ifs) (snd2 k).1 (snd2 v).1) rfl
  | .dnew t => s2 s_dnew rfl
  | .rng a => s2 (s_rng (snd2 a).1) rfl
  | .rng2 a b => s2 (s_rng2 (snd2 a).1 (snd2 b).1) rfl
  | .enum e => s2 (s_enum (snd2 e).1) rfl
  | .zip a b => s2 (s_zip (snd2 a).1 (snd2 b).1) rfl
  | .items e => mE_none (fun md sc x => by cases x <;> rfl) rfl
  | .vals e => mE_none (fun md sc x => by cases x <;> rfl) rfl
  | .keys e => mE_none (fun md sc x => by cases x <;> rfl) rfl
  | .newst e => s2 (s_newst (snd2 e).1) rfl
theorem sndEs : ∀ es : List E, SoundL T L N ow es
  | [] => sl_nil
  | e :: es => sl_cons (snd2 e).1 (snd2 e).2 (sndEs es)
theorem sndO : ∀ e : Option E, SoundO T L N ow e
  | none => s_none
  | some e => s_some (snd2 e).1
end
theorem sndE (e : E) : Sound T L N ow e := (snd2 e).1
end
end DL

/-! D6: statements: the frame, the simple ones -/
namespace DL
open PySem PySem.Spec PyProof.Rows L2 Evl

section
variable {K : PySem.W.Frag} {own : Nat → Bool} {B O O' : AP} {H0 H H' H1 : Hp} {σ σ' : L2.St} {ρ ρ' : DE} {u δ : Nat}
structure SI (K : PySem.W.Frag) (own : Nat → Bool) (B O : AP) (H0 : Hp) (u : Nat) (H : Hp) (σ : L2.St) (ρ : DE) : Prop where
  fr : Fr K own B O H σ ρ
  ex : Ex u H0 H
  fresh : ∀ a, O a → H0 a = none
  oldB : ∀ a, B a → H0 a ≠ none
/-- a step: what is not one's own stays -/
structure Stp (B O : AP) (H : Hp) (O' : AP) (H' : Hp) : Prop where
  kp : ∀ b o, H b = some o → (U B O b → isMt o = false) → H' b = some o ∨ Std b o (H' b)
  gr : Grows H (U B O) (U B O')
theorem Stp.keeps (s : Stp B O H O' H') : Keeps (U B O) H H' := fun b o h n => (s.kp b o h n).imp id .inr
theorem Stp.of (e : Ex δ H H') : Stp B O H O H' := ⟨fun b o h _ => e.kp b o h, grows_refl⟩
theorem Stp.refl : Stp B O H O H := .of (Ex.refl H)
theorem Stp.trans {O'' : AP} {H'' : Hp} (s : Stp B O H O' H') (t : Stp B O' H' O'' H'') : Stp B O H O'' H'' := by
  have mt : ∀ {b o o'}, o' = o ∨ Std b o (some o') → (isMt o' = isMt o) := fun {b o o'} h => by
    rcases h with rfl | ⟨s, n, n', rfl, e⟩
    · rfl
    · cases e
      rfl
  have one : ∀ b o, H b = some o → (U B O b → isMt o = false) → ∃ o', H' b = some o' ∧ (o' = o ∨ Std b o (some o')) := fun b o h n => by
    rcases s.kp b o h n with q | q
    · exact ⟨o, q, .inl rfl⟩
    · obtain ⟨s', k, k', rfl, q⟩ := q
      exact ⟨_, q, .inr ⟨s', k, k', rfl, rfl⟩⟩
  refine ⟨fun b o h n => ?_, fun b o h n => ?_⟩
  · obtain ⟨o', h', q⟩ := one b o h n
    have n' : U B O' b → isMt o' = false := fun z => by
      rw [mt q]
      refine n ?_
      refine Classical.byContradiction fun nz => ?_
      exact s.gr b o h nz z
    rcases q with rfl | ⟨s', m, m', rfl, e⟩
    · exact t.kp b o' h' n'
    · cases e
      rcases t.kp b _ h' n' with z | ⟨s2, k, k', e, z⟩
      · exact .inr ⟨s', m, m', rfl, z⟩
      · obtain ⟨rfl, rfl⟩ := sto_inj e rfl
        exact .inr ⟨s', m, k', rfl, z⟩
  · obtain ⟨o', h', _⟩ := one b o h fun z => absurd z n
    exact t.gr b o' h' (s.gr b o h n)
theorem SI.le {v : Nat} (f : SI K own B O H0 u H σ ρ) (h : u ≤ v) : SI K own B O H0 v H σ ρ := ⟨f.fr, f.ex.le h, f.fresh, f.oldB⟩
theorem SI.ext (f : SI K own B O H0 u H σ ρ) (e : Ex δ H H') : SI K own B O H0 (u + δ) H' σ ρ := ⟨f.fr.ex e, f.ex.trans e, f.fresh, f.oldB⟩
theorem SI.set (f : SI K own B O H0 u H σ ρ) {i : Nat} {d : D} {v : V} (ho : own i = false) (r : Rep K (U B O) H d v) : SI K own B O H0 u H (σ.set i (some v)) (ρ.set i (some d)) := ⟨f.fr.set ho r, f.ex, f.fresh, f.oldB⟩
theorem SI.dj (f : SI K own B O H0 u H σ ρ) : ∀ a, O a → ¬ B a := fun a h b => f.oldB a b (f.fresh a h)
/-- a value that goes out -/
theorem SI.out (f : SI K own B O H0 u H σ ρ) {d : D} {v : V} (r : Rep K (U B O) H d v) : Rep K B H d v := Rep.keep keeps_refl (grows_less fun a z => .inl z) _ _ r
theorem SI.outO (f : SI K own B O H0 u H σ ρ) {d : D} {a : Addr} (ha : O a) (r : OwnAt K (U B O) H a d) : Rep K B H d (.ref a) :=
  own_rep (f.dj a ha) (OwnAt.keep keeps_refl (grows_less fun b z => z.elim .inl fun z => .inr (by rw [z]; exact ha)) (fun o h _ => h) r)
/-- a new thing of one's own, in slot i -/
theorem SI.mine (f : SI K own B O H0 u H σ ρ) (e : Ex δ H H') {i : Nat} {d : D} {p : Addr} (ho : own i = true) (hp : H p = none) (r : OwnAt K (U (U B O) (· = p)) H' p d) :
    SI K own B (fun a => O a ∨ a = p) H0 (u + δ) H' (σ.set i (some (.ref p))) (ρ.set i (some d)) ∧ Stp B O H (fun a => O a ∨ a = p) H' := by
  have g : Grows H (U B O) (U B (fun a => O a ∨ a = p)) := fun b o hb n z => by
    rcases z with z | z | z
    · exact n (.inl z)
    · exact n (.inr z)
    · rw [z, hp] at hb
      cases hb
  have less : ∀ a, U B (fun a => O a ∨ a = p) a → U (U B O) (· = p) a := fun a z => by
    rcases z with z | z | z
    · exact .inl (.inl z)
    · exact .inl (.inr z)
    · exact .inr z
  have r' : OwnAt K (U B (fun a => O a ∨ a = p)) H' p d := OwnAt.keep keeps_refl (grows_less less) (fun o h _ => h) r
  have h0p : H0 p = none := f.ex.none hp
  refine ⟨⟨⟨by rw [List.length_set, List.length_set, f.fr.len], fun j dd h1 h2 => ?_, fun j dd h1 h2 => ?_, fun j k a h1 h2 h3 h4 h5 h6 => ?_, fun a z => ?_⟩, f.ex.trans e, fun a z => ?_, f.oldB⟩, ⟨fun b o h _ => e.kp b o h, g⟩⟩
  · have e1 : i ≠ j := fun z => by rw [z, h1] at ho; cases ho
    rw [List.getElem?_set_ne e1] at h2 ⊢
    obtain ⟨v, h3, h4⟩ := f.fr.fz j dd h1 h2
    exact ⟨v, h3, Rep.keep (keeps_ex e) g _ _ h4⟩
  · by_cases e1 : i = j
    · subst e1
      have hl : i < ρ.length := by
        have := (List.getElem?_eq_some_iff.mp h2).1
        rwa [List.length_set] at this
      rw [List.getElem?_set_self hl] at h2
      cases h2
      exact ⟨p, List.getElem?_set_self (by rw [f.fr.len]; exact hl), .inr rfl, r'⟩
    · rw [List.getElem?_set_ne e1] at h2 ⊢
      obtain ⟨a, h3, h4, h5⟩ := f.fr.ow j dd h1 h2
      exact ⟨a, h3, .inl h4, OwnAt.keep (keeps_ex e) g (fun o q z => e.at q z) h5⟩
  · have np : ∀ {j : Nat} {d : D}, own j = true → ρ[j]? = some (some d) → σ[j]? ≠ some (some (.ref p)) := fun {j d} h1 h2 h3 => by
      obtain ⟨b, q1, q2, q3⟩ := f.fr.ow j d h1 h2
      rw [h3] at q1
      cases q1
      obtain ⟨o, q4, _⟩ := f.fr.mt p (.inr q2)
      rw [hp] at q4
      cases q4
    have at' : ∀ {j : Nat}, i = j → (∃ d, (ρ.set i (some d))[j]? = some (some d)) → True := fun _ _ => trivial
    by_cases e1 : i = j
    · by_cases e2 : i = k
      · rw [← e1, ← e2]
      · obtain ⟨d4, h4⟩ := h4
        rw [List.getElem?_set_ne e2] at h4 h6
        subst e1
        obtain ⟨d3, h3⟩ := h3
        have hl : i < ρ.length := by
          have := (List.getElem?_eq_some_iff.mp h3).1
          rwa [List.length_set] at this
        rw [List.getElem?_set_self (by rw [f.fr.len]; exact hl)] at h5
        cases h5
        exact absurd h6 (np h2 h4)
    · by_cases e2 : i = k
      · obtain ⟨d3, h3⟩ := h3
        rw [List.getElem?_set_ne e1] at h3 h5
        subst e2
        obtain ⟨d4, h4⟩ := h4
        have hl : i < ρ.length := by
          have := (List.getElem?_eq_some_iff.mp h4).1
          rwa [List.length_set] at this
        rw [List.getElem?_set_self (by rw [f.fr.len]; exact hl)] at h6
        cases h6
        exact absurd h5 (np h1 h3)
      · rw [List.getElem?_set_ne e1] at h3 h5
        rw [List.getElem?_set_ne e2] at h4 h6
        exact f.fr.dj j k a h1 h2 h3 h4 h5 h6
  · rcases z with z | z | z
    · exact mt_ex e (f.fr.mt a (.inl z))
    · exact mt_ex e (f.fr.mt a (.inr z))
    · rw [z]
      cases d with
      | lst l => obtain ⟨vs, h1, _⟩ := r; exact ⟨_, h1, rfl⟩
      | dic l => obtain ⟨vs, h1, _⟩ := r; exact ⟨_, h1, rfl⟩
      | dit l => obtain ⟨vs, h1, _⟩ := r; exact ⟨_, h1, rfl⟩
      | obj c l => obtain ⟨dx, vs, h1, _⟩ := r; exact ⟨_, h1, rfl⟩
      | _ => exact r.elim
  · rcases z with z | z
    · exact f.fresh a z
    · rw [z]
      exact h0p
/-- one's own thing at a, written -/
theorem SI.upd (f : SI K own B O H0 u H σ ρ) {i : Nat} {d d' : D} {a : Addr} {o o' : HO} (ho : own i = true) (hi : ρ[i]? = some (some d)) (hs : σ[i]? = some (some (.ref a))) (ha : O a) (hH : H a = some o) (hm : isMt o = true) (hm' : isMt o' = true) (hx : isX o' = false)
    (r : OwnAt K (U B O) (upd H a o') a d') : SI K own B O H0 u (L2.upd H a o') σ (ρ.set i (some d')) ∧ Stp B O H O (L2.upd H a o') := by
  have k : Keeps (U B O) H (L2.upd H a o') := keeps_upd (.inr ha) hH hm
  refine ⟨⟨⟨by rw [List.length_set, f.fr.len], fun j dd h1 h2 => ?_, fun j dd h1 h2 => ?_, fun j k a h1 h2 h3 h4 h5 h6 => ?_, fun b z => ?_⟩, ex_upd (f.fresh a ha) f.ex hx, f.fresh, f.oldB⟩, ⟨fun b ob hb nb => ?_, grows_refl⟩⟩
  · have e1 : i ≠ j := fun z => by rw [z, h1] at ho; cases ho
    rw [List.getElem?_set_ne e1] at h2
    obtain ⟨v, h3, h4⟩ := f.fr.fz j dd h1 h2
    exact ⟨v, h3, Rep.keep k grows_refl _ _ h4⟩
  · by_cases e1 : i = j
    · subst e1
      have hl : i < ρ.length := (List.getElem?_eq_some_iff.mp hi).1
      rw [List.getElem?_set_self hl] at h2
      cases h2
      exact ⟨a, hs, ha, r⟩
    · rw [List.getElem?_set_ne e1] at h2
      obtain ⟨b, h3, h4, h5⟩ := f.fr.ow j dd h1 h2
      refine ⟨b, h3, h4, OwnAt.keep k grows_refl (fun ob q _ => ?_) h5⟩
      have nb : b ≠ a := fun z => by
        rw [z] at h3
        exact e1 (f.fr.dj i j a ho h1 ⟨_, hi⟩ ⟨_, h2⟩ hs h3)
      rw [upd_ne nb]
      exact q
  · have key : ∀ {j : Nat}, (∃ d, (ρ.set i (some d'))[j]? = some (some d)) → ∃ d, ρ[j]? = some (some d) := fun {j} z => by
      obtain ⟨d, z⟩ := z
      by_cases e1 : i = j
      · rw [← e1]
        exact ⟨_, hi⟩
      · rw [List.getElem?_set_ne e1] at z
        exact ⟨d, z⟩
    exact f.fr.dj j k _ h1 h2 (key h3) (key h4) h5 h6
  · by_cases e : b = a
    · rw [e]
      exact ⟨o', upd_same, hm'⟩
    · obtain ⟨ob, h1, h2⟩ := f.fr.mt b z
      exact ⟨ob, by rw [upd_ne e]; exact h1, h2⟩
  · by_cases e : b = a
    · subst e
      rw [hH] at hb
      cases hb
      rw [nb (.inr ha)] at hm
      cases hm
    · rw [upd_ne e]
      exact .inl hb
end
end DL

/-! D7: statements: stores of names -/
namespace DL
open PySem PySem.Spec PyProof.Rows L2 Evl

theorem _root_.L2.PS.imp {X : Cx} {st : Stmt} {t t' : TS} (h : PS X st t) (k : ∀ D σ H, t' D σ H → t D σ H) : PS X st t' := ⟨fun pins s σ H D I q => h.run pins s σ H D I (k _ _ _ q)⟩
theorem _root_.L2.PSs.imp {X : Cx} {st : List Stmt} {t t' : TS} (h : PSs X st t) (k : ∀ D σ H, t' D σ H → t D σ H) : PSs X st t' := ⟨fun pins s σ H D I q => h.run pins s σ H D I (k _ _ _ q)⟩
section
variable {X : Cx}
/-- name = {..} on one line, the name a local -/
theorem ps_setDc {i : Nat} {y : Str} {py : Pos} {kx vx tg iter : Expr} {ifs : List Expr} {scope : Scope} {own : List (Str × Nat)} {pos spos : Pos} {wi : TI} {g : TG} {tt : TT} {tk tv : TE} (hc : X.calm = true) (hN : X.N.Nodup) (hy : X.N[i]? = some y) (hyl : X.env.scope.names.lookup y = some .local)
    (hsw : swapsWith (.DictComp kx vx [⟨tg, iter, ifs, 0⟩] scope pos) (some (.Name y py)) spos.line X.env = pure true) (hi : PI X tg iter wi) (ok : BlkOk X.N X.env.scope scope own)
    (hg : ∀ (s : Shared) (H : Hp) (C : Addr) (cl : List (Str × Addr)) (fp : List Addr), PG (X.blk s H scope (compEnvC scope cl C X.env) fp) tg g) (ht : ∀ (s : Shared) (H : Hp) (C : Addr) (cl : List (Str × Addr)) (fp : List Addr), PTs (X.blk s H scope (compEnvC scope cl C X.env) fp) ifs tt)
    (hk : ∀ (s : Shared) (H : Hp) (C : Addr) (cl : List (Str × Addr)) (fp : List Addr), PE (X.blk s H scope (compEnvC scope cl C X.env) fp) kx tk)
    (he : ∀ (s : Shared) (H : Hp) (C : Addr) (cl : List (Str × Addr)) (fp : List Addr), PE (X.blk s H scope (compEnvC scope cl C X.env) fp) vx tv) (hs : ∀ x, foldedSetIterable iter X.env x = pure x) :
    PS X (.Assign [.Name y py] (.DictComp kx vx [⟨tg, iter, ifs, 0⟩] scope pos) spos) (tAsg (tDc wi g tt tk tv (own.map (·.2))) (gName i)) := by
  refine ⟨fun pins s σ H D I h => ?_⟩
  rw [exec_Assign_Name_used _ _ _ _ hsw]
  refine wpAny_bind (wpAny_standAt (wpAny_bind ?_))
  show wpAny _ X.A (do let _ ← comprehension (.DictComp kx vx [⟨tg, iter, ifs, 0⟩] scope pos) scope X.env (firstIterPos [⟨tg, iter, ifs, 0⟩] pos) newDict false (eval iter X.env) (some (assign (.Name y py) X.env))) _ _ s
  have h : tDc wi g tt tk tv (own.map (·.2)) σ H (fun x H1 => gName i x σ H1 D.nx) := h
  refine wpAny_bind (thn (dc_core (Qf := fun _ s' => SP X pins D .next s') hc hN I hi ok hg ht hk he hs h fun L C s' m H' I' q hn f => ?_) fun _ s' hq => wpAny_pure (wpAny_pure hq))
  show wpAny _ _ (assign (.Name y py) X.env (.ref L)) _ _ _
  refine wpAny_assign_Name (store_ok2 (v := V.ref L) I' hN hy (.inl hyl) rfl (fun s2 I2 ⟨a, sb, ha⟩ => ?_) (.inr hyl))
  obtain ⟨f0, f1, f2, f3, f4, f5⟩ := f
  have haC : C ≠ a := by
    rcases ha with z | z
    · rw [z]; exact f1
    · exact fun e => f4 y a z e.symm
  refine ⟨m, hn.sameBut sb haC, fun h3 sb3 => ?_⟩
  exact ⟨_, H', I2.turned (t' := s2.toks) (fun b o hb e => (sb3.2 b hb).trans e) f0 f1 f3 f4 f5, q⟩
/-- whether the store comes within -/
def swB (sc scope : Scope) (y : Str) (py pos : Pos) : Bool := decide (sc.names.lookup y = some .local) && ((py.line == pos.line) && !(scope.names.any fun (n, k) => n == y && (k == .local || k == .cell)))
theorem nk_beq (o : Option NameKind) : (o == some NameKind.local) = decide (o = some NameKind.local) := by
  cases o with
  | none => rfl
  | some k => cases k <;> rfl
theorem sw_lc {elt : Expr} {gs : List Comprehension} {scope : Scope} {pos py : Pos} {y : Str} {l : Nat} {env : PySem.Env} (hk : env.scope.kind = .function) : swapsWith (.ListComp elt gs scope pos) (some (.Name y py)) l env = pure (swB env.scope scope y py pos) := by
  have hb : env.blockKind = .function := by unfold Env.blockKind; rw [hk]; rfl
  unfold swapsWith swB
  simp only [hb, Expr.pos]
  show (pure _ : Sem Bool) = pure _
  congr 1
  rw [show env.kindOf y = env.scope.names.lookup y from rfl, nk_beq, Bool.and_assoc, Bool.and_assoc]
  rfl
theorem sw_dc {k v : Expr} {gs : List Comprehension} {scope : Scope} {pos py : Pos} {y : Str} {l : Nat} {env : PySem.Env} (hk : env.scope.kind = .function) : swapsWith (.DictComp k v gs scope pos) (some (.Name y py)) l env = pure (swB env.scope scope y py pos) := by
  have hb : env.blockKind = .function := by unfold Env.blockKind; rw [hk]; rfl
  unfold swapsWith swB
  simp only [hb, Expr.pos]
  show (pure _ : Sem Bool) = pure _
  congr 1
  rw [show env.kindOf y = env.scope.names.lookup y from rfl, nk_beq, Bool.and_assoc, Bool.and_assoc]
  rfl
end
section
variable {T : Tb} {L : Nat} {W : WX} {X : Cx} {ow : List Nat} {N : List Str}
/-- a statement's context -/
structure GoodS (T : Tb) (L : Nat) (W : WX) (X : Cx) : Prop where
  g : Good T L W X
  po : PassesOwn (model X.prog X.w) X.A X.env X.xe
  fn : ∀ x, X.fn x = true
  kind : X.env.scope.kind = .function
  stk : X.stack = X.env :: X.outer
  frm : X.env.frame = some X.env.locals
theorem p_set (G : GoodS T L W X) {e : E} {v : Expr} {i : Nat} {x : Str} {p pos : Pos} (hN : X.N = N) (hi : N[i]? = some x) (hx : Loc X.env.scope x) (hk : isLck e = false) (h : mE T N ow .val X.env.scope e v = true) : PS X (.Assign [.Name x p] v pos) (tAsg (rdE T X.K (owf ow) W e) (gName i)) := by
  subst hN
  have he : PE X v (rdE T X.K (owf ow) W e) := sndE e .val _ v h W X G.g rfl rfl
  cases v with
  | ListComp y cl scope q =>
    cases hb : swB X.env.scope scope x p q with
    | false => exact ps_set G.g.nd hi hx he (by rw [sw_lc G.kind, hb]) (.inl (G.fn x))
    | true =>
      cases e with
      | lc own tg it ifs e =>
        have loc : X.env.scope.names.lookup x = some .local := by
          unfold swB at hb
          rw [Bool.and_eq_true] at hb
          exact of_decide_eq_true hb.1
        match cl, h with
        | [], h => exact absurd h Bool.false_ne_true
        | ⟨t, i, cs, n⟩ :: _ :: _, h =>
          cases n with
          | negSucc m => exact absurd h Bool.false_ne_true
          | ofNat m => cases m <;> exact absurd h Bool.false_ne_true
        | [⟨t, i, cs, n⟩], h =>
          cases n with
          | negSucc m => exact absurd h Bool.false_ne_true
          | ofNat m =>
            cases m with
            | succ m => exact absurd h Bool.false_ne_true
            | zero =>
              obtain ⟨h1, k2⟩ := and2 (show (!ownB e && (noSet i && (tupT it t && (blkC X.N X.env.scope scope own && (own.all (fun p => !ow.contains p.2) && (mE T X.N ow .itr X.env.scope it i && (mPt X.N ow (some (scope, own.map (·.2))) (relS scope X.env.scope) tg t && (decide (cs.length ≤ 1) && (cs.all noStar && (mEs T X.N ow .tst (relS scope X.env.scope) ifs cs && mE T X.N ow .val (relS scope X.env.scope) e y)))))))))) = true from h)
              obtain ⟨h2, k3⟩ := and2 k2
              obtain ⟨h3, k4⟩ := and2 k3
              obtain ⟨h4, k5⟩ := and2 k4
              obtain ⟨h5, k6⟩ := and2 k5
              obtain ⟨h6, k7⟩ := and2 k6
              obtain ⟨h7, k8⟩ := and2 k7
              obtain ⟨h8, k9⟩ := and2 k8
              obtain ⟨h9, k10⟩ := and2 k9
              obtain ⟨h10, h11⟩ := and2 k10
              have po := mPt_own h7
              exact (ps_setLc (scope := scope) (own := own) (pos := q) G.g.calm G.g.nd hi loc (by rw [sw_lc G.kind, hb]) (sndE it .itr _ i h6 W X G.g rfl rfl t h3) (blkOk_by h4)
                (fun s H C cl fp => pg_pt (X := X.blk s H scope (compEnvC scope cl C X.env) fp) G.g.calm rfl G.g.nd rfl fnof_blk h7)
                (fun s H C cl fp => (sndEs ifs .tst _ cs h10 W0 (X.blk s H scope (compEnvC scope cl C X.env) fp) (G.g.blk ..) rfl rfl).2 (of_decide_eq_true h8) h9)
                (fun s H C cl fp => (show PE (X.blk s H scope (compEnvC scope cl C X.env) fp) _ (rdE T X.K (owf ow) W0 e) from sndE e .val _ y h11 W0 (X.blk s H scope (compEnvC scope cl C X.env) fp) (G.g.blk ..) rfl rfl)) (fold_of h2)).imp
                fun D σ H k => lc_rd (fun j hj => ⟨(po j hj).1, (po j hj).2 _ _ rfl⟩) (not1 h1) k
      | lc2 own tg it ifs vs1 tg1 it1 ifs1 e =>
        have loc : X.env.scope.names.lookup x = some .local := by
          unfold swB at hb
          rw [Bool.and_eq_true] at hb
          exact of_decide_eq_true hb.1
        match cl, h with
        | [], h => exact absurd h Bool.false_ne_true
        | [⟨t, i, cs, n⟩], h =>
          cases n with
          | negSucc m => exact absurd h Bool.false_ne_true
          | ofNat m => cases m <;> exact absurd h Bool.false_ne_true
        | ⟨t, i, cs, n⟩ :: ⟨t1, i1, cs1, n1⟩ :: _ :: _, h =>
          cases n with
          | negSucc m => exact absurd h Bool.false_ne_true
          | ofNat m =>
            cases m with
            | succ m => exact absurd h Bool.false_ne_true
            | zero =>
              cases n1 with
              | negSucc m => exact absurd h Bool.false_ne_true
              | ofNat m => cases m <;> exact absurd h Bool.false_ne_true
        | [⟨t, i, cs, n⟩, ⟨t1, i1, cs1, n1⟩], h =>
          cases n with
          | negSucc m => exact absurd h Bool.false_ne_true
          | ofNat m =>
            cases m with
            | succ m => exact absurd h Bool.false_ne_true
            | zero =>
              cases n1 with
              | negSucc m => exact absurd h Bool.false_ne_true
              | ofNat m =>
                cases m with
                | succ m => exact absurd h Bool.false_ne_true
                | zero =>
                  obtain ⟨h1, k2⟩ := and2 (show (!ownB e && (noSet i && (noSet i1 && (tupT it t && (tupT it1 t1 && (blkC X.N X.env.scope scope own && (own.all (fun p => !ow.contains p.2) && (vs1.all (fun j => (own.map (·.2)).contains j) && (!ownS it1 && (mE T X.N ow .itr X.env.scope it i && (mPt X.N ow (some (scope, own.map (·.2))) (relS scope X.env.scope) tg t && (mE T X.N ow .itr (relS scope X.env.scope) it1 i1 && (mPt X.N ow (some (scope, vs1)) (relS scope X.env.scope) tg1 t1 && (decide (cs.length ≤ 1) && (cs.all noStar && (decide (cs1.length ≤ 1) && (cs1.all noStar && (mEs T X.N ow .tst (relS scope X.env.scope) ifs cs && (mEs T X.N ow .tst (relS scope X.env.scope) ifs1 cs1 && mE T X.N ow .val (relS scope X.env.scope) e y))))))))))))))))))) = true from h)
                  obtain ⟨h2, k3⟩ := and2 k2
                  obtain ⟨h3, k4⟩ := and2 k3
                  obtain ⟨h4, k5⟩ := and2 k4
                  obtain ⟨h5, k6⟩ := and2 k5
                  obtain ⟨h6, k7⟩ := and2 k6
                  obtain ⟨h7, k8⟩ := and2 k7
                  obtain ⟨h8, k9⟩ := and2 k8
                  obtain ⟨h9, k10⟩ := and2 k9
                  obtain ⟨h10, k11⟩ := and2 k10
                  obtain ⟨h11, k12⟩ := and2 k11
                  obtain ⟨h12, k13⟩ := and2 k12
                  obtain ⟨h13, k14⟩ := and2 k13
                  obtain ⟨h14, k15⟩ := and2 k14
                  obtain ⟨h15, k16⟩ := and2 k15
                  obtain ⟨h16, k17⟩ := and2 k16
                  obtain ⟨h17, k18⟩ := and2 k17
                  obtain ⟨h18, k19⟩ := and2 k18
                  obtain ⟨h19, h20⟩ := and2 k19
                  have po := mPt_own h11
                  have po1 := mPt_own h13
                  exact (ps_setLc2 (scope := scope) (own := own) (pos := q) G.g.calm G.g.nd hi loc (by rw [sw_lc G.kind, hb]) (sndE it .itr _ i h10 W X G.g rfl rfl t h4) (blkOk_by h6) (vs_of h8)
                    (fun s H C cl fp => pg_pt (X := X.blk s H scope (compEnvC scope cl C X.env) fp) G.g.calm rfl G.g.nd rfl fnof_blk h11)
                    (fun s H C cl fp => (sndEs ifs .tst _ cs h18 W0 (X.blk s H scope (compEnvC scope cl C X.env) fp) (G.g.blk ..) rfl rfl).2 (of_decide_eq_true h14) h15)
                    (fun s H C cl fp => sndE it1 .itr _ i1 h12 W0 (X.blk s H scope (compEnvC scope cl C X.env) fp) (G.g.blk ..) rfl rfl t1 h5)
                    (fun s H C cl fp => pg_pt (X := X.blk s H scope (compEnvC scope cl C X.env) fp) G.g.calm rfl G.g.nd rfl fnof_blk h13)
                    (fun s H C cl fp => (sndEs ifs1 .tst _ cs1 h19 W0 (X.blk s H scope (compEnvC scope cl C X.env) fp) (G.g.blk ..) rfl rfl).2 (of_decide_eq_true h16) h17)
                    (fun s H C cl fp => (show PE (X.blk s H scope (compEnvC scope cl C X.env) fp) _ (rdE T X.K (owf ow) W0 e) from sndE e .val _ y h20 W0 (X.blk s H scope (compEnvC scope cl C X.env) fp) (G.g.blk ..) rfl rfl)) (fold_of h2) (fun env x => fold_of h3 x)).imp
                    fun D σ H k => lc2_rd (fun j hj => ⟨(po j hj).1, (po j hj).2 _ _ rfl⟩) (fun j hj => ⟨(po1 j hj).1, (po1 j hj).2 _ _ rfl⟩) (not1 h9) (not1 h1) k
      | bm m o es => cases m <;> exact absurd h Bool.false_ne_true
      | lck _ _ _ _ _ => cases hk
      | _ => exact absurd h Bool.false_ne_true
  | DictComp y z cl scope q =>
    cases hb : swB X.env.scope scope x p q with
    | false => exact ps_set G.g.nd hi hx he (by rw [sw_dc G.kind, hb]) (.inl (G.fn x))
    | true =>
      cases e with
      | dc own tg it ifs ek ev =>
        have loc : X.env.scope.names.lookup x = some .local := by
          unfold swB at hb
          rw [Bool.and_eq_true] at hb
          exact of_decide_eq_true hb.1
        match cl, h with
        | [], h => exact absurd h Bool.false_ne_true
        | ⟨t, i, cs, n⟩ :: _ :: _, h =>
          cases n with
          | negSucc m => exact absurd h Bool.false_ne_true
          | ofNat m => cases m <;> exact absurd h Bool.false_ne_true
        | [⟨t, i, cs, n⟩], h =>
          cases n with
          | negSucc m => exact absurd h Bool.false_ne_true
          | ofNat m =>
            cases m with
            | succ m => exact absurd h Bool.false_ne_true
            | zero =>
              obtain ⟨h0, k1⟩ := and2 (show (!ownB ek && (!ownB ev && (noSet i && (tupT it t && (blkC X.N X.env.scope scope own && (own.all (fun p => !ow.contains p.2) && (mE T X.N ow .itr X.env.scope it i && (mPt X.N ow (some (scope, own.map (·.2))) (relS scope X.env.scope) tg t && (decide (cs.length ≤ 1) && (cs.all noStar && (mEs T X.N ow .tst (relS scope X.env.scope) ifs cs && (mE T X.N ow .val (relS scope X.env.scope) ek y && mE T X.N ow .val (relS scope X.env.scope) ev z)))))))))))) = true from h)
              obtain ⟨h1, k2⟩ := and2 k1
              obtain ⟨h2, k3⟩ := and2 k2
              obtain ⟨h3, k4⟩ := and2 k3
              obtain ⟨h4, k5⟩ := and2 k4
              obtain ⟨h5, k6⟩ := and2 k5
              obtain ⟨h6, k7⟩ := and2 k6
              obtain ⟨h7, k8⟩ := and2 k7
              obtain ⟨h8, k9⟩ := and2 k8
              obtain ⟨h9, k10⟩ := and2 k9
              obtain ⟨h10, k11⟩ := and2 k10
              obtain ⟨h11, h12⟩ := and2 k11
              have po := mPt_own h7
              exact (ps_setDc (scope := scope) (own := own) (pos := q) G.g.calm G.g.nd hi loc (by rw [sw_dc G.kind, hb]) (sndE it .itr _ i h6 W X G.g rfl rfl t h3) (blkOk_by h4)
                (fun s H C cl fp => pg_pt (X := X.blk s H scope (compEnvC scope cl C X.env) fp) G.g.calm rfl G.g.nd rfl fnof_blk h7)
                (fun s H C cl fp => (sndEs ifs .tst _ cs h10 W0 (X.blk s H scope (compEnvC scope cl C X.env) fp) (G.g.blk ..) rfl rfl).2 (of_decide_eq_true h8) h9)
                (fun s H C cl fp => (show PE (X.blk s H scope (compEnvC scope cl C X.env) fp) _ (rdE T X.K (owf ow) W0 ek) from sndE ek .val _ y h11 W0 (X.blk s H scope (compEnvC scope cl C X.env) fp) (G.g.blk ..) rfl rfl))
                (fun s H C cl fp => (show PE (X.blk s H scope (compEnvC scope cl C X.env) fp) _ (rdE T X.K (owf ow) W0 ev) from sndE ev .val _ z h12 W0 (X.blk s H scope (compEnvC scope cl C X.env) fp) (G.g.blk ..) rfl rfl)) (fold_of h2)).imp
                fun D σ H k => dc_rd (fun j hj => ⟨(po j hj).1, (po j hj).2 _ _ rfl⟩) (not1 h1) k
      | bm m o es => cases m <;> exact absurd h Bool.false_ne_true
      | lck _ _ _ _ _ => cases hk
      | _ => exact absurd h Bool.false_ne_true
  | SetComp a b c d =>
    cases e with
    | bm m o es => cases m <;> exact absurd h Bool.false_ne_true
    | _ => exact absurd h Bool.false_ne_true
  | _ => exact ps_set G.g.nd hi hx he rfl (.inl (G.fn x))
end
end DL

/-! D8: statements: one rule each -/
namespace DL
open PySem PySem.Spec PyProof.Rows L2 Evl
def isCst : Expr → Bool
  | .Constant _ _ _ => true
  | _ => false
theorem sw_cst {es vs : List Expr} {kk k2} {q q2 : Pos} {env : PySem.Env} (h : vs.all isCst = true) : swappedStores [.Tuple es kk q] (.Tuple vs k2 q2) env = pure none := by
  have hf : vs.all (foldedForSure 8) = true := by
    rw [List.all_eq_true] at h ⊢
    intro x hx
    have := h x hx
    cases x <;> first | rfl | exact absurd this Bool.false_ne_true
  unfold swappedStores
  simp only [hf, if_true]
  repeat' split
  all_goals rfl
def parB (sc : Scope) (x y : Str) (px py : Pos) (a b : Expr) : Bool := (decide (sc.names.lookup x = some .local) && decide (sc.names.lookup y = some .local)) && (((py.line == px.line) && decide (x ≠ y)) && ((noStar a && noStar b) && (!(foldedForSure 8 a && foldedForSure 8 b) && !(constantsAlone 8 a && constantsAlone 8 b))))
theorem sw_par {x y : Str} {px py pt pt2 : Pos} {kt k2} {a b : Expr} {env : PySem.Env} (hk : env.scope.kind = .function) (h : parB env.scope x y px py a b = true) : swappedStores [.Tuple [.Name x px, .Name y py] kt pt] (.Tuple [a, b] k2 pt2) env = pure (some [x, y]) := by
  obtain ⟨h1, h2⟩ := and2 h
  obtain ⟨h1, h1'⟩ := and2 h1
  obtain ⟨h2, h3⟩ := and2 h2
  obtain ⟨h2, h2'⟩ := and2 h2
  obtain ⟨h3, h4⟩ := and2 h3
  obtain ⟨h3, h3'⟩ := and2 h3
  obtain ⟨h4, h5⟩ := and2 h4
  have l1 := of_decide_eq_true h1
  have l2 := of_decide_eq_true h1'
  have ne := of_decide_eq_true h2'
  have hb : env.blockKind = .function := by unfold Env.blockKind; rw [hk]; rfl
  have k1 : env.kindOf x = some .local := l1
  have k2 : env.kindOf y = some .local := l2
  have ns : (([a, b] : List Expr).any fun | .Starred .. => true | _ => false) = false := by
    cases a <;> cases b <;> first | rfl | cases h3 | cases h3'
  have nf : (([a, b] : List Expr).all (foldedForSure 8)) = false := by
    show (foldedForSure 8 a && (foldedForSure 8 b && true)) = false
    rw [Bool.and_true]
    exact not1 h4
  have nc : (([a, b] : List Expr).all (constantsAlone 8)) = false := by
    show (constantsAlone 8 a && (constantsAlone 8 b && true)) = false
    rw [Bool.and_true]
    exact not1 h5
  have hl : py.line = px.line := eq_of_beq h2
  have nf2 : ¬ (foldedForSure 8 a = true ∧ foldedForSure 8 b = true) := fun ⟨z1, z2⟩ => by
    have := not1 h4
    rw [z1, z2] at this
    cases this
  have nc2 : ¬ (constantsAlone 8 a = true ∧ constantsAlone 8 b = true) := fun ⟨z1, z2⟩ => by
    have := not1 h5
    rw [z1, z2] at this
    cases this
  have ne2 : ¬ y = x := fun z => ne z.symm
  have ns1 : (match a with | .Starred .. => true | _ => false) = false := by cases a <;> first | rfl | cases h3
  have ns2 : (match b with | .Starred .. => true | _ => false) = false := by cases b <;> first | rfl | cases h3'
  unfold swappedStores
  simp [hb, k1, k2, Expr.pos, ne, ne2, List.eraseDups, List.eraseDupsBy, List.eraseDupsBy.loop, hl, List.filterMap_cons, nf2, nc2]
  have yx : (y == x) = false := beq_eq_false_iff_ne.mpr ne2
  rw [if_neg, yx]
  · rfl
  · rintro (z | z)
    · cases a <;> first | exact absurd z Bool.false_ne_true | cases h3
    · cases b <;> first | exact absurd z Bool.false_ne_true | cases h3'

section
variable {K : PySem.W.Frag} {own : Nat → Bool} {W : WX} {B O O' : AP} {H0 H H' : Hp} {σ : L2.St} {ρ : DE} {κ : KD} {D : Ends} {u un ub uc ut δ : Nat}
/-- what is wanted at a statement's ends; un, ub, uc, ut: the draws by then, at most -/
structure KOk (K : PySem.W.Frag) (own : Nat → Bool) (W : WX) (B O : AP) (H0 : Hp) (un ub uc ut : Nat) (H : Hp) (κ : KD) (D : Ends) : Prop where
  nx : ∀ ρ', κ.nx ρ' → ∀ O' σ' H', SI K own B O' H0 un H' σ' ρ' → Stp B O H O' H' → D.nx σ' H'
  bk : ∀ ρ', κ.bk ρ' → ∀ O' σ' H', SI K own B O' H0 ub H' σ' ρ' → Stp B O H O' H' → D.bk σ' H'
  ct : ∀ ρ', κ.ct ρ' → ∀ O' σ' H', SI K own B O' H0 uc H' σ' ρ' → Stp B O H O' H' → D.ct σ' H'
  rt : ∀ d, κ.rt d → ∀ v H', Ex ut H0 H' → Rep K B H' d v → D.rt v H'
  xc : ∀ x, κ.xc x → ∀ cls d σ' H', Ex ut H0 H' → XIs K x cls d H' → W cls d σ' H'
/-- where a statement stands, δ its own cost -/
structure SX (K : PySem.W.Frag) (own : Nat → Bool) (B O : AP) (H0 : Hp) (u un ub uc ut δ : Nat) (H : Hp) (σ : L2.St) (ρ : DE) : Prop where
  si : SI K own B O H0 u H σ ρ
  b1 : u + δ ≤ un
  b2 : u + δ ≤ ub
  b3 : u + δ ≤ uc
  b4 : u + δ ≤ ut
  rm : Rm H0 ut
theorem KOk.step (k : KOk K own W B O H0 un ub uc ut H κ D) (s : Stp B O H O' H') : KOk K own W B O' H0 un ub uc ut H' κ D :=
  ⟨fun ρ' h O2 σ' H2 f s2 => k.nx ρ' h O2 σ' H2 f (s.trans s2), fun ρ' h O2 σ' H2 f s2 => k.bk ρ' h O2 σ' H2 f (s.trans s2), fun ρ' h O2 σ' H2 f s2 => k.ct ρ' h O2 σ' H2 f (s.trans s2), k.rt, k.xc⟩
theorem KOk.fx (k : KOk K own W B O H0 un ub uc ut H κ D) (f : SX K own B O H0 u un ub uc ut δ H σ ρ) : FX K own W κ.xc B O δ H σ ρ :=
  ⟨f.si.fr, (f.rm.le f.b4).ex f.si.ex, fun x hx cls d H' e i => k.xc x hx cls d σ H' ((f.si.ex.trans e).le f.b4) i⟩
/-- behind the first part -/
theorem SX.ex {i j : Nat} (f : SX K own B O H0 u un ub uc ut (i + j) H σ ρ) (e : Ex i H H') : SX K own B O H0 (u + i) un ub uc ut j H' σ ρ :=
  ⟨f.si.ext e, by rw [Nat.add_assoc]; exact f.b1, by rw [Nat.add_assoc]; exact f.b2, by rw [Nat.add_assoc]; exact f.b3, by rw [Nat.add_assoc]; exact f.b4, f.rm⟩
theorem SX.le {i j : Nat} (f : SX K own B O H0 u un ub uc ut j H σ ρ) (h : i ≤ j) : SX K own B O H0 u un ub uc ut i H σ ρ :=
  ⟨f.si, Nat.le_trans (Nat.add_le_add_left h u) f.b1, Nat.le_trans (Nat.add_le_add_left h u) f.b2, Nat.le_trans (Nat.add_le_add_left h u) f.b3, Nat.le_trans (Nat.add_le_add_left h u) f.b4, f.rm⟩
theorem SX.l {i j : Nat} (f : SX K own B O H0 u un ub uc ut (i + j) H σ ρ) : SX K own B O H0 u un ub uc ut i H σ ρ := f.le (Nat.le_add_right i j)
end
def rdS (T : Tb) (K : PySem.W.Frag) (own : Nat → Bool) (W : WX) (s : S) : TS := fun D σ H => ∃ B O H0 u un ub uc ut ρ κ, SX K own B O H0 u un ub uc ut (dcS T s) H σ ρ ∧ wpS T s ρ κ ∧ KOk K own W B O H0 un ub uc ut H κ D
def rdSs (T : Tb) (K : PySem.W.Frag) (own : Nat → Bool) (W : WX) (s : List S) : TS := fun D σ H => ∃ B O H0 u un ub uc ut ρ κ, SX K own B O H0 u un ub uc ut (dcSs T s) H σ ρ ∧ wpSs T s ρ κ ∧ KOk K own W B O H0 un ub uc ut H κ D
section
variable {T : Tb} {L : Nat} {W : WX} {X : Cx} {ow : List Nat} {N : List Str}
/-- one's own list lent to a loop -/
theorem SI.lend {B O : AP} {H0 H : Hp} {σ : L2.St} {ρ : DE} {i : Nat} {w : DL.D} {a : Addr} {u : Nat} (f : SI X.K (owf ow) B O H0 u H σ ρ) (hw : owf ow i = true) (hd : ρ[i]? = some (some w)) (h1 : σ[i]? = some (some (.ref a))) (h2 : O a) :
    SI X.K (owf ow) B (fun c => O c ∧ c ≠ a) H0 u H σ (ρ.set i none) ∧ Stp B O H (fun c => O c ∧ c ≠ a) H := by
  have less : ∀ b, U B (fun c => O c ∧ c ≠ a) b → U B O b := fun b z => z.imp id fun z => z.1
  have fd := f.fr.drop i (some (.ref a))
  have es : σ.set i (some (.ref a)) = σ := by
    refine List.ext_getElem? fun m => ?_
    by_cases e : i = m
    · subst e
      rw [List.getElem?_set_self (List.getElem?_eq_some_iff.mp h1).1, h1]
    · rw [List.getElem?_set_ne e]
  rw [es] at fd
  refine ⟨⟨⟨fd.len, fun m dd q1 q2 => ?_, fun m dd q1 q2 => ?_, fd.dj, fun b z => fd.mt b (less b z)⟩, f.ex, fun b z => f.fresh b z.1, f.oldB⟩, ⟨fun b o h _ => .inl h, grows_less less⟩⟩
  · obtain ⟨v, q3, q4⟩ := fd.fz m dd q1 q2
    exact ⟨v, q3, Rep.keep keeps_refl (grows_less less) _ _ q4⟩
  · obtain ⟨b, q3, q4, q5⟩ := fd.ow m dd q1 q2
    refine ⟨b, q3, ⟨q4, fun z => ?_⟩, OwnAt.keep keeps_refl (grows_less less) (fun o h _ => h) q5⟩
    have e1 : i ≠ m := fun z => by
      rw [← z] at q2
      have hl : i < ρ.length := (List.getElem?_eq_some_iff.mp hd).1
      rw [List.getElem?_set_self hl] at q2
      cases q2
    rw [List.getElem?_set_ne e1] at q2
    rw [z] at q3
    exact e1 (f.fr.dj i m a hw q1 ⟨_, hd⟩ ⟨_, q2⟩ h1 q3)
theorem pss_n : PSs X [] (rdSs T X.K (owf ow) W []) := pss_nil.imp fun D σ H h => by
  obtain ⟨B, O, H0, u, un, ub, uc, ut, ρ, κ, f, hq, k⟩ := h
  exact k.nx ρ hq O σ H (f.si.le f.b1) .refl
theorem pss_c {s : S} {ss : List S} {st : Stmt} {sts : List Stmt} (h1 : PS X st (rdS T X.K (owf ow) W s)) (h2 : PSs X sts (rdSs T X.K (owf ow) W ss)) : PSs X (st :: sts) (rdSs T X.K (owf ow) W (s :: ss)) := (pss_cons h1 h2).imp fun D σ H h => by
  obtain ⟨B, O, H0, u, un, ub, uc, ut, ρ, κ, f, hq, k⟩ := h
  have f1 := SX.l (i := dcS T s) (j := dcSs T ss) f
  exact ⟨B, O, H0, u, u + dcS T s, ub, uc, ut, ρ, _, ⟨f1.si, Nat.le_refl _, f1.b2, f1.b3, f1.b4, f1.rm⟩, hq, ⟨fun ρ' h O' σ' H' f' s' => ⟨B, O', H0, u + dcS T s, un, ub, uc, ut, ρ', κ, ⟨f', by rw [Nat.add_assoc]; exact f.b1, by rw [Nat.add_assoc]; exact f.b2, by rw [Nat.add_assoc]; exact f.b3, by rw [Nat.add_assoc]; exact f.b4, f.rm⟩, h, k.step s'⟩, k.bk, k.ct, k.rt, k.xc⟩⟩
theorem p_pass {pos : Pos} : PS X (.Pass pos) (rdS T X.K (owf ow) W .pass) := ps_pass.imp fun D σ H h => by
  obtain ⟨B, O, H0, u, un, ub, uc, ut, ρ, κ, f, hq, k⟩ := h
  exact k.nx ρ hq O σ H (f.si.le f.b1) .refl
theorem p_brk {pos : Pos} : PS X (.Break pos) (rdS T X.K (owf ow) W .brk) := ps_break.imp fun D σ H h => by
  obtain ⟨B, O, H0, u, un, ub, uc, ut, ρ, κ, f, hq, k⟩ := h
  exact k.bk ρ hq O σ H (f.si.le f.b2) .refl
theorem p_cont {pos : Pos} : PS X (.Continue pos) (rdS T X.K (owf ow) W .cont) := ps_continue.imp fun D σ H h => by
  obtain ⟨B, O, H0, u, un, ub, uc, ut, ρ, κ, f, hq, k⟩ := h
  exact k.ct ρ hq O σ H (f.si.le f.b3) .refl
theorem p_retn {pos : Pos} : PS X (.Return none pos) (rdS T X.K (owf ow) W .retn) := ps_retN.imp fun D σ H h => by
  obtain ⟨B, O, H0, u, un, ub, uc, ut, ρ, κ, f, hq, k⟩ := h
  exact k.rt .non hq .non H (f.si.ex.le f.b4) rfl
theorem p_ret {e : E} {v : Expr} {pos : Pos} (ho : ownB e = false) (he : PE X v (rdE T X.K (owf ow) W e)) : PS X (.Return (some v) pos) (rdS T X.K (owf ow) W (.ret e)) := (ps_ret he).imp fun D σ H h => by
  obtain ⟨B, O, H0, u, un, ub, uc, ut, ρ, κ, f, hq, k⟩ := h
  exact ⟨B, O, ρ, κ.xc, _, k.fx f, hq, fun d hd v H' e r => k.rt d hd v H' ((f.si.ex.trans e).le f.b4) ((f.si.ext e).out (r.2.1 ho))⟩
theorem p_retO {i : Nat} {x : Str} {p pos : Pos} (hN : X.N[i]? = some x) (hv : Vis X.env.scope x) (hnm : okNm x = true) (ho : owf ow i = true) : PS X (.Return (some (.Name x p)) pos) (rdS T X.K (owf ow) W (.ret (.own i))) :=
  (ps_ret (pe_var hN hv (nm_of hnm).1 (nm_of hnm).2)).imp fun D σ H h => by
    obtain ⟨B, O, H0, u, un, ub, uc, ut, ρ, κ, f, ⟨d, hd, hq⟩, k⟩ := h
    obtain ⟨a, h1, h2, h3⟩ := f.si.fr.ow i d ho hd
    exact ⟨_, h1, k.rt d hq _ H (f.si.ex.le f.b4) (f.si.outO h2 h3)⟩
theorem p_expr {e : E} {v : Expr} {pos : Pos} (hs : swapsWith v none pos.line X.env = pure false) (he : PE X v (rdE T X.K (owf ow) W e)) : PS X (.Expr v pos) (rdS T X.K (owf ow) W (.expr e)) := (ps_expr he hs).imp fun D σ H h => by
  obtain ⟨B, O, H0, u, un, ub, uc, ut, ρ, κ, f, hq, k⟩ := h
  exact ⟨B, O, ρ, κ.xc, _, k.fx f, hq, fun d hd v H' e r => k.nx ρ hd O σ H' ((f.si.ext e).le f.b1) (.of e)⟩
theorem p_asg (G : GoodS T L W X) {e : E} {v : Expr} {i : Nat} {x : Str} {p pos : Pos} (hN : X.N = N) (hi : N[i]? = some x) (hx : Loc X.env.scope x) (hw : owf ow i = false) (ho : ownB e = false) (hk : isLck e = false) (h : mE T N ow .val X.env.scope e v = true) :
    PS X (.Assign [.Name x p] v pos) (rdS T X.K (owf ow) W (.asg i e)) := (p_set G hN hi hx hk h).imp fun D σ H h => by
  obtain ⟨B, O, H0, u, un, ub, uc, ut, ρ, κ, f, hq, k⟩ := h
  exact ⟨B, O, ρ, κ.xc, _, k.fx f, hq, fun d hd v H' e r => k.nx _ hd O _ H' (((f.si.ext e).set hw (r.2.1 ho)).le f.b1) (.of e)⟩
theorem p_own (G : GoodS T L W X) {e : E} {v : Expr} {i : Nat} {x : Str} {p pos : Pos} (hN : X.N = N) (hi : N[i]? = some x) (hx : Loc X.env.scope x) (hw : owf ow i = true) (hn : newB e = true) (hk : isLck e = false) (h : mE T N ow .val X.env.scope e v = true) :
    PS X (.Assign [.Name x p] v pos) (rdS T X.K (owf ow) W (.own i e)) := (p_set G hN hi hx hk h).imp fun D σ H h => by
  obtain ⟨B, O, H0, u, un, ub, uc, ut, ρ, κ, f, hq, k⟩ := h
  refine ⟨B, O, ρ, κ.xc, _, k.fx f, hq, fun d hd v H' e r => ?_⟩
  obtain ⟨q, rfl, hq', r'⟩ := r.2.2 hn
  obtain ⟨f', s⟩ := f.si.mine e hw hq' r'
  exact k.nx _ hd _ _ H' (f'.le f.b1) s
theorem p_move (G : GoodS T L W X) {i j : Nat} {x y : Str} {p q pos : Pos} (hi : X.N[i]? = some x) (hx : Loc X.env.scope x) (hj : X.N[j]? = some y) (hy : Vis X.env.scope y) (hnm : okNm y = true) (hw : owf ow i = false) (hw2 : owf ow j = true) :
    PS X (.Assign [.Name x p] (.Name y q) pos) (rdS T X.K (owf ow) W (.move i j)) :=
  (ps_set G.g.nd hi hx (pe_var hj hy (nm_of hnm).1 (nm_of hnm).2) rfl (.inl (G.fn x))).imp fun D σ H h => by
    obtain ⟨B, O, H0, u, un, ub, uc, ut, ρ, κ, f, ⟨d, hd, hq⟩, k⟩ := h
    obtain ⟨a, h1, h2, h3⟩ := f.si.fr.ow j d hw2 hd
    obtain ⟨f1, s1⟩ := f.si.lend hw2 hd h1 h2
    have na : ¬ U B (fun c => O c ∧ c ≠ a) a := fun z => z.elim (f.si.dj a h2) fun z => z.2 rfl
    have r : Rep X.K (U B (fun c => O c ∧ c ≠ a)) H d (.ref a) := own_rep na (OwnAt.keep keeps_refl (grows_less fun b z => by
      rcases z with (z | z) | z
      · exact .inl z
      · exact .inr z.1
      · exact .inr (by rw [z]; exact h2)) (fun o h _ => h) h3)
    exact ⟨_, h1, k.nx _ hq _ _ H ((f1.set hw r).le f.b1) s1⟩
theorem p_asgT (G : GoodS T L W X) {e : E} {v t : Expr} {tg : Pt} {pos : Pos} (hN : X.N = N) (ht : mPt N ow none X.env.scope tg t = true) (hs : swapsWithSole [t] v pos.line X.env = pure false) (hw : swappedStores [t] v X.env = pure none) (h1 : (assignEach [t] X.env).map (·.2) = [assign t X.env])
    (ho : ownB e = false) (he : PE X v (rdE T X.K (owf ow) W e)) : PS X (.Assign [t] v pos) (rdS T X.K (owf ow) W (.asgT tg e)) :=
  (ps_asg he (pg_pt G.g.calm hN G.g.nd rfl (show FnOf X none from G.fn) ht) hs hw h1).imp fun D σ H h => by
    obtain ⟨B, O, H0, u, un, ub, uc, ut, ρ, κ, f, hq, k⟩ := h
    refine ⟨B, O, ρ, κ.xc, _, k.fx f, hq, fun d hd v H' e r => ?_⟩
    have f' := (f.si.ext e).le f.b1
    exact gpt_of f'.fr (fun i hi => (mPt_own ht i hi).1) (r.2.1 ho) hd fun σ' ρ' hr fr _ => k.nx ρ' hr O σ' H' ⟨fr, f'.ex, f'.fresh, f'.oldB⟩ (.of e)
theorem p_if {c : E} {a b : List S} {z : Expr} {x y : List Stmt} {pos : Pos} (hc : PT X z (rdT T X.K (owf ow) W c)) (ha : PSs X x (rdSs T X.K (owf ow) W a)) (hb : PSs X y (rdSs T X.K (owf ow) W b)) : PS X (.If z x y pos) (rdS T X.K (owf ow) W (.iff c a b)) :=
  (ps_if hc ha hb).imp fun D σ H h => by
    obtain ⟨B, O, H0, u, un, ub, uc, ut, ρ, κ, f, hq, k⟩ := h
    have f0 : SX X.K (owf ow) B O H0 u un ub uc ut (dcE T c + (dcSs T a + dcSs T b)) H σ ρ := f
    refine ⟨B, O, ρ, κ.xc, _, k.fx f0.l, hq, fun d hd => ?_⟩
    obtain ⟨t, rfl, q⟩ := hd
    refine ⟨t, rfl, fun H' e => ?_⟩
    cases t with
    | true => exact ⟨B, O, H0, _, un, ub, uc, ut, ρ, κ, (f0.ex e).l, q, k.step (.of e)⟩
    | false => exact ⟨B, O, H0, _, un, ub, uc, ut, ρ, κ, (f0.ex e).le (Nat.le_add_left _ _), q, k.step (.of e)⟩
theorem p_while (G : GoodS T L W X) {c : E} {b : List S} {z : Expr} {x : List Stmt} {pos : Pos} (zc : dcE T c = 0) (zb : dcSs T b = 0) (hc : PT X z (rdT T X.K (owf ow) W c)) (hb : PSs X x (rdSs T X.K (owf ow) W b)) : PS X (.While z x [] pos) (rdS T X.K (owf ow) W (.while c b)) :=
  (ps_while G.po hc hb).imp fun D σ H h => by
    obtain ⟨B, O, H0, u, un, ub, uc, ut, ρ, κ, f, ⟨n, hq⟩, k⟩ := h
    refine ⟨fun m σ' H' => ∃ O' ρ', SI X.K (owf ow) B O' H0 u H' σ' ρ' ∧ Stp B O H O' H' ∧ whileL (fun ρ Q => wpE T κ.xc c ρ fun d => ∃ k, d = .bl k ∧ Q k) (fun ρ K => wpSs T b ρ K) κ m ρ', ⟨n, O, ρ, f.si, .refl, hq⟩, fun m σ1 H1 w => ?_⟩
    obtain ⟨O1, ρ1, f1, s1, w1⟩ := w
    cases m with
    | zero => exact w1.elim
    | succ m =>
      have k1 := k.step s1
      have fx : SX X.K (owf ow) B O1 H0 u un ub uc ut (dcE T c) H1 σ1 ρ1 := ⟨f1, by rw [zc]; exact f.b1, by rw [zc]; exact f.b2, by rw [zc]; exact f.b3, by rw [zc]; exact f.b4, f.rm⟩
      refine ⟨B, O1, ρ1, κ.xc, _, k1.fx fx, (show wpE T κ.xc c ρ1 fun d => ∃ k, d = .bl k ∧ _ from w1), fun d hd => ?_⟩
      obtain ⟨t, rfl, q⟩ := hd
      refine ⟨t, rfl, fun H' e => ?_⟩
      rw [zc] at e
      have f2 : SI X.K (owf ow) B O1 H0 u H' σ1 ρ1 := f1.ext e
      cases t with
      | false => exact k1.nx ρ1 q O1 σ1 H' (f2.le f.b1) (.of e)
      | true =>
        refine ⟨fun σ' H' => ∃ O' ρ', SI X.K (owf ow) B O' H0 u H' σ' ρ' ∧ Stp B O H O' H' ∧ whileL (fun ρ Q => wpE T κ.xc c ρ fun d => ∃ k, d = .bl k ∧ Q k) (fun ρ K => wpSs T b ρ K) κ m ρ', fun σ' H' z => ⟨m, Nat.lt_succ_self m, z⟩, B, O1, H0, u, u, un, u, ut, ρ1, _, ⟨f2, by rw [zb]; exact Nat.le_refl _, by rw [zb]; exact f.b1, by rw [zb]; exact Nat.le_refl _, by rw [zb]; exact f.b4, f.rm⟩, q, ?_⟩
        have s2 := s1.trans (Stp.of e)
        exact ⟨fun ρ' h O' σ' H' f' s' => ⟨O', ρ', f', s2.trans s', h⟩, fun ρ' h O' σ' H' f' s' => k.nx ρ' h O' σ' H' f' (s2.trans s'), fun ρ' h O' σ' H' f' s' => ⟨O', ρ', f', s2.trans s', h⟩, k.rt, k.xc⟩
theorem p_raise (G : GoodS T L W X) {c m : Str} {j : Nat} {p q pos pos' : Pos} (hx : T.exc c = true) (hg : Gl X c) (hd : c ≠ "__debug__") : PS X (.Raise (some (.Call (.Name c p) [.Constant (.str m) j q] [] pos)) none pos') (rdS T X.K (owf ow) W (.raise c)) := by
  have x := G.g.tab.exc c hx
  obtain ⟨Bn, newId, initId, bmB, F, hq⟩ := x.ex
  refine (L2N.ps_raise G.g.calm G.g.tk (L2N.pmk_own F hq x.gl x.kp (raises_own x.sub x.ty) hg (beq_eq_false_iff_ne.mpr hd))).imp fun D σ H h => ?_
  obtain ⟨B, O, H0, u, un, ub, uc, ut, ρ, κ, f, hq, k⟩ := h
  exact k.xc ⟨c, none⟩ hq _ _ σ H (f.si.ex.le f.b4) ⟨rfl, rfl⟩
/-! one's own lists and dicts -/
theorem own_lst {K : PySem.W.Frag} {B O : AP} {H H2 : Hp} {a : Addr} {l : List D} (h : OwnAt K (U B O) H a (.lst l)) {δ : Nat} (e : Ex δ H H2) : ∃ vs, H2 a = some (.lst vs) ∧ RepL K (U B O) H2 l vs := by
  obtain ⟨vs, h1, h2⟩ := h
  exact ⟨vs, e.at h1 rfl, h2.ex e⟩
theorem p_setL (G : GoodS T L W X) {i : Nat} {x : Str} {ix e : E} {y v : Expr} {p q pos : Pos} (hi : X.N[i]? = some x) (hv : Vis X.env.scope x) (hnm : okNm x = true) (hw : owf ow i = true) (ho : ownB e = false) (hsl : noSlice y = true)
    (hs : swapsWithSole [.Subscript (.Name x p) y q] v pos.line X.env = pure false) (hy : PE X y (rdE T X.K (owf ow) W ix)) (he : PE X v (rdE T X.K (owf ow) W e)) : PS X (.Assign [.Subscript (.Name x p) y q] v pos) (rdS T X.K (owf ow) W (.setL i ix e)) :=
  (ps_asg he (pg_sub (pe_var hi hv (nm_of hnm).1 (nm_of hnm).2) hy set_list (by cases y <;> first | exact fun _ => rfl | cases hsl)) hs rfl rfl).imp fun D σ H h => by
    obtain ⟨B, O, H0, u, un, ub, uc, ut, ρ, κ, f, ⟨l, hl, hq⟩, k⟩ := h
    obtain ⟨a, h1, h2, h3⟩ := f.si.fr.ow i _ hw hl
    refine ⟨B, O, ρ, κ.xc, _, k.fx f.l, hq, fun d hd v H1 e1 r1 => ⟨_, h1, B, O, ρ, κ.xc, _, (k.fx f).ex e1, hd, fun y hy u H2 e2 r2 => ?_⟩⟩
    obtain ⟨m, j, rfl, hj, hn⟩ := hy
    obtain ⟨vs, q1, q2⟩ := own_lst h3 (e1.trans e2)
    have kk : Keeps (U B O) H2 (upd H2 a (.lst (vs.set j v))) := keeps_upd (.inr h2) q1 rfl
    obtain ⟨f', s'⟩ := ((f.si.ext e1).ext e2).upd (d' := .lst (l.set j d)) hw hl h1 h2 q1 rfl (show isMt (.lst (vs.set j v)) = true from rfl) rfl ⟨_, upd_same, RepL.keep kk grows_refl _ _ (RepL.set j q2 ((r1.2.1 ho).ex e2))⟩
    exact ⟨a, vs, m, j, rfl, rb_int r2.1, q1, by rw [RepL.length q2]; exact hj, k.nx _ hn O σ _ (f'.le (by rw [Nat.add_assoc]; exact f.b1)) ((Stp.of (e1.trans e2)).trans s')⟩
theorem put_of {K : PySem.W.Frag} {B O : AP} {H H2 : Hp} {a : Addr} {x y d : D} {u v : V} {Q : DK} (hx : OwnAt K (U B O) H a x) {δ : Nat} (e : Ex δ H H2) (ha : O a) (ry : RepB K (U B O) H2 y u) (rd : Rep K (U B O) H2 d v) (h : putX x y d Q) :
    ∃ o o' x', H2 a = some o ∧ isMt o = true ∧ isMt o' = true ∧ isX o' = false ∧ DPut H2 a u v (upd H2 a o') ∧ OwnAt K (U B O) (upd H2 a o') a x' ∧ Q x' := by
  cases x with
  | dic l =>
    obtain ⟨k, hk, hl, q⟩ := h
    obtain ⟨vs, h1, h2⟩ := hx
    have q1 := e.at h1 rfl
    have q2 := RepK.keep (keeps_ex e) grows_refl _ _ h2
    have kk : Keeps (U B O) H2 (upd H2 a (.dK (putK vs k v))) := keeps_upd (.inr ha) q1 rfl
    refine ⟨_, .dK (putK vs k v), .dic (putD l k d), q1, rfl, rfl, rfl, .inl ⟨vs, k, q1, keyK_rep hk ry, by rw [repK_length q2]; exact hl, rfl⟩, ⟨_, upd_same, RepK.keep kk grows_refl _ _ (rep_putK q2 rd)⟩, q⟩
  | dit l =>
    obtain ⟨k, hk, hl, q⟩ := h
    obtain ⟨vs, h1, h2⟩ := hx
    have q1 := e.at h1 rfl
    have q2 := RepT.keep (keeps_ex e) grows_refl _ _ h2
    have kk : Keeps (U B O) H2 (upd H2 a (.dT (putK vs k v))) := keeps_upd (.inr ha) q1 rfl
    obtain ⟨b, eb, hb⟩ := keyT_rep hk ry
    refine ⟨_, .dT (putK vs k v), .dit (putD l k d), q1, rfl, rfl, rfl, .inr ⟨vs, k, b, q1, eb, hb, by rw [repT_length q2]; exact hl, rfl⟩, ⟨_, upd_same, RepT.keep kk grows_refl _ _ (rep_putT q2 rd)⟩, q⟩
  | _ => exact h.elim
theorem p_setD (G : GoodS T L W X) {i : Nat} {x : Str} {ky e : E} {y v : Expr} {p q pos : Pos} (hi : X.N[i]? = some x) (hv : Vis X.env.scope x) (hnm : okNm x = true) (hw : owf ow i = true) (ho : ownB e = false)
    (hs : swapsWith v (some (.Subscript (.Name x p) y q)) pos.line X.env = pure false) (hy : PE X y (rdE T X.K (owf ow) W ky)) (he : PE X v (rdE T X.K (owf ow) W e)) : PS X (.Assign [.Subscript (.Name x p) y q] v pos) (rdS T X.K (owf ow) W (.setD i ky e)) :=
  (ps_dput (units1 G.g) (pe_var hi hv (nm_of hnm).1 (nm_of hnm).2) hy he hs).imp fun D σ H h => by
    obtain ⟨B, O, H0, u, un, ub, uc, ut, ρ, κ, f, ⟨x, hl, hq⟩, k⟩ := h
    obtain ⟨a, h1, h2, h3⟩ := f.si.fr.ow i _ hw hl
    refine ⟨B, O, ρ, κ.xc, _, k.fx f.l, hq, fun d hd v H1 e1 r1 => ⟨_, h1, B, O, ρ, κ.xc, _, (k.fx f).ex e1, hd, fun y hy u H2 e2 r2 => ?_⟩⟩
    obtain ⟨o, o', x', q1, m1, m2, m3, dp, r', q⟩ := put_of h3 (e1.trans e2) h2 r2.1 ((r1.2.1 ho).ex e2) hy
    obtain ⟨f', s'⟩ := ((f.si.ext e1).ext e2).upd hw hl h1 h2 q1 m1 m2 m3 r'
    exact ⟨a, _, rfl, dp, k.nx _ q O σ _ (f'.le (by rw [Nat.add_assoc]; exact f.b1)) ((Stp.of (e1.trans e2)).trans s')⟩
theorem p_par (G : GoodS T L W X) {i j : Nat} {x y : Str} {px py pt pt2 pos : Pos} {kt k2} {a b : E} {u v : Expr} (hi : X.N[i]? = some x) (hj : X.N[j]? = some y) (hij : i ≠ j) (hwi : owf ow i = false) (hwj : owf ow j = false) (ha : ownB a = false) (hb : ownB b = false) (hp : parB X.env.scope x y px py u v = true) (hu : noStar u = true) (hv : noStar v = true)
    (h1 : PE X u (rdE T X.K (owf ow) W a)) (h2 : PE X v (rdE T X.K (owf ow) W b)) : PS X (.Assign [.Tuple [.Name x px, .Name y py] kt pt] (.Tuple [u, v] k2 pt2) pos) (rdS T X.K (owf ow) W (.par i j a b)) :=
  (ps_par G.g.calm G.g.nd hi hj hij (of_decide_eq_true (and2 (and2 hp).1).1) (of_decide_eq_true (and2 (and2 hp).1).2) (pa_cons h1 (pa_cons h2 pa_nil (star_of hv)) (star_of hu)) (sw_par G.kind hp)).imp fun D σ H h => by
    obtain ⟨B, O, H0, w, un, ub, uc, ut, ρ, κ, f, hq, k⟩ := h
    refine ⟨B, O, ρ, κ.xc, _, (k.fx f).l, hq, fun d1 hd1 v1 H1 e1 r1 => ⟨B, O, ρ, κ.xc, _, (k.fx f).ex e1, hd1, fun d2 hd2 v2 H2 e2 r2 => ⟨v1, v2, rfl, ?_⟩⟩⟩
    exact k.nx _ hd2 O _ H2 (((((f.si.ext e1).ext e2).set hwi ((r1.2.1 ha).ex e2)).set hwj (r2.2.1 hb)).le (by rw [Nat.add_assoc]; exact f.b1)) (.of (e1.trans e2))
theorem rep_putF {K : PySem.W.Frag} {A : AP} {H : Hp} {f : Str} {d : D} {v : V} (rd : Rep K A H d v) : ∀ {l : List (Str × D)} {fs : List (Str × V)}, RepF K A H l fs → RepF K A H (putFD f d l) (putF f v fs) ∧ fs.length = l.length
  | [], fs, h => by
    rw [show fs = [] from h]
    exact ⟨⟨v, [], rfl, rd, rfl⟩, rfl⟩
  | (k, x) :: l, fs, h => by
    obtain ⟨u, r, rfl, h1, h2⟩ := (show ∃ v r, fs = (k, v) :: r ∧ Rep K A H x v ∧ RepF K A H l r from h)
    obtain ⟨i1, i2⟩ := rep_putF rd h2
    refine ⟨?_, by rw [List.length_cons, List.length_cons, i2]⟩
    unfold putFD putF
    by_cases e : k = f
    · rw [if_pos e, if_pos e]
      exact ⟨v, r, rfl, rd, h2⟩
    · rw [if_neg e, if_neg e]
      exact ⟨u, _, rfl, h1, i1⟩
theorem p_setF (G : GoodS T L W X) {i : Nat} {x c g : Str} {e : E} {v : Expr} {p q pos : Pos} (hi : X.N[i]? = some x) (hv : Vis X.env.scope x) (hnm : okNm x = true) (hw : owf ow i = true) (ho : ownB e = false) (hfl : T.fld c g = true)
    (he : PE X v (rdE T X.K (owf ow) W e)) : PS X (.Assign [.Attribute (.Name x p) g q] v pos) (rdS T X.K (owf ow) W (.setF i c g e)) :=
  (ps_fld (pe_var hi hv (nm_of hnm).1 (nm_of hnm).2) he (by cases v <;> rfl)).imp fun D σ H h => by
    obtain ⟨B, O, H0, u, un, ub, uc, ut, ρ, κ, f, ⟨l, hl, hq⟩, k⟩ := h
    obtain ⟨a, h1, h2, h3⟩ := f.si.fr.ow i _ hw hl
    obtain ⟨cl, na⟩ := G.g.tab.fld c g hfl
    refine ⟨B, O, ρ, κ.xc, _, k.fx f, hq, fun d hd v H1 e1 r1 => ?_⟩
    obtain ⟨hz, q⟩ := hd
    obtain ⟨dx, fs, q1, q2⟩ := (show ∃ dx fs, H1 a = some (.ins (He.ga X.K c) dx fs) ∧ RepF X.K (U B O) H1 l fs from h3.ex e1)
    obtain ⟨z1, z2⟩ := rep_putF (f := g) (r1.2.1 ho) q2
    have kk : Keeps (U B O) H1 (upd H1 a (.ins (He.ga X.K c) dx (putF g v fs))) := keeps_upd (.inr h2) q1 rfl
    obtain ⟨f', s'⟩ := (f.si.ext e1).upd (d' := .obj c (putFD g d l)) hw hl h1 h2 q1 rfl (show isMt (.ins (He.ga X.K c) dx (putF g v fs)) = true from rfl) rfl ⟨dx, _, upd_same, RepF.keep kk grows_refl _ _ z1⟩
    exact ⟨_, h1, a, _, dx, fs, rfl, q1, cl, na, by rw [z2]; exact hz, k.nx _ q O σ _ (f'.le f.b1) ((Stp.of e1).trans s')⟩
theorem p_app (G : GoodS T L W X) {i : Nat} {x : Str} {e : E} {v : Expr} {p ap cp pos : Pos} (hi : X.N[i]? = some x) (hv : Vis X.env.scope x) (hnm : okNm x = true) (hw : owf ow i = true) (ho : ownB e = false) (hln : (ap.endLine == cp.line) = true) (hs : noStar v = true)
    (he : PE X v (rdE T X.K (owf ow) W e)) : PS X (.Expr (.Call (.Attribute (.Name x p) "append" ap) [v] [] cp) pos) (rdS T X.K (owf ow) W (.app i e)) :=
  (ps_expr (pe_bm PySem.F.plainAttrs_list PySem.F.slot_list_append PySem.F.type_list_append mt_append (pe_var hi hv (nm_of hnm).1 (nm_of hnm).2) (a_one' hs he) rfl (by rw [star_of hs]; rfl) hln (star_of hs) rfl)).imp fun D σ H h => by
    obtain ⟨B, O, H0, u, un, ub, uc, ut, ρ, κ, f, ⟨l, hl, hq⟩, k⟩ := h
    obtain ⟨a, h1, h2, h3⟩ := f.si.fr.ow i _ hw hl
    obtain ⟨us, z1, _⟩ := id h3
    refine ⟨_, h1, ty_lst z1, B, O, ρ, κ.xc, _, k.fx f, hq, fun d hd v H1 e1 r1 => ?_⟩
    obtain ⟨hz, q⟩ := hd
    obtain ⟨vs, q1, q2⟩ := own_lst h3 e1
    have kk : Keeps (U B O) H1 (upd H1 a (.lst (vs ++ [v]))) := keeps_upd (.inr h2) q1 rfl
    obtain ⟨f', s'⟩ := (f.si.ext e1).upd (d' := .lst (l ++ [d])) hw hl h1 h2 q1 rfl (show isMt (.lst (vs ++ [v])) = true from rfl) rfl ⟨_, upd_same, RepL.keep kk grows_refl _ _ (RepL.append q2 (repL_one (r1.2.1 ho)))⟩
    exact ⟨a, vs, v, rfl, rfl, q1, by rw [RepL.length q2]; exact hz, k.nx _ q O σ _ (f'.le f.b1) ((Stp.of e1).trans s')⟩
theorem p_ext (G : GoodS T L W X) {i : Nat} {x : Str} {e : E} {v : Expr} {p ap cp pos : Pos} (hi : X.N[i]? = some x) (hv : Vis X.env.scope x) (hnm : okNm x = true) (hw : owf ow i = true) (hln : (ap.endLine == cp.line) = true) (hs : noStar v = true)
    (he : PE X v (rdE T X.K (owf ow) W e)) : PS X (.Expr (.Call (.Attribute (.Name x p) "extend" ap) [v] [] cp) pos) (rdS T X.K (owf ow) W (.ext i e)) :=
  (ps_expr (pe_bm PySem.F.plainAttrs_list PySem.F.slot_list_extend PySem.F.type_list_extend mt_extend (pe_var hi hv (nm_of hnm).1 (nm_of hnm).2) (a_one' hs he) rfl (by rw [star_of hs]; rfl) hln (star_of hs) rfl)).imp fun D σ H h => by
    obtain ⟨B, O, H0, u, un, ub, uc, ut, ρ, κ, f, ⟨l, hl, hq⟩, k⟩ := h
    obtain ⟨a, h1, h2, h3⟩ := f.si.fr.ow i _ hw hl
    obtain ⟨us, z1, _⟩ := id h3
    refine ⟨_, h1, ty_lst z1, B, O, ρ, κ.xc, _, k.fx f, hq, fun d hd v H1 e1 r1 => ?_⟩
    obtain ⟨m, rfl, hz, q⟩ := hd
    obtain ⟨b, ws, rfl, w1, w2⟩ := rb_lst r1.1
    obtain ⟨vs, q1, q2⟩ := own_lst h3 e1
    have kk : Keeps (U B O) H1 (upd H1 a (.lst (vs ++ ws))) := keeps_upd (.inr h2) q1 rfl
    obtain ⟨f', s'⟩ := (f.si.ext e1).upd (d' := .lst (l ++ m)) hw hl h1 h2 q1 rfl (show isMt (.lst (vs ++ ws)) = true from rfl) rfl ⟨_, upd_same, RepL.keep kk grows_refl _ _ (RepL.append q2 w2)⟩
    exact ⟨a, b, vs, ws, rfl, rfl, q1, w1, by rw [RepL.length q2, RepL.length w2]; exact hz, k.nx _ q O σ _ (f'.le f.b1) ((Stp.of e1).trans s')⟩
end
end DL

/-! D9: for; the checker of statements; defs -/
namespace DL
open PySem PySem.Spec PyProof.Rows L2 Evl

section
variable {T : Tb} {L : Nat} {W : WX} {X : Cx} {ow : List Nat} {N : List Str}
abbrev forStep (T : Tb) (tg : Pt) (b : List S) : D → DE → KD → Prop := fun d ρ κ => setPt tg d ρ fun ρ' => wpSs T b ρ' κ
theorem for_turns {B O O1 : AP} {H0 H H1 : Hp} {σ : L2.St} {ρ1 : DE} {κ : KD} {D : Ends} {J : It} {C : AP → Hp → Prop} {l : List DL.D} {tg : Pt} {b : List S} {u un ub uc ut δ : Nat} (hδ : dcSs T b = δ) (f : SX X.K (owf ow) B O1 H0 u un ub uc ut (wkL * δ) H1 σ ρ1) (hlp : δ = 0 ∨ l.length ≤ wkL)
    (s : Stp B O H O1 H1) (k : KOk X.K (owf ow) W B O H0 un ub uc ut H κ D)
    (wk : WkJ X.K J C l) (hC : ∀ O' H', Stp B O1 H1 O' H' → C (U B O') H') (ht : ∀ i ∈ ptIx tg, owf ow i = false) (hw : forL (forStep T tg b) κ l ρ1) :
    ∃ W' : Nat → Nat → L2.St → Hp → Prop, (∃ m, W' 0 m σ H1) ∧ ∀ i m σ H, W' i m σ H →
      (J.stop i H ∧ D.nx σ H) ∨ (J.go i H ∧ ∃ N : L2.St → Hp → Prop, (∀ σ' H', N σ' H' → ∃ m', m' < m ∧ W' (i + 1) m' σ' H') ∧ ∀ x H', J.yld i H x H' → gPt X.K tg x σ H' fun σ2 H2 => rdSs T X.K (owf ow) W b { D with nx := N, ct := N, bk := D.nx } σ2 H2) := by
  have w : Walk J l.length (fun H => ∃ A, C A H) (fun i H x H' => Ex 0 H H' ∧ ∀ A, C A H → ∃ d, l[i]? = some d ∧ Rep X.K A H' d x) :=
    ⟨fun i H hi ⟨A, h⟩ => (wk A H h).1 i hi, fun H ⟨A, h⟩ => (wk A H h).2.1, fun i H x H' hi ⟨A, h⟩ y => ⟨((wk A H h).2.2 i x H' hi y).1, fun A h => ((wk A H h).2.2 i x H' hi y).2⟩⟩
  have C' : ∀ {O' : AP} {H' : Hp}, Stp B O1 H1 O' H' → C (U B O') H' := fun s => hC _ _ s
  refine for_it w (fun i σ' H' => ∃ O' ρ', SI X.K (owf ow) B O' H0 (u + i * δ) H' σ' ρ' ∧ Stp B O1 H1 O' H' ∧ forL (forStep T tg b) κ (l.drop i) ρ') ⟨O1, ρ1, by rw [Nat.zero_mul]; exact f.si, .refl, hw⟩ (fun i σ' H' _ h => ?_) (fun i x σ' H' H'' hi h y => ?_) (fun σ' H' h => ?_)
  · obtain ⟨O', ρ', _, s', _⟩ := h
    exact ⟨_, C' s'⟩
  · obtain ⟨O', ρ', f', s', hl⟩ := h
    obtain ⟨e, y⟩ := y
    obtain ⟨d, hd, r⟩ := y _ (C' s')
    rw [drop_at hd] at hl
    have f2 : SI X.K (owf ow) B O' H0 (u + i * δ) H'' σ' ρ' := f'.ext e
    have step : (i + 1) * δ = i * δ + δ := Nat.succ_mul i δ
    have hle := lp_le hlp (show i + 1 ≤ l.length from hi)
    have b1 := f.b1
    have b4 := f.b4
    have hl' : setPt tg d ρ' fun ρ'' => wpSs T b ρ'' { nx := forL (forStep T tg b) κ (l.drop (i + 1)), rt := κ.rt, bk := κ.nx, ct := forL (forStep T tg b) κ (l.drop (i + 1)), xc := κ.xc } := hl
    refine gpt_of f2.fr ht r hl' fun σ2 ρ2 hr fr _ => ⟨B, O', H0, u + i * δ, u + (i + 1) * δ, un, u + (i + 1) * δ, ut, ρ2, _, ⟨⟨fr, f2.ex, f2.fresh, f2.oldB⟩, by rw [hδ]; omega, by rw [hδ]; omega, by rw [hδ]; omega, by rw [hδ]; omega, f.rm⟩, hr, ?_⟩
    have s2 := s'.trans (Stp.of e)
    have s3 := s.trans s2
    exact ⟨fun ρ3 h O3 σ3 H3 f3 t => ⟨O3, ρ3, f3, s2.trans t, h⟩, fun ρ3 h O3 σ3 H3 f3 t => k.nx ρ3 h O3 σ3 H3 f3 (s3.trans t), fun ρ3 h O3 σ3 H3 f3 t => ⟨O3, ρ3, f3, s2.trans t, h⟩, k.rt, k.xc⟩
  · obtain ⟨O', ρ', f', s', hl⟩ := h
    rw [List.drop_length] at hl
    have hle := lp_le hlp (Nat.le_refl _)
    have b1 := f.b1
    exact k.nx ρ' hl O' σ' H' (f'.le (by omega)) (s.trans s')
theorem p_for (G : GoodS T L W X) {tg : Pt} {it : E} {b : List S} {t i : Expr} {xs : List Stmt} {pos : Pos} (hN : X.N = N) (hs : noSet i = true) (ho : ownS it = false) (ht : mPt N ow none X.env.scope tg t = true) (hi : PI X t i (rdI T X.K (owf ow) W it)) (hb : PSs X xs (rdSs T X.K (owf ow) W b)) :
    PS X (.For t i xs [] pos) (rdS T X.K (owf ow) W (.for tg it b)) :=
  (ps_for G.po G.g.calm hi (pg_pt G.g.calm hN G.g.nd rfl (show FnOf X none from G.fn) ht) hb (fold_of hs)).imp fun D σ H h => by
    obtain ⟨B, O, H0, u, un, ub, uc, ut, ρ, κ, f, hq, k⟩ := h
    have f0 : SX X.K (owf ow) B O H0 u un ub uc ut (dcE T it + wkL * dcSs T b) H σ ρ := f
    refine ⟨B, O, ρ, κ.xc, _, k.fx f0.l, (show wpE T κ.xc it ρ _ from hq), fun w hw => ?_⟩
    obtain ⟨l, hl, hlp, hw⟩ := hw
    refine ⟨l, hl, fun J C H1 e1 wk cst hC _ => ?_⟩
    rw [ho] at cst
    have hld : lend it ρ = ρ := by
      cases it with
      | own i => cases ho
      | _ => rfl
    rw [hld] at hw
    exact for_turns rfl (f0.ex e1) hlp (.of e1) k wk (fun O' H' s => cst.kp rfl _ _ _ _ hC s.keeps s.gr) (fun i hi => (mPt_own ht i hi).1) hw
theorem p_forO (G : GoodS T L W X) {tg : Pt} {j : Nat} {x : Str} {b : List S} {t : Expr} {xs : List Stmt} {p pos : Pos} (hN : X.N = N) (hj : X.N[j]? = some x) (hv : Vis X.env.scope x) (hnm : okNm x = true) (hw : owf ow j = true) (ht : mPt N ow none X.env.scope tg t = true) (hb : PSs X xs (rdSs T X.K (owf ow) W b)) :
    PS X (.For t (.Name x p) xs [] pos) (rdS T X.K (owf ow) W (.for tg (.own j) b)) :=
  (ps_for G.po G.g.calm (c_iown (T := T) (W := W) hj hv hnm hw) (pg_pt G.g.calm hN G.g.nd rfl (show FnOf X none from G.fn) ht) hb (fun _ => rfl)).imp fun D σ H h => by
    obtain ⟨B, O, H0, u, un, ub, uc, ut, ρ, κ, f, hq, k⟩ := h
    have f0 : SX X.K (owf ow) B O H0 u un ub uc ut (0 + wkL * dcSs T b) H σ ρ := f
    obtain ⟨d0, hd0, l0, hl0, hlp, hw0⟩ := (show ∃ d, ρ[j]? = some (some d) ∧ ∃ l, walkD d = some l ∧ (dcSs T b = 0 ∨ l.length ≤ wkL) ∧ forL (forStep T tg b) κ l (lend (.own j) ρ) from hq)
    refine ⟨B, O, ρ, κ.xc, fun d => d = d0, k.fx f0.l, ⟨d0, hd0, rfl⟩, fun w hw' => ?_⟩
    subst hw'
    refine ⟨l0, hl0, fun J C H1 e1 wk cst hC hown => ?_⟩
    obtain ⟨a, h1, h2, h3⟩ := hown j rfl
    have f1 := f0.ex e1
    obtain ⟨f', s'⟩ := f1.si.lend hw hd0 h1 h2
    have na : ¬ U B (fun c => O c ∧ c ≠ a) a := fun z => z.elim (f.si.dj a h2) fun z => z.2 rfl
    obtain ⟨a', q1, q2, q3⟩ := f1.si.fr.ow j _ hw hd0
    rw [h1] at q1
    cases q1
    have q4 : OwnAt X.K (U B (fun c => O c ∧ c ≠ a)) H1 a w := OwnAt.keep keeps_refl (grows_less fun b z => z.imp id fun z => z.1) (fun o h _ => h) q3
    exact for_turns rfl ⟨f', f1.b1, f1.b2, f1.b3, f1.b4, f1.rm⟩ hlp ((Stp.of e1).trans s') k wk (fun O' H' s => h3 _ _ (OwnAt.keep s.keeps s.gr (fun o h hx => (s.kp a o h fun z => absurd z na).resolve_right fun z => z.not hx) q4)) (fun i hi => (mPt_own ht i hi).1) hw0
end
/-! ### the checker -/
def notTup : Expr → Bool
  | .Tuple vs _ _ => vs.all isCst
  | .List _ _ => false
  | _ => true
def isTup : Expr → Bool
  | .Tuple _ _ _ => true
  | _ => false
def notComp : Expr → Bool
  | .ListComp _ _ _ _ => false
  | .SetComp _ _ _ _ => false
  | .DictComp _ _ _ _ _ => false
  | _ => true
/-- x, y = u, v -/
def parP : Stmt → Option (Str × Str × Pos × Pos × Expr × Expr)
  | .Assign [.Tuple [.Name x px, .Name y py] _ _] (.Tuple [u, v] _ _) _ => some (x, y, px, py, u, v)
  | _ => none
theorem parP_eq {s : Stmt} {x y : Str} {px py : Pos} {u v : Expr} (h : parP s = some (x, y, px, py, u, v)) : ∃ k p k2 p2 p3, s = .Assign [.Tuple [.Name x px, .Name y py] k p] (.Tuple [u, v] k2 p2) p3 := by
  unfold parP at h
  split at h
  · cases h
    exact ⟨_, _, _, _, _, rfl⟩
  · cases h
/-- try: .., except .. as n: return f(m) -/
def tryP : Stmt → Option (List Stmt × Str × Str × Str × Str)
  | .Try xs [.ExceptHandler (some (.Name y _)) (some n) [.Return (some (.Call (.Name f _) [.Name m _] [] _)) _] _] [] [] _ => some (xs, y, n, f, m)
  | _ => none
theorem tryP_eq {x : Stmt} {xs : List Stmt} {y n f m : Str} (h : tryP x = some (xs, y, n, f, m)) : ∃ p1 p2 p3 p4 p5 p6 p7, x = .Try xs [.ExceptHandler (some (.Name y p1)) (some n) [.Return (some (.Call (.Name f p2) [.Name m p3] [] p4)) p5] p6] [] [] p7 := by
  unfold tryP at h
  split at h
  · cases h
    exact ⟨_, _, _, _, _, _, _, rfl⟩
  · cases h
def lclB (sc : Scope) (n : Str) : Bool := match sc.names.lookup n with
  | some .local => true
  | _ => false
theorem lcl_of {sc : Scope} {n : Str} (h : lclB sc n = true) : sc.names.lookup n = some .local := by
  unfold lclB at h
  split at h
  · assumption
  · cases h
section
variable (T : Tb) (N : List Str) (ow : List Nat)
mutual
def mS : Scope → S → Stmt → Bool
  | sc, .asg i e, .Assign [.Name x _] v _ => decide (N[i]? = some x) && (locB sc x && (!ow.contains i && (!ownB e && (!isLck e && mE T N ow .val sc e v))))
  | sc, .own i e, .Assign [.Name x _] v _ => decide (N[i]? = some x) && (locB sc x && (ow.contains i && (newB e && (!isLck e && mE T N ow .val sc e v))))
  | sc, .move i j, .Assign [.Name x _] (.Name y _) _ => decide (N[i]? = some x) && (locB sc x && (decide (N[j]? = some y) && (visB sc y && (okNm y && (!ow.contains i && ow.contains j)))))
  | sc, .asgT tg e, .Assign [t] v _ => isTup t && (notTup v && (!ownB e && (mPt N ow none sc tg t && mE T N ow .val sc e v)))
  | sc, .setL i ix e, .Assign [.Subscript (.Name x _) y _] v _ => decide (N[i]? = some x) && (visB sc x && (okNm x && (ow.contains i && (!ownB e && (noSlice y && (notComp v && (mE T N ow .val sc ix y && mE T N ow .val sc e v)))))))
  | sc, .par i j a b, s => (match parP s with
    | some (x, y, px, py, u, v) => decide (N[i]? = some x) && (decide (N[j]? = some y) && (decide (i ≠ j) && (!ow.contains i && (!ow.contains j && (!ownB a && (!ownB b && (parB sc x y px py u v && (noStar u && (noStar v && (mE T N ow .val sc a u && mE T N ow .val sc b v))))))))))
    | none => false)
  | sc, .setF i c f e, .Assign [.Attribute (.Name x _) g _] v _ => decide (N[i]? = some x) && (decide (f = g) && (visB sc x && (okNm x && (ow.contains i && (!ownB e && (T.fld c f && mE T N ow .val sc e v))))))
  | sc, .setD i k e, .Assign [.Subscript (.Name x _) y _] v _ => decide (N[i]? = some x) && (visB sc x && (okNm x && (ow.contains i && (!ownB e && (true && (mE T N ow .val sc k y && mE T N ow .val sc e v))))))
  | sc, .app i e, .Expr (.Call (.Attribute (.Name x _) m ap) [v] [] cp) _ => decide (m = "append") && (decide (N[i]? = some x) && (visB sc x && (okNm x && (ow.contains i && (!ownB e && ((ap.endLine == cp.line) && (noStar v && mE T N ow .val sc e v)))))))
  | sc, .ext i e, .Expr (.Call (.Attribute (.Name x _) m ap) [v] [] cp) _ => decide (m = "extend") && (decide (N[i]? = some x) && (visB sc x && (okNm x && (ow.contains i && ((ap.endLine == cp.line) && (noStar v && mE T N ow .val sc e v))))))
  | sc, .iff c a b, .If z x y _ => mE T N ow .tst sc c z && (mSs sc a x && mSs sc b y)
  | sc, .for tg it b, .For t i xs [] _ => noSet i && (tupT it t && (mE T N ow .itr sc it i && (mPt N ow none sc tg t && mSs sc b xs)))
  | sc, .while c b, .While z xs [] _ => decide (dcE T c = 0) && (decide (dcSs T b = 0) && (mE T N ow .tst sc c z && mSs sc b xs))
  | sc, .ret e, .Return (some v) _ => mE T N ow .val sc e v
  | _, .retn, .Return none _ => true
  | sc, .raise c, .Raise (some (.Call (.Name x _) [.Constant (.str _) _ _] [] _)) none _ => decide (c = x) && (T.exc c && glB sc c)
  | sc, .expr e, .Expr v _ => notComp v && mE T N ow .val sc e v
  | _, .brk, .Break _ => true
  | _, .cont, .Continue _ => true
  | _, .pass, .Pass _ => true
  | sc, .try b i, x => (match tryP x with
    | some (xs, y, n, f, m) => T.err && (decide (y = "SayError") && (glB sc y && (decide (f = "_law_error") && (glB sc f && (decide (m = n) && (decide (N[i]? = some n) && (lclB sc n && (okNm n && mSs sc b xs))))))))
    | none => false)
  | _, _, _ => false
def mSs : Scope → List S → List Stmt → Bool
  | _, [], [] => true
  | sc, s :: ss, x :: xs => mS sc s x && mSs sc ss xs
  | _, _, _ => false
end
end
section
variable {T : Tb} {L : Nat} {N : List Str} {ow : List Nat}
def SoundS (T : Tb) (L : Nat) (N : List Str) (ow : List Nat) (s : S) : Prop := ∀ sc x, mS T N ow sc s x = true → ∀ W X, GoodS T L W X → X.N = N → X.env.scope = sc → PS X x (rdS T X.K (owf ow) W s)
def SoundSs (T : Tb) (L : Nat) (N : List Str) (ow : List Nat) (s : List S) : Prop := ∀ sc x, mSs T N ow sc s x = true → ∀ W X, GoodS T L W X → X.N = N → X.env.scope = sc → PSs X x (rdSs T X.K (owf ow) W s)
theorem t_asg {i : Nat} {e : E} : SoundS T L N ow (.asg i e) := fun sc x h W X G hN hS => by
  cases x with
  | Assign ts v p =>
    match ts, h with
    | [], h => exact absurd h Bool.false_ne_true
    | t :: _ :: _, h => cases t <;> exact absurd h Bool.false_ne_true
    | [t], h =>
      cases t with
      | Name x q =>
        obtain ⟨h1, k2⟩ := and2 (show (decide (N[i]? = some x) && (locB sc x && (!ow.contains i && (!ownB e && (!isLck e && mE T N ow .val sc e v))))) = true from h)
        obtain ⟨h2, k3⟩ := and2 k2
        obtain ⟨h3, k4⟩ := and2 k3
        obtain ⟨h4, k5⟩ := and2 k4
        obtain ⟨h6, h5⟩ := and2 k5
        subst hS
        exact p_asg G hN (of_decide_eq_true h1) (loc_of h2) (not1 h3) (not1 h4) (not1 h6) h5
      | _ => exact absurd h Bool.false_ne_true
  | _ => exact absurd h Bool.false_ne_true
theorem t_own {i : Nat} {e : E} : SoundS T L N ow (.own i e) := fun sc x h W X G hN hS => by
  cases x with
  | Assign ts v p =>
    match ts, h with
    | [], h => exact absurd h Bool.false_ne_true
    | t :: _ :: _, h => cases t <;> exact absurd h Bool.false_ne_true
    | [t], h =>
      cases t with
      | Name x q =>
        obtain ⟨h1, k2⟩ := and2 (show (decide (N[i]? = some x) && (locB sc x && (ow.contains i && (newB e && (!isLck e && mE T N ow .val sc e v))))) = true from h)
        obtain ⟨h2, k3⟩ := and2 k2
        obtain ⟨h3, k4⟩ := and2 k3
        obtain ⟨h4, k5⟩ := and2 k4
        obtain ⟨h6, h5⟩ := and2 k5
        subst hS
        exact p_own G hN (of_decide_eq_true h1) (loc_of h2) h3 h4 (not1 h6) h5
      | _ => exact absurd h Bool.false_ne_true
  | _ => exact absurd h Bool.false_ne_true
theorem t_move {i j : Nat} : SoundS T L N ow (.move i j) := fun sc x h W X G hN hS => by
  cases x with
  | Assign ts v p =>
    match ts, h with
    | [], h => exact absurd h Bool.false_ne_true
    | t :: _ :: _, h => cases t <;> exact absurd h Bool.false_ne_true
    | [t], h =>
      cases t with
      | Name x q =>
        cases v with
        | Name y r =>
          obtain ⟨h1, k2⟩ := and2 (show (decide (N[i]? = some x) && (locB sc x && (decide (N[j]? = some y) && (visB sc y && (okNm y && (!ow.contains i && ow.contains j)))))) = true from h)
          obtain ⟨h2, k3⟩ := and2 k2
          obtain ⟨h3, k4⟩ := and2 k3
          obtain ⟨h4, k5⟩ := and2 k4
          obtain ⟨h5, k6⟩ := and2 k5
          obtain ⟨h6, h7⟩ := and2 k6
          subst hS
          subst hN
          exact p_move G (of_decide_eq_true h1) (loc_of h2) (of_decide_eq_true h3) (vis_of h4) h5 (not1 h6) h7
        | _ => exact absurd h Bool.false_ne_true
      | _ => exact absurd h Bool.false_ne_true
  | _ => exact absurd h Bool.false_ne_true
theorem t_asgT {tg : Pt} {e : E} : SoundS T L N ow (.asgT tg e) := fun sc x h W X G hN hS => by
  cases x with
  | Assign ts v p =>
    match ts, h with
    | [], h => exact absurd h Bool.false_ne_true
    | _ :: _ :: _, h => exact absurd h Bool.false_ne_true
    | [t], h =>
      obtain ⟨h1, k2⟩ := and2 (show (isTup t && (notTup v && (!ownB e && (mPt N ow none sc tg t && mE T N ow .val sc e v)))) = true from h)
      obtain ⟨h2, k3⟩ := and2 k2
      obtain ⟨h3, k4⟩ := and2 k3
      obtain ⟨h4, h5⟩ := and2 k4
      subst hS
      cases t with
      | Tuple es kk q =>
        exact p_asgT G hN h4 (by cases v <;> rfl) (by cases v <;> first | rfl | exact sw_cst h2 | exact absurd h2 Bool.false_ne_true) rfl (not1 h3) (sndE e .val _ v h5 W X G.g hN rfl)
      | _ => exact absurd h1 Bool.false_ne_true
  | _ => exact absurd h Bool.false_ne_true
theorem t_setL {i : Nat} {ix e : E} : SoundS T L N ow (.setL i ix e) := fun sc x h W X G hN hS => by
  cases x with
  | Assign ts v p =>
    match ts, h with
    | [], h => exact absurd h Bool.false_ne_true
    | t :: _ :: _, h =>
      cases t with
      | Subscript o y q => cases o <;> exact absurd h Bool.false_ne_true
      | _ => exact absurd h Bool.false_ne_true
    | [t], h =>
      cases t with
      | Subscript o y q =>
        cases o with
        | Name x r =>
          obtain ⟨h1, k2⟩ := and2 (show (decide (N[i]? = some x) && (visB sc x && (okNm x && (ow.contains i && (!ownB e && (noSlice y && (notComp v && (mE T N ow .val sc ix y && mE T N ow .val sc e v)))))))) = true from h)
          obtain ⟨h2, k3⟩ := and2 k2
          obtain ⟨h3, k4⟩ := and2 k3
          obtain ⟨h4, k5⟩ := and2 k4
          obtain ⟨h5, k6⟩ := and2 k5
          obtain ⟨h6, k7⟩ := and2 k6
          obtain ⟨h7, k8⟩ := and2 k7
          obtain ⟨h8, h9⟩ := and2 k8
          subst hS
          subst hN
          exact p_setL G (of_decide_eq_true h1) (vis_of h2) h3 h4 (not1 h5) h6 (by cases v <;> first | rfl | exact absurd h7 Bool.false_ne_true) (sndE ix .val _ y h8 W X G.g rfl rfl) (sndE e .val _ v h9 W X G.g rfl rfl)
        | _ => exact absurd h Bool.false_ne_true
      | _ => exact absurd h Bool.false_ne_true
  | _ => exact absurd h Bool.false_ne_true
theorem t_par {i j : Nat} {a b : E} : SoundS T L N ow (.par i j a b) := fun sc x h W X G hN hS => by
  have h : (match parP x with
    | some (x, y, px, py, u, v) => decide (N[i]? = some x) && (decide (N[j]? = some y) && (decide (i ≠ j) && (!ow.contains i && (!ow.contains j && (!ownB a && (!ownB b && (parB sc x y px py u v && (noStar u && (noStar v && (mE T N ow .val sc a u && mE T N ow .val sc b v))))))))))
    | none => false) = true := h
  cases e : parP x with
  | none =>
    rw [e] at h
    cases h
  | some q =>
    obtain ⟨x1, y1, px, py, u, v⟩ := q
    rw [e] at h
    obtain ⟨kk, p, k2, p2, p3, rfl⟩ := parP_eq e
    obtain ⟨h1, c2⟩ := and2 (show (decide (N[i]? = some x1) && (decide (N[j]? = some y1) && (decide (i ≠ j) && (!ow.contains i && (!ow.contains j && (!ownB a && (!ownB b && (parB sc x1 y1 px py u v && (noStar u && (noStar v && (mE T N ow .val sc a u && mE T N ow .val sc b v))))))))))) = true from h)
    obtain ⟨h2, c3⟩ := and2 c2
    obtain ⟨h3, c4⟩ := and2 c3
    obtain ⟨h4, c5⟩ := and2 c4
    obtain ⟨h5, c6⟩ := and2 c5
    obtain ⟨h6, c7⟩ := and2 c6
    obtain ⟨h7, c8⟩ := and2 c7
    obtain ⟨h8, c9⟩ := and2 c8
    obtain ⟨h9, c10⟩ := and2 c9
    obtain ⟨h10, c11⟩ := and2 c10
    obtain ⟨h11, h12⟩ := and2 c11
    subst hS
    subst hN
    exact p_par G (of_decide_eq_true h1) (of_decide_eq_true h2) (of_decide_eq_true h3) (not1 h4) (not1 h5) (not1 h6) (not1 h7) h8 h9 h10 (sndE a .val _ u h11 W X G.g rfl rfl) (sndE b .val _ v h12 W X G.g rfl rfl)
theorem t_setF {i : Nat} {c f : Str} {e : E} : SoundS T L N ow (.setF i c f e) := fun sc x h W X G hN hS => by
  cases x with
  | Assign ts v p =>
    match ts, h with
    | [], h => exact absurd h Bool.false_ne_true
    | t :: _ :: _, h =>
      cases t with
      | Attribute o y q => cases o <;> exact absurd h Bool.false_ne_true
      | _ => exact absurd h Bool.false_ne_true
    | [t], h =>
      cases t with
      | Attribute o g q =>
        cases o with
        | Name x r =>
          obtain ⟨h1, k2⟩ := and2 (show (decide (N[i]? = some x) && (decide (f = g) && (visB sc x && (okNm x && (ow.contains i && (!ownB e && (T.fld c f && mE T N ow .val sc e v))))))) = true from h)
          obtain ⟨h2, k3⟩ := and2 k2
          obtain ⟨h3, k4⟩ := and2 k3
          obtain ⟨h4, k5⟩ := and2 k4
          obtain ⟨h5, k6⟩ := and2 k5
          obtain ⟨h6, k7⟩ := and2 k6
          obtain ⟨h7, h8⟩ := and2 k7
          subst hS
          subst hN
          obtain rfl := of_decide_eq_true h2
          exact p_setF G (of_decide_eq_true h1) (vis_of h3) h4 h5 (not1 h6) h7 (sndE e .val _ v h8 W X G.g rfl rfl)
        | _ => exact absurd h Bool.false_ne_true
      | _ => exact absurd h Bool.false_ne_true
  | _ => exact absurd h Bool.false_ne_true
theorem t_setD {i : Nat} {ky e : E} : SoundS T L N ow (.setD i ky e) := fun sc x h W X G hN hS => by
  cases x with
  | Assign ts v p =>
    match ts, h with
    | [], h => exact absurd h Bool.false_ne_true
    | t :: _ :: _, h =>
      cases t with
      | Subscript o y q => cases o <;> exact absurd h Bool.false_ne_true
      | _ => exact absurd h Bool.false_ne_true
    | [t], h =>
      cases t with
      | Subscript o y q =>
        cases o with
        | Name x r =>
          obtain ⟨h1, k2⟩ := and2 (show (decide (N[i]? = some x) && (visB sc x && (okNm x && (ow.contains i && (!ownB e && (true && (mE T N ow .val sc ky y && mE T N ow .val sc e v))))))) = true from h)
          obtain ⟨h2, k3⟩ := and2 k2
          obtain ⟨h3, k4⟩ := and2 k3
          obtain ⟨h4, k5⟩ := and2 k4
          obtain ⟨h5, k6⟩ := and2 k5
          obtain ⟨h7, k8⟩ := and2 k6
          obtain ⟨h8, h9⟩ := and2 k8
          subst hS
          subst hN
          exact p_setD G (of_decide_eq_true h1) (vis_of h2) h3 h4 (not1 h5) (by cases v <;> rfl) (sndE ky .val _ y h8 W X G.g rfl rfl) (sndE e .val _ v h9 W X G.g rfl rfl)
        | _ => exact absurd h Bool.false_ne_true
      | _ => exact absurd h Bool.false_ne_true
  | _ => exact absurd h Bool.false_ne_true
end
end DL

/-! F2: try: .., except SayError as e: return _law_error(e) -/
namespace DL
open PySem PySem.Spec PyProof.Rows L2 Evl

section
variable {T : Tb} {L : Nat} {W : WX} {X : Cx} {ow : List Nat} {N : List Str}
/-- what the suite is told -/
def tErr (K : PySem.W.Frag) (i : Nat) (a : Addr) (cls : Value) (d : Option Addr) : TS := fun D σ H => ∃ (c t : Str) (σ0 : L2.St), errT c = some t ∧ cls = .ref (He.ga K c) ∧ d = none ∧ σ = σ0.set i (some (.ref a)) ∧ ∀ H', Ex 0 H H' → D.rt (.str t) H'
theorem pss_err (G : GoodS T L W X) (he : T.err = true) {i : Nat} {n : Str} {p2 p3 p4 p5 : Pos} (hN : X.N[i]? = some n) (hv : Vis X.env.scope n) (hn : okNm n = true) (hg : Gl X "_law_error") (a : Addr) (ob : Obj) (cls : Value) (d : Option Addr) (pn : List (Addr × Obj)) (hz : L2N.Zn cls d ob) (hd : ∃ vs, ob.data = .fields vs) :
    PSs (X.suite a ((a, ob) :: pn)) [.Return (some (.Call (.Name "_law_error" p2) [.Name n p3] [] p4)) p5] (tErr X.K i a cls d) := by
  refine pss_one ⟨fun pins s σ H D I h => ?_⟩
  obtain ⟨c, t, σ0, et, rfl, rfl, rfl, q⟩ := h
  obtain ⟨vs, hd⟩ := hd
  obtain ⟨hL, ⟨fa, fd, mf, kp, hb, run⟩, _⟩ := G.g.tab.err he
  have hl : i < σ0.length := by
    have e1 : (σ0.set i (some (.ref a))).length = X.N.length := I.len
    rw [List.length_set] at e1
    have e2 := (List.getElem?_eq_some_iff.mp hN).1
    omega
  refine wpAny_Return_some (wpAny_mono (Q := EP (X.suite a ((a, ob) :: pn)) pins (σ0.set i (some (.ref a))) D.rt) (wpAny_Call_Name_kw (ld_glob (X := X.suite a ((a, ob) :: pn)) I hg mf ?_)) (fun v s1 ⟨x, H1, I1, r1, q1⟩ => ⟨x, _, H1, I1, r1, q1⟩) (fun _ _ z => z))
  have ha : PA (X.suite a ((a, ob) :: pn)) [.Name n p3] (tCons (tVar i) tNil) := pa_cons (pe_var hN hv (nm_of hn).1 (nm_of hn).2) pa_nil
  refine PySem.W.callWith_K (h₀ := X.base) I.ok.mod.kin kp (thn (ha.run p4 pins s _ H (fun vs H1 => vs = [.ref a] ∧ H1 = H) I ⟨_, List.getElem?_set_self hl, rfl, rfl⟩) fun us s1 ⟨vs1, H1, I1, r, e1, e2⟩ => ⟨I1.kIn, ?_⟩) rfl rfl
  subst e1 e2
  obtain ⟨u, rfl, ru⟩ := Vals.one r
  cases ru
  have P := I1.pin (a, ob) (List.mem_append_left _ List.mem_cons_self)
  have b := hb s1 [.ref a] I1.kIn rfl
  have rm : L2H.RoomH 1 X.A := (L2H.roomH_of G.g.room).mono hL
  refine wpAny_call (codeAny_mono (run (X.A.mark (some (.ref a))) X.stack s1 H1 ⟨[.ref a], []⟩ (a, ob) c t D.rt ⟨rm.dp, rm.un⟩ ⟨rfl, vs, hd, hz.2.2 vs hd⟩ ⟨P.1, P.2.1, fun hm => (List.mem_cons.mp (I1.stkSub a hm)).elim P.2.2.1 P.2.2.2.1, P.2.2.2.2⟩ I1.env0 b et hz.zc q) fun r s' hq => ?_)
  match r, hq with
  | .error e, hq =>
    obtain ⟨_, _, _, _, _, _, _, _, _, _, _, _, z⟩ := hq
    exact z.elim
  | .ok (.ret u), hq => exact I1.after hq
theorem p_try (G : GoodS T L W X) (he : T.err = true) {b : List S} {i : Nat} {n : Str} {xs : List Stmt} {p1 p2 p3 p4 p5 p6 p7 : Pos} (hN : X.N[i]? = some n) (hl : X.env.scope.names.lookup n = some .local) (hn : okNm n = true) (hg : Gl X "_law_error") (hgs : Gl X "SayError")
    (hb : ∀ (W : WX) (pn : List (Addr × Obj)) (xe : Value → Shared → Prop), GoodS T L W (X.tr pn xe) → PSs (X.tr pn xe) xs (rdSs T X.K (owf ow) W b)) :
    PS X (.Try xs [.ExceptHandler (some (.Name "SayError" p1)) (some n) [.Return (some (.Call (.Name "_law_error" p2) [.Name n p3] [] p4)) p5] p6] [] [] p7) (rdS T X.K (owf ow) W (.try b i)) := by
  obtain ⟨_, _, ms, hc⟩ := G.g.tab.err he
  refine (L2N.ps_try_as (Wout := W) (ts := tErr X.K i) (tb := fun W => rdSs T X.K (owf ow) W b) G.stk G.frm G.g.nd hN hl ⟨hgs, rfl, .inl ms⟩ G.g.tk (fun W' pn xe tk po => hb W' pn xe ⟨⟨G.g.nd, G.g.calm, G.g.room, G.g.guards, tk, G.g.tab⟩, po, G.fn, G.kind, G.stk, G.frm⟩) (fun a ob cls d pn hz hd => pss_err G he hN (.inl hl) hn hg a ob cls d pn hz hd)).imp fun D σ H h => ?_
  obtain ⟨B, O, H0, u, un, ub, uc, ut, ρ, κ, f, hq, k⟩ := h
  refine ⟨B, O, H0, u, un, ub, uc, ut, ρ, _, (show SX X.K (owf ow) B O H0 u un ub uc ut (dcSs T b) H σ ρ from f), (show wpSs T b ρ { κ with xc := fun x => x.line = none ∧ ∃ t, errT x.cls = some t ∧ κ.rt (.str t) } from hq), ⟨k.nx, k.bk, k.ct, k.rt, fun x hx cls d σ' H' e i' => ?_⟩⟩
  obtain ⟨h1, t, h2, h3⟩ := hx
  obtain ⟨j1, j2⟩ := i'
  rw [h1] at j2
  subst j1
  refine ⟨true, hc _ _ h2, fun _ a _ => ⟨_, t, σ', h2, rfl, j2, rfl, fun H2 e2 => k.rt _ h3 _ H2 (by have := e.trans e2; simpa using this) rfl⟩, fun z => nomatch z⟩
end
end DL

/-! E0: the checker is right for statements; defs by it -/
namespace DL
open PySem PySem.Spec PyProof.Rows L2 Evl

section
variable {T : Tb} {L : Nat} {N : List Str} {ow : List Nat}
theorem t_app {i : Nat} {e : E} : SoundS T L N ow (.app i e) := fun sc x h W X G hN hS => by
  cases x with
  | Expr v p =>
    cases v with
    | Call f as ks cp =>
      cases f with
      | Attribute o m ap =>
        cases o with
        | Name x r =>
          match as, ks, h with
          | [], _, h => exact absurd h Bool.false_ne_true
          | _ :: _ :: _, _, h => exact absurd h Bool.false_ne_true
          | [_], _ :: _, h => exact absurd h Bool.false_ne_true
          | [v], [], h =>
            obtain ⟨h0, k1⟩ := and2 (show (decide (m = "append") && (decide (N[i]? = some x) && (visB sc x && (okNm x && (ow.contains i && (!ownB e && ((ap.endLine == cp.line) && (noStar v && mE T N ow .val sc e v)))))))) = true from h)
            obtain ⟨h1, k2⟩ := and2 k1
            obtain ⟨h2, k3⟩ := and2 k2
            obtain ⟨h3, k4⟩ := and2 k3
            obtain ⟨h4, k5⟩ := and2 k4
            obtain ⟨h5, k6⟩ := and2 k5
            obtain ⟨h6, k7⟩ := and2 k6
            obtain ⟨h7, h8⟩ := and2 k7
            subst hS
            subst hN
            obtain rfl := of_decide_eq_true h0
            exact p_app G (of_decide_eq_true h1) (vis_of h2) h3 h4 (not1 h5) h6 h7 (sndE e .val _ v h8 W X G.g rfl rfl)
        | _ => exact absurd h Bool.false_ne_true
      | _ => exact absurd h Bool.false_ne_true
    | _ => exact absurd h Bool.false_ne_true
  | _ => exact absurd h Bool.false_ne_true
theorem t_ext {i : Nat} {e : E} : SoundS T L N ow (.ext i e) := fun sc x h W X G hN hS => by
  cases x with
  | Expr v p =>
    cases v with
    | Call f as ks cp =>
      cases f with
      | Attribute o m ap =>
        cases o with
        | Name x r =>
          match as, ks, h with
          | [], _, h => exact absurd h Bool.false_ne_true
          | _ :: _ :: _, _, h => exact absurd h Bool.false_ne_true
          | [_], _ :: _, h => exact absurd h Bool.false_ne_true
          | [v], [], h =>
            obtain ⟨h0, k1⟩ := and2 (show (decide (m = "extend") && (decide (N[i]? = some x) && (visB sc x && (okNm x && (ow.contains i && ((ap.endLine == cp.line) && (noStar v && mE T N ow .val sc e v))))))) = true from h)
            obtain ⟨h1, k2⟩ := and2 k1
            obtain ⟨h2, k3⟩ := and2 k2
            obtain ⟨h3, k4⟩ := and2 k3
            obtain ⟨h4, k6⟩ := and2 k4
            obtain ⟨h6, k7⟩ := and2 k6
            obtain ⟨h7, h8⟩ := and2 k7
            subst hS
            subst hN
            obtain rfl := of_decide_eq_true h0
            exact p_ext G (of_decide_eq_true h1) (vis_of h2) h3 h4 h6 h7 (sndE e .val _ v h8 W X G.g rfl rfl)
        | _ => exact absurd h Bool.false_ne_true
      | _ => exact absurd h Bool.false_ne_true
    | _ => exact absurd h Bool.false_ne_true
  | _ => exact absurd h Bool.false_ne_true
theorem t_iff {c : E} {a b : List S} (iha : SoundSs T L N ow a) (ihb : SoundSs T L N ow b) : SoundS T L N ow (.iff c a b) := fun sc x h W X G hN hS => by
  cases x with
  | If z x y p =>
    obtain ⟨h1, k2⟩ := and2 (show (mE T N ow .tst sc c z && (mSs T N ow sc a x && mSs T N ow sc b y)) = true from h)
    obtain ⟨h2, h3⟩ := and2 k2
    exact p_if (sndE c .tst sc z h1 W X G.g hN hS) (iha sc x h2 W X G hN hS) (ihb sc y h3 W X G hN hS)
  | _ => exact absurd h Bool.false_ne_true
theorem t_while {c : E} {b : List S} (ihb : SoundSs T L N ow b) : SoundS T L N ow (.while c b) := fun sc x h W X G hN hS => by
  cases x with
  | While z x o p =>
    cases o with
    | cons _ _ => exact absurd h Bool.false_ne_true
    | nil =>
      obtain ⟨z1, k1⟩ := and2 (show (decide (dcE T c = 0) && (decide (dcSs T b = 0) && (mE T N ow .tst sc c z && mSs T N ow sc b x))) = true from h)
      obtain ⟨z2, k2⟩ := and2 k1
      obtain ⟨h1, h2⟩ := and2 k2
      exact p_while G (of_decide_eq_true z1) (of_decide_eq_true z2) (sndE c .tst sc z h1 W X G.g hN hS) (ihb sc x h2 W X G hN hS)
  | _ => exact absurd h Bool.false_ne_true
theorem mE_zip_own {md : Md} {sc : Scope} {a b : E} {x : Expr} (h : mE T N ow md sc (.zip a b) x = true) : (ownB a || ownB b) = false := by
  cases x with
  | Call fx xs ks p =>
    cases ks with
    | cons k ks => cases fx <;> (match xs, h with
      | [], h => exact absurd h Bool.false_ne_true
      | [_], h => exact absurd h Bool.false_ne_true
      | [_, _], h => exact absurd h Bool.false_ne_true
      | _ :: _ :: _ :: _, h => exact absurd h Bool.false_ne_true)
    | nil =>
      cases fx with
      | Name y q =>
        match xs, h with
        | [], h => exact absurd h Bool.false_ne_true
        | [_], h => exact absurd h Bool.false_ne_true
        | _ :: _ :: _ :: _, h => exact absurd h Bool.false_ne_true
        | [z, u], h =>
          obtain ⟨h1, k2⟩ := and2 (show (decide (md = .itr) && (decide (y = "zip") && (glB sc y && (noStar z && (noStar u && (!ownB a && (!ownB b && (mE T N ow .val sc a z && mE T N ow .val sc b u)))))))) = true from h)
          obtain ⟨o1, k7⟩ := and2 (and2 (and2 (and2 (and2 k2).2).2).2).2
          rw [not1 o1, not1 (and2 k7).1]
          rfl
      | _ => exact absurd h Bool.false_ne_true
  | _ => exact absurd h Bool.false_ne_true
theorem mE_enum_own {md : Md} {sc : Scope} {a : E} {x : Expr} (h : mE T N ow md sc (.enum a) x = true) : ownB a = false := by
  cases x with
  | Call fx xs ks p =>
    cases ks with
    | cons k ks => cases fx <;> (match xs, h with
      | [], h => exact absurd h Bool.false_ne_true
      | [_], h => exact absurd h Bool.false_ne_true
      | _ :: _ :: _, h => exact absurd h Bool.false_ne_true)
    | nil =>
      cases fx with
      | Name y q =>
        match xs, h with
        | [], h => exact absurd h Bool.false_ne_true
        | _ :: _ :: _, h => exact absurd h Bool.false_ne_true
        | [z], h =>
          obtain ⟨h1, k2⟩ := and2 (show (decide (md = .itr) && (decide (y = "enumerate") && (glB sc y && (noStar z && (!ownB a && mE T N ow .val sc a z))))) = true from h)
          exact not1 (and2 (and2 (and2 (and2 k2).2).2).2).1
      | _ => exact absurd h Bool.false_ne_true
  | _ => exact absurd h Bool.false_ne_true
theorem t_for {tg : Pt} {it : E} {b : List S} (ihb : SoundSs T L N ow b) : SoundS T L N ow (.for tg it b) := fun sc x h W X G hN hS => by
  cases x with
  | For t i xs o p =>
    cases o with
    | cons _ _ => exact absurd h Bool.false_ne_true
    | nil =>
      obtain ⟨h1, k2⟩ := and2 (show (noSet i && (tupT it t && (mE T N ow .itr sc it i && (mPt N ow none sc tg t && mSs T N ow sc b xs)))) = true from h)
      obtain ⟨h2, k3⟩ := and2 k2
      obtain ⟨h3, k4⟩ := and2 k3
      obtain ⟨h4, h5⟩ := and2 k4
      have hb := ihb sc xs h5 W X G hN hS
      have hi := sndE it .itr sc i h3 W X G.g hN hS t h2
      subst hS
      cases it with
      | own j =>
        cases i with
        | Name x q =>
          obtain ⟨m1, m2⟩ := and2 (show (decide (N[j]? = some x) && (visB X.env.scope x && (okNm x && ow.contains j))) = true from h3)
          obtain ⟨m2, m3⟩ := and2 m2
          obtain ⟨m3, m4⟩ := and2 m3
          exact p_forO G hN (by rw [hN]; exact of_decide_eq_true m1) (vis_of m2) m3 m4 h4 hb
        | _ => exact absurd h3 Bool.false_ne_true
      | enum a => exact p_for G hN h1 (mE_enum_own h3) h4 hi hb
      | zip a c => exact p_for G hN h1 (mE_zip_own h3) h4 hi hb
      | _ => exact p_for G hN h1 rfl h4 hi hb
  | _ => exact absurd h Bool.false_ne_true
theorem t_ret {e : E} : SoundS T L N ow (.ret e) := fun sc x h W X G hN hS => by
  cases x with
  | Return v p =>
    cases v with
    | none => exact absurd h Bool.false_ne_true
    | some v =>
      have h' : mE T N ow .val sc e v = true := h
      subst hS
      cases e with
      | own j =>
        cases v with
        | Name x q =>
          obtain ⟨m1, m2⟩ := and2 (show (decide (N[j]? = some x) && (visB X.env.scope x && (okNm x && ow.contains j))) = true from h')
          obtain ⟨m2, m3⟩ := and2 m2
          obtain ⟨m3, m4⟩ := and2 m3
          exact p_retO (by rw [hN]; exact of_decide_eq_true m1) (vis_of m2) m3 m4
        | _ => exact absurd h' Bool.false_ne_true
      | _ => exact p_ret rfl (sndE _ .val _ v h' W X G.g hN rfl)
  | _ => exact absurd h Bool.false_ne_true
theorem t_retn : SoundS T L N ow .retn := fun sc x h W X G hN hS => by
  cases x with
  | Return v p =>
    cases v with
    | none => exact p_retn
    | some v => exact absurd h Bool.false_ne_true
  | _ => exact absurd h Bool.false_ne_true
theorem t_raise {c : Str} : SoundS T L N ow (.raise c) := fun sc x h W X G hN hS => by
  cases x with
  | Raise v w p =>
    cases v with
    | none => exact absurd h Bool.false_ne_true
    | some v =>
      cases v with
      | Call f as ks cp =>
        cases f with
        | Name x q =>
          cases w with
          | some w =>
            match as, ks, h with
            | [], _, h => exact absurd h Bool.false_ne_true
            | [y], ks, h =>
              cases y with
              | Constant k j q =>
                cases k with
                | str m => cases ks <;> exact absurd h Bool.false_ne_true
                | _ => exact absurd h Bool.false_ne_true
              | _ => exact absurd h Bool.false_ne_true
            | y :: _ :: _, ks, h =>
              cases y with
              | Constant k j q => cases k <;> exact absurd h Bool.false_ne_true
              | _ => exact absurd h Bool.false_ne_true
          | none =>
            match as, ks, h with
            | [], _, h => exact absurd h Bool.false_ne_true
            | y :: _ :: _, _, h =>
              cases y with
              | Constant k j q => cases k <;> exact absurd h Bool.false_ne_true
              | _ => exact absurd h Bool.false_ne_true
            | [y], _ :: _, h =>
              cases y with
              | Constant k j q => cases k <;> exact absurd h Bool.false_ne_true
              | _ => exact absurd h Bool.false_ne_true
            | [y], [], h =>
              cases y with
              | Constant k j q =>
                cases k with
                | str m =>
                  obtain ⟨h1, k2⟩ := and2 (show (decide (c = x) && (T.exc c && glB sc c)) = true from h)
                  obtain ⟨h2, h3⟩ := and2 k2
                  obtain rfl := of_decide_eq_true h1
                  obtain ⟨g1, g2, g3⟩ := gl_of hS h3
                  exact p_raise G h2 g1 g2
                | _ => exact absurd h Bool.false_ne_true
              | _ => exact absurd h Bool.false_ne_true
        | _ => exact absurd h Bool.false_ne_true
      | _ => exact absurd h Bool.false_ne_true
  | _ => exact absurd h Bool.false_ne_true
theorem t_try {b : List S} {i : Nat} (ihb : SoundSs T L N ow b) : SoundS T L N ow (.try b i) := fun sc x h W X G hN hS => by
  have h' : (match tryP x with
    | some (xs, y, n, f, m) => T.err && (decide (y = "SayError") && (glB sc y && (decide (f = "_law_error") && (glB sc f && (decide (m = n) && (decide (N[i]? = some n) && (lclB sc n && (okNm n && mSs T N ow sc b xs))))))))
    | none => false) = true := h
  split at h'
  · rename_i xs y n f m hx
    obtain ⟨p1, p2, p3, p4, p5, p6, p7, rfl⟩ := tryP_eq hx
    obtain ⟨h1, k2⟩ := and2 h'
    obtain ⟨h2, k3⟩ := and2 k2
    obtain ⟨h3, k4⟩ := and2 k3
    obtain ⟨h4, k5⟩ := and2 k4
    obtain ⟨h5, k6⟩ := and2 k5
    obtain ⟨h6, k7⟩ := and2 k6
    obtain ⟨h7, k8⟩ := and2 k7
    obtain ⟨h8, k9⟩ := and2 k8
    obtain ⟨h9, h10⟩ := and2 k9
    have g1 := (gl_of hS h3).1
    have g2 := (gl_of hS h5).1
    subst hS
    obtain rfl := of_decide_eq_true h2
    obtain rfl := of_decide_eq_true h4
    obtain rfl := of_decide_eq_true h6
    exact p_try G h1 (by rw [hN]; exact of_decide_eq_true h7) (lcl_of h8) h9 g2 g1 fun W' pn xe G' => ihb _ xs h10 W' (X.tr pn xe) G' hN rfl
  · cases h'
theorem t_expr {e : E} : SoundS T L N ow (.expr e) := fun sc x h W X G hN hS => by
  cases x with
  | Expr v p =>
    obtain ⟨h1, h2⟩ := and2 (show (notComp v && mE T N ow .val sc e v) = true from h)
    exact p_expr (by cases v <;> first | rfl | exact absurd h1 Bool.false_ne_true) (sndE e .val sc v h2 W X G.g hN hS)
  | _ => exact absurd h Bool.false_ne_true
theorem t_brk : SoundS T L N ow .brk := fun sc x h W X G hN hS => by
  cases x with
  | Break p => exact p_brk
  | _ => exact absurd h Bool.false_ne_true
theorem t_cont : SoundS T L N ow .cont := fun sc x h W X G hN hS => by
  cases x with
  | Continue p => exact p_cont
  | _ => exact absurd h Bool.false_ne_true
theorem t_pass : SoundS T L N ow .pass := fun sc x h W X G hN hS => by
  cases x with
  | Pass p => exact p_pass
  | _ => exact absurd h Bool.false_ne_true
theorem t_none {s : S} (h : ∀ sc x, mS T N ow sc s x = false) : SoundS T L N ow s := fun sc x q => by
  rw [h] at q
  cases q
mutual
theorem sndS : ∀ s : S, SoundS T L N ow s
  | .asg i e => t_asg
  | .own i e => t_own
  | .move i j => t_move
  | .asgT tg e => t_asgT
  | .setL i ix e => t_setL
  | .par i j a b => t_par
  | .setF i c f e => t_setF
  | .setD i k e => t_setD
  | .app i e => t_app
  | .ext i e => t_ext
  | .upd i e => t_none fun sc x => by cases x <;> rfl
  | .iff c a b => t_iff (sndSs a) (sndSs b)
  | .for tg it b => t_for (sndSs b)
  | .while c b => t_while (sndSs b)
  | .ret e => t_ret
  | .retn => t_retn
  | .raise c => t_raise
  | .try b i => t_try (sndSs b)
  | .expr e => t_expr
  | .brk => t_brk
  | .cont => t_cont
  | .pass => t_pass
theorem sndSs : ∀ s : List S, SoundSs T L N ow s
  | [] => fun sc x h W X G hN hS => by
    cases x with
    | nil => exact pss_n
    | cons _ _ => exact absurd h Bool.false_ne_true
  | s :: ss => fun sc x h W X G hN hS => by
    cases x with
    | nil => exact absurd h Bool.false_ne_true
    | cons y ys =>
      obtain ⟨h1, h2⟩ := and2 (show (mS T N ow sc s y && mSs T N ow sc ss ys) = true from h)
      exact pss_c (sndS s sc y h1 W X G hN hS) (sndSs ss sc ys h2 W X G hN hS)
end
end
end DL

/-! E1: a def by its text -/
namespace DL
open PySem PySem.Spec PyProof.Rows L2 Evl

/-- a scope as a def's -/
def scB (N ps : List Str) (sc : Scope) : Bool := (match sc.kind with
  | .function => true
  | _ => false) && (!sc.isCoroutine && (!sc.isGenerator && (decide N.Nodup && (decide (N.take ps.length = ps) && ((ps.all fun x => locB sc x) && (sc.names.all fun y => match y.2 with
  | .free => false
  | _ => true))))))
theorem sc_of {N ps : List Str} {sc : Scope} (h : scB N ps sc = true) : FnScope N ps sc := by
  obtain ⟨h1, k1⟩ := and2 h
  obtain ⟨h2, k2⟩ := and2 k1
  obtain ⟨h3, k3⟩ := and2 k2
  obtain ⟨h4, k4⟩ := and2 k3
  obtain ⟨h5, k5⟩ := and2 k4
  obtain ⟨h6, h7⟩ := and2 k5
  refine ⟨?_, not1 h2, not1 h3, of_decide_eq_true h4, of_decide_eq_true h5, fun x hx => loc_of (List.all_eq_true.mp h6 x hx), fun y hy e => ?_⟩
  · split at h1
    · assumption
    · cases h1
  · have q := List.all_eq_true.mp h7 y hy
    rw [e] at q
    cases q
theorem fr_start {K : PySem.W.Frag} {own : Nat → Bool} {B : AP} {H : Hp} {N : List Str} {ds : List D} {vs : List V} (hB : ∀ a, B a → ∃ o, H a = some o ∧ isMt o = true) (r : RepL K B H ds vs) (ho : ∀ i, own i = true → ds.length ≤ i) :
    SI K own B noA H 0 H (L2.start N vs) (ds.map some ++ List.replicate (N.length - ds.length) none) := by
  have hl := RepL.length r
  have out : ∀ {i : Nat} {d : D}, (ds.map some ++ List.replicate (N.length - ds.length) none)[i]? = some (some d) → i < ds.length ∧ ds[i]? = some d := fun {i d} h => by
    by_cases hi : i < ds.length
    · rw [List.getElem?_append_left (by rw [List.length_map]; exact hi), List.getElem?_map] at h
      refine ⟨hi, ?_⟩
      cases q : ds[i]? with
      | none => rw [q] at h; cases h
      | some z =>
        rw [q] at h
        cases h
        rfl
    · rw [List.getElem?_append_right (by rw [List.length_map]; omega), List.getElem?_replicate] at h
      split at h <;> cases h
  refine ⟨⟨?_, fun i d h1 h2 => ?_, fun i d h1 h2 => ?_, fun i j a h1 h2 h3 => ?_, fun a z => ?_⟩, Ex.refl H, fun a z => z.elim, fun a z => ?_⟩
  · unfold L2.start
    simp [hl]
  · obtain ⟨hi, e⟩ := out h2
    obtain ⟨v, hv, rv⟩ := RepL.get r e
    refine ⟨v, ?_, Rep.keep keeps_refl (grows_less fun a z => z.elim id fun z => z.elim) _ _ rv⟩
    unfold L2.start
    rw [List.getElem?_append_left (by rw [List.length_map]; omega), List.getElem?_map, hv]
    rfl
  · exact absurd (out h2).1 (Nat.not_lt.mpr (ho i h1))
  · obtain ⟨d, h3⟩ := h3
    exact absurd (out h3).1 (Nat.not_lt.mpr (ho i h1))
  · exact z.elim (hB a) fun z => z.elim
  · obtain ⟨o, h, _⟩ := hB a z
    rw [h]
    exact nofun
/-- THE RULE: a def by its checked text -/
theorem fn_rule {P : Program} {w : World} {K : PySem.W.Frag} {mg : Str → Option Value} {base : Heap} {T : Tb} {L : Nat} (tab : TOk P w K mg base T L) {x qual : Str} {params : Arguments} {body : List Stmt} {scope : Scope} {kws : List (Str × V)} {f : Addr} {fd : FuncData}
    (F : FunD K x qual params body scope [] kws f fd) {N ps : List Str} {ow : List Nat} {b : List S} (hs : scB N ps scope = true) (hc : mSs T N ow scope b body = true) (ho : (ow.all fun i => decide (ps.length ≤ i)) = true) :
    FnG P w K mg base (L + 1) f fd ps (spOf K ps.length (dcSs T b) fun ds Q X => wpF T N.length b ds Q X) := by
  have Sc := sc_of hs
  refine FnG.body F Sc (fun vs H Q E h => ?_) fun cdv A outer s H vs Q E hr hg h => ?_
  · obtain ⟨B, ds, Qd, Xd, hl, _⟩ := h
    exact hl
  · have G : GoodS T L (fun cls d _ H => E cls d H) (cxOf (L2N.CX P w) P w K mg base N qual scope f cdv A outer s H E) :=
      ⟨⟨Sc.nd, rfl, hr, hg, L2N.takes_of rfl rfl rfl rfl, tab⟩, passes_of rfl, fun _ => rfl, Sc.kind, rfl, rfl⟩
    refine ⟨_, sndSs b scope body hc _ _ G rfl rfl, ?_⟩
    obtain ⟨B, ds, Qd, Xd, hl, hR, hB, r, hm, hq, hx⟩ := h
    have hlen := RepL.length r
    have z : 0 + dcSs T b ≤ dcSs T b := by omega
    refine ⟨B, noA, H, 0, _, _, _, _, _, _, ⟨fr_start hB r fun i hi => ?_, z, z, z, z, hR⟩, hm, ?_⟩
    · have q := of_decide_eq_true (List.all_eq_true.mp ho i (List.contains_iff_mem.mp hi))
      omega
    · exact ⟨fun ρ' h O' σ' H' f' _ => hq _ h .non H' f'.ex rfl, fun _ h => h.elim, fun _ h => h.elim, fun d h v H' e r => hq d h v H' e r, fun x h cls d σ' H' e i => hx x h cls d H' e i⟩
end DL

/-! DM: drawing: what it promises -/
namespace DL
open PySem PySem.Spec PyProof.Rows L2 Evl

def mNext : DSp := fun ds Q _ => ∃ many : Int, ds = [.st, .int many] ∧ 0 < many ∧ ∀ r, 0 ≤ r → r < many → Q (.int r)
theorem next_sp {K : PySem.W.Frag} {vs : List V} {H : Hp} {Q : VK} {E : XK} (h : spOf K 2 1 mNext vs H Q E) : tNext K { nx := fun _ H' => Q .non H', rt := Q } (L2.start (["state", "many", "turn"] : List Str) vs) H := by
  obtain ⟨B, ds, Qd, Xd, hl, hR, hB, r, ⟨many, rfl, hm, hq⟩, hf, _⟩ := h
  obtain ⟨v, w, rfl, r1, v2, w2, rfl, r2, r3⟩ := r
  obtain rfl : w2 = [] := r3
  obtain rfl : v2 = .int many := r2
  obtain ⟨a, s, n, ns, rfl, na, nb, ha, hs, hn, hb, hlen⟩ := r1
  obtain ⟨c, hc, hbig⟩ := hR
  have hnc := hc a s n ha
  have nsa : s ≠ a := fun z => by rw [z, ha] at hs; cases hs
  have pos : 0 < ns.length := List.length_pos_iff.mpr hn
  generalize hH1 : upd H a (StO a s (n + 1)) = H1
  have ha1 : H1 a = some (StO a s (n + 1)) := by rw [← hH1]; exact upd_same
  have hs1 : SqL K H1 s (ns.map V.int) := .inl (.inl (by rw [← hH1, upd_ne nsa]; exact hs))
  have len : (ns.map V.int).length = ns.length := List.length_map _
  generalize hm1 : (n : Int) + 1 = m
  have hm2 : ((n + 1 : Nat) : Int) = m := by rw [← hm1]; rfl
  have m0 : 0 ≤ m := by omega
  have p0 : (0 : Int) < ns.length := by omega
  have i0 : 0 ≤ m % (ns.length : Int) := Int.emod_nonneg _ (by omega)
  have i1 : m % (ns.length : Int) < ns.length := Int.emod_lt_of_pos _ p0
  obtain ⟨k, hk⟩ : ∃ k, ns[(m % (ns.length : Int)).toNat]? = some k := ⟨_, List.getElem?_eq_getElem (by omega)⟩
  have at1 : atI (ns.map V.int) (m % (ns.length : Int)) = some (.int k) := by
    unfold atI ixN
    rw [if_pos i0, len, if_pos i1]
    show (ns.map V.int)[(m % (ns.length : Int)).toNat]? = _
    rw [List.getElem?_map, hk]
    rfl
  have e1 : Ex 1 H H1 := by rw [← hH1]; exact ex_next ha
  generalize hturn : m / (ns.length : Int) = turn
  have hmb : m ≤ 2 ^ 1000 := by
    have : (big : Int) = 2 ^ 1000 := by unfold big; norm_cast
    omega
  have hta : 0 ≤ turn ∧ turn ≤ m := by
    rw [← hturn]
    exact ⟨Int.ediv_nonneg m0 (by omega), Int.ediv_le_self _ m0⟩
  have two : (2 : Int) ^ 1000 < 2 ^ 1001 := by decide
  have mul1 : CMulX m turn := mulx_ok (a := 1001) (b := 1001) (by
    have : (m.natAbs : Int) < 2 ^ 1001 := by omega
    exact_mod_cast this) (by
    have : (turn.natAbs : Int) < 2 ^ 1001 := by omega
    exact_mod_cast this) (by decide)
  have small : ∀ x y : Int, -(2 ^ 64) < y → y < 2 ^ 64 → CMul x y := fun x y h1 h2 => .inr ⟨h1, h2⟩
  have div1 : CDiv m (ns.length : Int) := ⟨p0, by omega⟩
  refine ⟨_, rfl, a, s, n, rfl, rfl, ha, _, _, rfl, rfl, _, rfl, a, s, n, n + 1, rfl, rfl, rfl, ha, ?_⟩
  rw [hH1]
  refine ⟨_, rfl, a, s, n + 1, rfl, rfl, ha1, _, rfl, a, s, n + 1, rfl, rfl, ha1, s, _, rfl, .inl hs1, _, _, rfl, rfl, ?_, ?_⟩
  · rw [len, hm2]
    exact div1
  refine ⟨_, rfl, a, s, n + 1, rfl, rfl, ha1, _, rfl, a, s, n + 1, rfl, rfl, ha1, _, rfl, a, s, n + 1, rfl, rfl, ha1, s, _, rfl, .inl hs1, _, _, rfl, rfl, ?_, s, _, _, .int k, rfl, rfl, hs1, ?_, ?_⟩
  · rw [len]
    exact p0
  · rw [len, hm2]
    exact at1
  refine ⟨_, rfl, _, _, rfl, rfl, small _ _ (by decide) (by decide), _, _, rfl, rfl, ?_⟩
  refine ⟨_, rfl, a, s, n + 1, rfl, rfl, ha1, _, rfl, _, _, rfl, rfl, ?_, _, _, rfl, rfl, small _ _ (by decide) (by decide), _, _, rfl, rfl, .inl ⟨_, rfl, _, rfl, _, _, rfl, rfl, hm, ?_⟩⟩
  · rw [len, hm2, hturn]
    exact mul1
  · exact hf _ (hq _ (Int.emod_nonneg _ (by omega)) (Int.emod_lt_of_pos _ hm)) _ H1 e1 rfl
theorem next_fn {P : Program} {w : World} {K : PySem.W.Frag} {mg : Str → Option Value} {base : Heap} {x qual : Str} {params : Arguments} {scope : Scope} {kws : List (Str × V)} {f : Addr} {fd : FuncData} {k1 k2 k3 k4 k5 k6 k7 k8 k9 k10 k11 : Nat}
    {p1 p2 p3 p4 p5 p6 p7 p8 p9 p10 p11 p12 p13 p14 p15 p16 p17 p18 p19 p20 p21 p22 p23 p24 p25 p26 p27 p28 p29 p30 p31 p32 p33 p34 p35 p36 p37 p38 p39 p40 p41 p42 p43 p44 p45 p46 p47 p48 p49 p50 : Pos}
    (F : FunD K x qual params [.Assign [.Subscript (.Name "state" p1) (.Constant (.int 1) k1 p2) p3] (.BinOp (.Subscript (.Name "state" p4) (.Constant (.int 1) k2 p5) p6) .Add (.Constant (.int 1) k3 p7) p8) p9,
      .Assign [.Name "turn" p10] (.BinOp (.Subscript (.Name "state" p11) (.Constant (.int 1) k4 p12) p13) .FloorDiv (.Call (.Name "len" p14) [.Subscript (.Name "state" p15) (.Constant (.int 0) k5 p16) p17] [] p18) p19) p20,
      .Return (some (.BinOp (.Call (.Name "int" p21) [.BinOp (.BinOp (.Subscript (.Subscript (.Name "state" p22) (.Constant (.int 0) k6 p23) p24) (.BinOp (.Subscript (.Name "state" p25) (.Constant (.int 1) k7 p26) p27) .Mod (.Call (.Name "len" p28) [.Subscript (.Name "state" p29) (.Constant (.int 0) k8 p30) p31] [] p32) p33) p34) .Add
        (.BinOp (.Name "turn" p35) .Mult (.Constant (.int 389) k9 p36) p37) p38) .Add (.BinOp (.BinOp (.Subscript (.Name "state" p39) (.Constant (.int 1) k10 p40) p41) .Mult (.Name "turn" p42) p43) .Mult (.Constant (.int 17) k11 p44) p45) p46] [] p47) .Mod (.Name "many" p48) p49)) p50] scope [] kws f fd)
    (hs : scB (["state", "many", "turn"] : List Str) (["state", "many"] : List Str) scope = true) (hx : (glB scope "len" && (glB scope "int" && (visB scope "state" && (visB scope "many" && locB scope "turn")))) = true) (hl : mg "len" = none) (hi : mg "int" = none) :
    FnG P w K mg base 1 f fd (["state", "many"] : List Str) (spOf K 2 1 mNext) := by
  have Sc := sc_of hs
  obtain ⟨x1, k1⟩ := and2 hx
  obtain ⟨x2, k2⟩ := and2 k1
  obtain ⟨x3, k3⟩ := and2 k2
  obtain ⟨x4, x5⟩ := and2 k3
  refine FnG.body F Sc (fun vs H Q E h => ?_) fun cdv A outer s H vs Q E hr hg h => ⟨_, next_body rfl rfl Sc.nd (fun _ => rfl) hl hi (gl_of rfl x1).1 (gl_of rfl x2).1 (vis_of x3) (vis_of x4) (loc_of x5), next_sp h⟩
  obtain ⟨B, ds, Qd, Xd, hl, _⟩ := h
  exact hl
end DL

/-! F1: walks where an exception is handled; _law_error -/
namespace DL
open PySem PySem.Spec PyProof.Rows L2 Evl

section
variable {prog : Program} {w : World} {A : Around} {E : Value → Shared → Prop} {st : Shared}
theorem hot_end {zt zl x1 : Addr} {n : Nat} {zs : Array Value} {R : Option Value → Shared → Prop} (hot : HotX.HotAt A x1 st.heap) (n1 : x1 ≠ zt) (zi : st.heap.IsListIter zt zl n) (zx : st.heap.IsList zl zs) (zn : zs[n]? = none)
    (q : ∀ h', (∀ b o, b ≠ zt → st.heap.get? b = some o → h'.get? b = some o) → R none { st with heap := h' }) : wpAny (model prog w) A (pyNext (.ref zt)) R E st := by
  obtain ⟨oi, ei, ci, di⟩ := id zi
  obtain ⟨ol, el, _, nl, dl⟩ := zx
  obtain ⟨hh, o1, vs1, h1, d1, c1⟩ := hot
  unfold pyNext
  refine wpAny_bind (wpAny_attempt (wpAny_callSpecial?_slot (name := Str.ofString "__next__") zi.typeIs slot_listiter_next (wpAny_call_entry slot_listiter_next zi.typeIs entry_listiter_next ?_ (args_listiter_next _))))
  show wpAny _ _ (field (.ref zt) 0 >>= _) _ _ st
  refine wpAny_bind (wpAny_field ei di (x := .ref zl) rfl ?_)
  show wpAny _ _ (if (Value.ref zl == Value.none) = true then _ else _) _ _ st
  rw [if_neg (show ¬ ((Value.ref zl == Value.none) = true) from Bool.false_ne_true)]
  show wpAny _ _ (field (.ref zt) 1 >>= _) _ _ st
  refine wpAny_bind (wpAny_field ei di (x := .int n 0) rfl ?_)
  show wpAny _ _ (seqItems? (.ref zl) >>= _) _ _ st
  refine wpAny_bind (wpAny_seqItems el dl ?_)
  simp only [Int.toNat_natCast, zn]
  refine wpAny_bind (wpAny_rule (wpAny_bind (wpAny_setField ei di (by simp) ?_)))
  have k1 : ∀ b o, b ≠ zt → st.heap.get? b = some o → (st.heap.update zt (Obj.mapFields (·.setIfInBounds 0 Value.none))).get? b = some o := fun b o hb e => by
    rw [Heap.get?_update_other _ _ (Ne.symm hb)]
    exact e
  show wpAny _ _ (newExc (.type "StopIteration") [] >>= _) _ _ _
  refine wpAny_bind ?_
  simp only [newExc, newTuple]
  refine wpAny_bind (wpAny_newObj_type ?_ (by size_fits))
  refine wpAny_bind (m := firstArgMember _ _) (wpAny_of_eq (a := Value.none) (by first | rfl | (simp only [firstArgMember]; rfl)) ?_)
  refine wpAny_newObj_type ?_ (by size_fits)
  refine HotX.raiseNew_hot ⟨hh, o1, vs1, Heap.get?_push_of_some _ (Heap.get?_push_of_some _ (k1 _ _ n1 h1)), d1, c1⟩ (Nat.ne_of_lt (Heap.lt_size (Heap.get?_push_of_some _ (k1 _ _ n1 h1)))) (Heap.get?_push_size _ rfl) rfl (by first | (simp; done) | (simp; omega) | (simp only [Array.size_append]; simp; omega)) ?_
  refine wpAny_bind (wpAny_isInstance (T := "StopIteration") (b := true) ⟨_, Heap.get?_update_self _ (Heap.get?_push_size _ rfl) rfl, rfl⟩ isSubtype_stop ?_)
  refine wpAny_pure (q _ fun b o hb e => ?_)
  rw [Heap.get?_update_other _ _ (Nat.ne_of_gt (Heap.lt_size (Heap.get?_push_of_some _ (k1 _ _ hb e))))]
  exact Heap.get?_push_of_some _ (Heap.get?_push_of_some _ (k1 _ _ hb e))
theorem walks_hot {I ax x1 : Addr} (hh : A.handled = some (.ref x1)) (n1 : ax ≠ I) (n2 : x1 ≠ I) {o1 : Obj} {vs1 : Array Value} (d1 : o1.data = .fields vs1) (c1 : vs1[2]? = some .none) (zs : Array Value) :
    Walks prog w A I [I, ax, x1] [I] zs.size (fun i v => zs[i]? = some v) (fun i h => h.IsListIter I ax i ∧ h.IsList ax zs ∧ h.get? x1 = some o1) where
  sub := fun b hb => by simp at hb; simp [hb]
  frame := fun _ _ _ t hk => ⟨t.1.at fun o e => hk I (by simp) o e, t.2.1.at fun o e => hk ax (by simp) o e, hk x1 (by simp) _ t.2.2⟩
  item := fun i s Q E hi t hQ => by
    refine wpAny_pyNext_list_item t.1 t.2.1 (x := zs[i]) (by simp [hi]) fun h' i' e' => ?_
    exact hQ _ h' s.toks (by simp [hi]) ⟨i', t.2.1.extBut e'.extBut n1, e'.extBut x1 _ n2 t.2.2⟩ fun b o hb e => e'.extBut b o (fun h => hb (by simp [h])) e
  done := fun s Q E t hQ => hot_end (zs := zs) ⟨hh, o1, vs1, t.2.2, d1, c1⟩ n2 t.1 t.2.1 (by simp) fun h' he => hQ h' s.toks fun b o hb e => he b o (fun h => hb (by simp [h])) e
  self := fun _ _ _ _ t hQ => wpAny_pyIter_listiter t.1 hQ
end

/-- a block's scope: v its own, the rest global -/
def blkB (scope : Scope) (v : Str) : Bool := (match scope.kind with
  | .function => true
  | _ => false) && ((scope.names.all fun y => (match y.2 with
  | .free => false
  | .cell => false
  | .local => (match scope.names.lookup y.1 with
    | some .local => true
    | _ => false)
  | _ => true)) && ((match scope.names.lookup v with
  | some .local => true
  | _ => false) && (match scope.names.lookup ("int" : Str) with
  | some .globalImplicit => true
  | _ => false)))
theorem blk_of {scope : Scope} {v : Str} (h : blkB scope v = true) : scope.kind = .function ∧ (∀ y ∈ scope.names, y.2 ≠ .free) ∧ (∀ y ∈ scope.names, y.2 ≠ .cell) ∧ (∀ y ∈ scope.names, y.2 = .local → scope.names.lookup y.1 = some .local) ∧ scope.names.lookup v = some .local ∧ scope.names.lookup ("int" : Str) = some .globalImplicit := by
  obtain ⟨h1, k1⟩ := and2 h
  obtain ⟨h2, k2⟩ := and2 k1
  obtain ⟨h3, h4⟩ := and2 k2
  refine ⟨?_, fun y hy e => ?_, fun y hy e => ?_, fun y hy e => ?_, ?_, ?_⟩
  · split at h1
    · assumption
    · cases h1
  · have q := List.all_eq_true.mp h2 y hy
    rw [e] at q
    cases q
  · have q := List.all_eq_true.mp h2 y hy
    rw [e] at q
    cases q
  · have q := List.all_eq_true.mp h2 y hy
    rw [e] at q
    dsimp only at q
    split at q
    · assumption
    · cases q
  · split at h3
    · assumption
    · cases h3
  · split at h4
    · assumption
    · cases h4
def nsB (bs : List Bool) (j : Nat) : Int := b2i (bs.getD j false)
theorem preSum_bs (bs : List Bool) : ∀ k, k ≤ bs.length → preSum (nsB bs) k = ((bs.take k).map b2i).sum
  | 0, _ => by simp [preSum]
  | k + 1, h => by
    have e : bs.take (k + 1) = bs.take k ++ [bs[k]'(by omega)] := by rw [List.take_append_getElem]
    rw [preSum, preSum_bs bs k (by omega), e, List.map_append, List.sum_append]
    have e2 : nsB bs k = b2i (bs[k]'(by omega)) := by
      unfold nsB
      rw [List.getD_eq_getElem?_getD, List.getElem?_eq_getElem (by omega)]
      rfl
    rw [e2]
    simp
theorem paired_at {α β : Type} {F : α → β → Prop} : ∀ {l : List α} {m : List β} {j : Nat} {b : β}, Paired F l m → m[j]? = some b → ∃ a, l[j]? = some a ∧ F a b
  | _, _, _, _, .nil, h => by simp at h
  | a :: l, b' :: m, 0, b, .cons h _, e => by
    simp at e
    subst e
    exact ⟨a, rfl, h⟩
  | a :: l, b' :: m, j + 1, b, .cons _ r, e => paired_at (l := l) (m := m) (j := j) r (by simpa using e)
theorem vals_bl : ∀ {bs : List Bool} {us : List Value}, Vals (bs.map V.bl) us → us = bs.map Value.bool
  | [], _, .nil => rfl
  | b :: bs, _, .cons h r => by
    cases h
    rw [vals_bl r]
    rfl
section
variable {X : Cx} {pins : List (Addr × Obj)} {σ : L2.St} {H : Hp}
theorem sum_hot {s : Shared} (I : Inv X pins σ H s) (hc : L2H.HotC X) {i : Nat} {y v : Str} {p p2 p3 p4 p5 p6 p7 p8 : Pos} {scope : Scope} (hN : X.N[i]? = some y) (hv : Vis X.env.scope y) (hy : okNm y = true) (hvn : okNm v = true)
    (g1 : Gl X "sum") (m1 : X.mg "sum" = none) (m2 : X.mg "int" = none) (hsc : blkB scope v = true)
    {a : Addr} {bs : List Bool} (e1 : σ[i]? = some (some (.ref a))) (e2 : H a = some (.lst (bs.map .bl))) {Q : VK} (hb : bs.length ≤ 5) (q : Q (.int (bs.map b2i).sum) H) :
    wpAny (model X.prog X.w) X.A (eval (.Call (.Name "sum" p) [.ListComp (.Call (.Name "int" p2) [.Name v p3] [] p4) [⟨.Name v p5, .Name y p6, [], 0⟩] scope p7] [] p8) X.env) (EP X pins σ Q) X.xe s := by
  obtain ⟨s1, s2, s3, s4, s5, s6⟩ := blk_of hsc
  obtain ⟨pr, ⟨hh, vs1, d1, c1⟩, hp⟩ := hc
  have P0 := I.pin pr (List.mem_append_left _ hp)
  refine Call_ (ld_blt I g1 m1 PyProof.Rows.boot_sum (PyProof.Rows.callWith_builtin1 (PyProof.Rows.args_cons (wpAny_ListComp_walk (fun _ => true) (fun v y => ∃ k t, v = .bool k ∧ y = .int (b2i k) t) s2 s3 s1 s4 s5 ?_) rfl) rfl rfl))
  refine thn ((pe_var hN hv (nm_of hy).1 (nm_of hy).2).run pins s σ H (fun v H1 => v = .ref a ∧ H1 = H) I ⟨_, e1, rfl, rfl⟩) fun u t1 ⟨x, H1, I1, r1, e, eH⟩ => ?_
  subst e eH
  cases r1
  obtain ⟨its, r, pl, hz⟩ := I1.list (.inl (.inl e2))
  obtain rfl := vals_bl r
  have P1 := (I1.pin pr (List.mem_append_left _ hp)).1
  have la : a < t1.heap.objs.size := by
    obtain ⟨o, ho, _⟩ := pl.isList
    exact Heap.lt_size ho
  have lp : pr.1 < t1.heap.objs.size := Heap.lt_size P1
  refine wpAny_pyIter_list pl.isList ?_
  refine ⟨t1.heap.objs.size, [t1.heap.objs.size, a, pr.1], [t1.heap.objs.size], _, _, _, rfl, walks_hot hh (Nat.ne_of_lt la) (Nat.ne_of_lt lp) d1 c1 (bs.map Value.bool).toArray, by rw [List.size_toArray, List.length_map, sizeLine_eq]; omega, ⟨?_, ?_, Heap.get?_push_of_some _ P1⟩, fun b hb => ?_, ⟨?_, ?_⟩, fun D h' tk ys vs hD hl hpl hlen hP hF hk => PyProof.Rows.args_nil ?_⟩
  · exact ⟨_, Heap.get?_push_size _ rfl, rfl, rfl⟩
  · obtain ⟨o, ho, z⟩ := pl.isList
    exact ⟨o, Heap.get?_push_of_some _ ho, z⟩
  · rw [Heap.size_push]
    simp only [List.mem_cons, List.not_mem_nil, or_false] at hb
    rcases hb with z | z | z <;> rw [z]
    · exact Nat.lt_succ_self _
    · exact Nat.lt_succ_of_lt la
    · exact Nat.lt_succ_of_lt lp
  · intro C j v s₃ m₃ E' _ _ _ _ _
    exact wpAny_pure ⟨rfl, s₃.heap, s₃.toks, rfl, fun _ _ e => e⟩
  · intro C j z s₃ m₃ E' hP _ hn hm hk ht
    obtain ⟨mb, b1, b2⟩ := I1.mod.blt
    have bk : ∀ b o, X.base.get? b = some o → s₃.heap.get? b = some o := fun b o e => by
      have e3 := I1.bk b o e
      exact hk b o (by simp; exact Nat.ne_of_lt (Heap.lt_size e3)) (Heap.get?_push_of_some _ e3)
    have eb : ∃ k, z = .bool k := by
      have hP : (bs.map Value.bool).toArray[j]? = some z := hP
      rw [List.getElem?_toArray, List.getElem?_map] at hP
      cases q : bs[j]? with
      | none => rw [q] at hP; cases hP
      | some k => rw [q] at hP; cases hP; exact ⟨k, rfl⟩
    obtain ⟨k, rfl⟩ := eb
    refine Call_ (Calls.Name_function_global (env := compEnv scope C X.env) s1 s6 (Calls.loadGlobal_builtin (mg := X.mg) (mb := mb) (by show s₃.heap.Ns X.env.globals X.mg; rw [I1.ok.glob]; exact I1.mod.glob.keeps bk) m2 (by show s₃.heap.Ns X.env.builtins mb; rw [I1.ok.blt]; exact b1.keeps bk) ((b2 _ (by decide)).trans PyProof.Rows.boot_int) ?_))
    refine PyProof.Rows.callWith_type1 (PyProof.Rows.args_cons (wpAny_Name (wpAny_loadName_local (env := compEnv scope C X.env) s1 s5 hn hm (PyProof.Rows.args_nil (call_int_bool ⟨⟨k, s₃.toks, rfl, by cases k <;> rfl⟩, ⟨_, _, rfl, fun _ _ e => e⟩⟩))) (nm_of hvn).1) rfl) rfl rfl
  · have hvs : vs.length = bs.length := by rw [hlen, List.size_toArray, List.length_map]
    have hfil : vs.filter (fun _ => true) = vs := by simp
    rw [hfil] at hF
    have hys : ys.size = bs.length := by
      have := hF.length
      rw [← hvs]
      simpa using this.symm
    have val : ∀ i v, ys[i]? = some v → ∃ t, v = Value.int (nsB bs i) t := fun j v e => by
      obtain ⟨u, hu, k, t, rfl, rfl⟩ := paired_at (l := vs) (m := ys.toList) (j := j) hF (by simpa using e)
      have hq := hP j _ hu
      have hq : (bs.map Value.bool).toArray[j]? = some (.bool k) := hq
      rw [List.getElem?_toArray, List.getElem?_map] at hq
      refine ⟨t, ?_⟩
      unfold nsB
      cases q : bs[j]? with
      | none => rw [q] at hq; cases hq
      | some k' =>
        rw [q] at hq
        cases hq
        rw [List.getD_eq_getElem?_getD, q]
        rfl
    have P2 : h'.get? pr.1 = some pr.2 := hk _ _ (by simp; exact Nat.ne_of_lt lp) (Heap.get?_push_of_some _ P1)
    have lD : D < h'.objs.size := by
      obtain ⟨o, ho, _⟩ := hl
      exact Heap.lt_size ho
    have lp2 : pr.1 < h'.objs.size := Heap.lt_size P2
    refine call_sum_walkG (wpAny_pyIter_list hl ⟨h'.objs.size, [h'.objs.size, D, pr.1], [h'.objs.size], _, _, _, nsB bs, rfl, walks_hot (A := X.A.in1) hh (Nat.ne_of_lt lD) (Nat.ne_of_lt lp2) d1 c1 ys, ⟨⟨_, Heap.get?_push_size _ rfl, rfl, rfl⟩, ?_, Heap.get?_push_of_some _ P2⟩, fun b hb => ?_, val, fun h2 tk2 t2 k2 => ?_⟩)
    · obtain ⟨o, ho, z⟩ := hl
      exact ⟨o, Heap.get?_push_of_some _ ho, z⟩
    · rw [Heap.size_push]
      simp only [List.mem_cons, List.not_mem_nil, or_false] at hb
      rcases hb with z | z | z <;> rw [z]
      · exact Nat.lt_succ_self _
      · exact Nat.lt_succ_of_lt lD
      · exact Nat.lt_succ_of_lt lp2
    · rw [hys, preSum_bs bs _ (Nat.le_refl _), List.take_length]
      refine ⟨.int (bs.map b2i).sum, H1, I1.kept (h' := h2) (t' := tk2) fun b o e => ?_, ⟨_, rfl⟩, q⟩
      have lb := Heap.lt_size e
      have e2 := hk b o (by simp; exact Nat.ne_of_lt lb) (Heap.get?_push_of_some _ e)
      exact k2 b o (by simp; exact Nat.ne_of_lt (Heap.lt_size e2)) (Heap.get?_push_of_some _ e2)
end

/-- isinstance(e, c): e the exception that is pinned -/
theorem isE_pin {X : Cx} {a dd : Addr} {ob : Obj} (C : ExcC X.K dd) (zc : Zc (.ref dd) none ob) (hf : ∃ vs, ob.data = .fields vs) (hm : (a, ob) ∈ X.pn) : CallR X (.builtin "isinstance") (rIsE X.K dd a) := by
  intro pins s σ H xs us Q I r h
  obtain ⟨c, cv, b, rfl, hcv, e, q⟩ := h
  obtain ⟨u1, u2, rfl, ra, rc⟩ := vals2 r
  cases ra
  have ec := hcv _ rc
  subst ec
  have hget := (I.pin (a, ob) (List.mem_append.mpr (.inl hm))).1
  obtain ⟨vs, hv⟩ := hf
  have J : PySem.W.InstAt s.heap a ob dd none := by
    cases ob with
    | mk oc od oda osl =>
      obtain ⟨q1, q2⟩ := zc
      dsimp only at q1 q2 hv
      cases q1
      cases q2
      cases hv
      exact ⟨hget, rfl, rfl, trivial⟩
  exact PySem.W.kia_one (PySem.W.handS_kitx_exc C.hg C.hk C.hs C.hd C.ha C.hn C.ht C.hm) I.kIn J e (fun z => nomatch z) fun tk => ⟨.bl b, H, I.kept (t' := tk) fun _ _ z => z, rfl, q⟩
/-- a def's body, run where pr is handled -/
theorem hot_body {P : Program} {w : World} {K : PySem.W.Frag} {mg : Str → Option Value} {base : Heap} {k : Nat} {f : Addr} {fd : FuncData} {x qual : Str} {params : Arguments} {body : List Stmt} {scope : Scope} {kws : List (Str × V)} {N ps : List Str}
    (F : FunD K x qual params body scope [] kws f fd) (S : FnScope N ps scope) {A : Around} {outer : List PySem.Env} {s : Shared} {H : Hp} {args : Args} {us : List Value} {vs : List V} {Q : VK} {E : XK} {pr : Addr × Obj}
    (hr : L2H.RoomH (k + 1) A) (pin : L2H.PinOk outer H s pr) (e0 : Env0 P w K mg base A outer s H) (hb : BindsTo s fd args (ps.zip us)) (rv : Vals vs us) (hl : vs.length = ps.length)
    (hbody : ∀ cdv, L2H.RoomH k (A.deeper (envOfC qual scope s.heap.objs.size f cdv)) → ∃ t, PSs (L2H.cxH (L2N.CX P w) P w K mg base N qual scope f cdv A outer s H E pr) body t ∧ t { nx := fun _ H' => Q .non H', rt := Q } (start N vs) H) :
    codeAny (model P w) A (.call (.ref f) args) (CR (L2N.CX P w) outer P w H s Q E) s := by
  obtain ⟨oc, od, dV, kV, doc, pm, an, cdv, ct, osl, rfl, lk, hcd, _, _⟩ := F.ex
  have kx := e0.mod.kin.keeps fun b o e => (e0.bs b o e).1
  have hp : ∀ y ∈ ps.zip us, scope.names.lookup y.1 = some .local ∨ (scope.names.lookup y.1 = some .cell ∧ ((cellsFrom (s.heap.objs.size + 1) scope.names []).lookup y.1).isSome = true) := by
    rintro ⟨z, u⟩ hy
    exact (S.par z (List.of_mem_zip hy).1).imp id fun q => ⟨q, PySem.W.cellsFrom_some _ _ _ (.inl q)⟩
  refine codeAny_call_function hr.depth (kx _ _ lk) rfl S.co S.gen rfl (PySem.W.codeRec_of kx hcd) (hb _ _ _ _ (wpAny_newFunctionEnv_cells S.kind hp fun env he s1 ic => ?_))
  subst he
  obtain ⟨t, ht, hq⟩ := hbody cdv (hr.deeper _)
  have I := L2H.inv_startH (CX := L2N.CX P w) (E := E) S pin e0 hl rv ic
  refine ⟨(e0.mod.nolimit.keeps fun b o e => (e0.bs b o e).1).keeps ic.toInCall.keep, codeAny_func (wpAny_mono (ht.run [] s1 (start N vs) H _ I hq) (fun fl s' hf => ?_) fun _ _ z => z)⟩
  cases fl with
  | next =>
    obtain ⟨σ', H', J, q⟩ := hf
    exact ⟨V.non, H', J.os, J.bare, J.base, J.hok, rfl, q⟩
  | ret u =>
    obtain ⟨v, σ', H', J, r, q⟩ := hf
    exact ⟨_, H', J.os, J.bare, J.base, J.hok, r, q⟩
  | _ =>
    obtain ⟨_, _, _, q⟩ := hf
    exact q.elim
/-- what the head must say of the classes -/
structure ErrC (K : PySem.W.Frag) (c : Str) (j : Nat) : Prop where
  ec : ExcC K (He.ga K c)
  k0 : PySem.W.kitOne K (.ref (He.ga K c)) (.ref (He.ga K "NotAllowed")) = some (decide (j = 0))
  k1 : PySem.W.kitOne K (.ref (He.ga K c)) (.ref (He.ga K "TooLarge")) = some (decide (j = 1))
  k2 : PySem.W.kitOne K (.ref (He.ga K c)) (.ref (He.ga K "Missing")) = some (decide (j = 2))
  k3 : PySem.W.kitOne K (.ref (He.ga K c)) (.ref (He.ga K "BadPaper")) = some (decide (j = 3))
  k4 : PySem.W.kitOne K (.ref (He.ga K c)) (.ref (He.ga K "BadForm")) = some false
theorem err_cases {K : PySem.W.Frag} (h0 : ErrC K "NotAllowed" 0) (h1 : ErrC K "TooLarge" 1) (h2 : ErrC K "Missing" 2) (h3 : ErrC K "BadPaper" 3) {c t : Str} (h : errT c = some t) :
    ∃ j, j < 4 ∧ ErrC K c j ∧ ((["refused", "large", "missing", "paper", "form"] : List Str)[j]?) = some t := by
  unfold errT at h
  split at h
  · rename_i e; subst e; cases h; exact ⟨0, by decide, h0, rfl⟩
  · split at h
    · rename_i e; subst e; cases h; exact ⟨1, by decide, h1, rfl⟩
    · split at h
      · rename_i e; subst e; cases h; exact ⟨2, by decide, h2, rfl⟩
      · split at h
        · rename_i e; subst e; cases h; exact ⟨3, by decide, h3, rfl⟩
        · cases h
def bs5 (j : Nat) : List Bool := [decide (j = 0), decide (j = 1), decide (j = 2), decide (j = 3), false]
theorem sum5 {j : Nat} (h : j < 4) : ((bs5 j).map b2i).sum = 1 := by
  match j, h with
  | 0, _ => rfl
  | 1, _ => rfl
  | 2, _ => rfl
  | 3, _ => rfl
theorem err_fn {P : Program} {w : World} {K : PySem.W.Frag} {mg : Str → Option Value} {base : Heap} {qual : Str} {params : Arguments} {scope sc2 : Scope} {kws : List (Str × V)} {f : Addr} {fd : FuncData} {k1 k2 k3 k4 k5 k6 k7 k8 : Nat}
    {p1 p2 p3 p4 p5 p6 p7 p8 p9 p10 p11 p12 p13 p14 p15 p16 p17 p18 p19 p20 p21 p22 p23 p24 p25 p26 p27 p28 p29 p30 p31 p32 p33 p34 p35 p36 p37 p38 p39 p40 p41 p42 p43 p44 p45 p46 p47 p48 : Pos}
    (F : FunD K "_law_error" qual params [.Assign [.Name "names" p1] (.List [.Call (.Name "isinstance" p2) [.Name "e" p3, .Name "NotAllowed" p4] [] p5, .Call (.Name "isinstance" p6) [.Name "e" p7, .Name "TooLarge" p8] [] p9,
        .Call (.Name "isinstance" p10) [.Name "e" p11, .Name "Missing" p12] [] p13, .Call (.Name "isinstance" p14) [.Name "e" p15, .Name "BadPaper" p16] [] p17, .Call (.Name "isinstance" p18) [.Name "e" p19, .Name "BadForm" p20] [] p21] p22) p23,
      .If (.Compare (.Call (.Name "sum" p24) [.ListComp (.Call (.Name "int" p25) [.Name "one" p26] [] p27) [⟨.Name "one" p28, .Name "names" p29, [], 0⟩] sc2 p30] [] p31) [.NotEq] [.Constant (.int 1) k1 p32] p33) [.Return (some (.Constant (.str "odd") k2 p34)) p35] [] p36,
      .Return (some (.Subscript (.List [.Constant (.str "refused") k3 p37, .Constant (.str "large") k4 p38, .Constant (.str "missing") k5 p39, .Constant (.str "paper") k6 p40, .Constant (.str "form") k7 p41] p42)
        (.Call (.Attribute (.Name "names" p43) "index" p44) [.Constant (.bool true) k8 p45] [] p46) p47)) p48] scope [] kws f fd)
    (hs : scB (["e", "names"] : List Str) (["e"] : List Str) scope = true) (hx : (glB scope "isinstance" && (glB scope "sum" && (glB scope "NotAllowed" && (glB scope "TooLarge" && (glB scope "Missing" && (glB scope "BadPaper" && (glB scope "BadForm" && (visB scope "e" && (visB scope "names" && (locB scope "names" && (blkB sc2 "one" && (p44.endLine == p46.line)))))))))))) = true)
    (hb : Binds K fd (["e"] : List Str) []) (kp : PySem.W.keepIn K (.ref f) = true) (mf : mg "_law_error" = some (.ref f)) (mi : mg "isinstance" = none) (ms : mg "sum" = none) (mt : mg "int" = none)
    (c0 : mg "NotAllowed" = some (.ref (He.ga K "NotAllowed"))) (c1 : mg "TooLarge" = some (.ref (He.ga K "TooLarge"))) (c2 : mg "Missing" = some (.ref (He.ga K "Missing"))) (c3 : mg "BadPaper" = some (.ref (He.ga K "BadPaper"))) (c4 : mg "BadForm" = some (.ref (He.ga K "BadForm")))
    (h0 : ErrC K "NotAllowed" 0) (h1 : ErrC K "TooLarge" 1) (h2 : ErrC K "Missing" 2) (h3 : ErrC K "BadPaper" 3) : ErrOk P w K mg base := by
  have Sc := sc_of hs
  obtain ⟨x1, y1⟩ := and2 hx
  obtain ⟨x2, y2⟩ := and2 y1
  obtain ⟨x3, y3⟩ := and2 y2
  obtain ⟨x4, y4⟩ := and2 y3
  obtain ⟨x5, y5⟩ := and2 y4
  obtain ⟨x6, y6⟩ := and2 y5
  obtain ⟨x7, y7⟩ := and2 y6
  obtain ⟨x8, y8⟩ := and2 y7
  obtain ⟨x9, y9⟩ := and2 y8
  obtain ⟨x10, y10⟩ := and2 y9
  obtain ⟨x11, x12⟩ := and2 y10
  refine ⟨f, fd, mf, kp, hb, fun A outer s H args pr c t Q hr hot pin e0 bt et zc hq => ?_⟩
  obtain ⟨j, hj, EC, hjt⟩ := err_cases h0 h1 h2 h3 et
  obtain ⟨hh, vs1, d1, ctx⟩ := id hot
  refine hot_body (k := 0) (N := (["e", "names"] : List Str)) (ps := (["e"] : List Str)) (us := [.ref pr.1]) (vs := [.ref pr.1]) F Sc hr pin e0 bt (.cons rfl .nil) rfl fun cdv hr0 => ?_
  generalize hX : L2H.cxH (L2N.CX P w) P w K mg base (["e", "names"] : List Str) qual scope f cdv A outer s H (fun _ _ _ => False) pr = X
  have hotX : L2H.HotC X := ⟨pr, by rw [← hX]; exact hot, by rw [← hX]; exact List.mem_cons_self⟩
  have un : X.A.units + 64 < cLine := by
    have := hr0.un
    rw [← hX]
    show (A.deeper (envOfC qual scope s.heap.objs.size f cdv)).units + 64 < cLine
    omega
  have un5 : X.A.units + 65 < cLine := by
    have := hr0.un
    rw [← hX]
    show (A.deeper (envOfC qual scope s.heap.objs.size f cdv)).units + 65 < cLine
    omega
  have hN0 : X.N[0]? = some ("e" : Str) := by rw [← hX]; rfl
  have hN1 : X.N[1]? = some ("names" : Str) := by rw [← hX]; rfl
  have nd : X.N.Nodup := by rw [← hX]; exact Sc.nd
  have eK : X.K = K := by rw [← hX]; rfl
  have em : X.mg = mg := by rw [← hX]; rfl
  have es : X.env.scope = scope := by rw [← hX]; rfl
  have fn1 : ∀ y, X.fn y = true := fun y => by rw [← hX]; rfl
  have gl : ∀ {y : Str}, glB scope y = true → Gl X y := fun {y} h => (gl_of es h).1
  have v0 : Vis X.env.scope "e" := by rw [es]; exact vis_of x8
  have v1 : Vis X.env.scope "names" := by rw [es]; exact vis_of x9
  have l1 : Loc X.env.scope "names" := by rw [es]; exact loc_of x10
  have cr : CallR X (.builtin "isinstance") (rIsE X.K (He.ga K c) pr.1) := isE_pin (by rw [eK]; exact EC.ec) zc ⟨_, d1⟩ (by rw [← hX]; exact List.mem_cons_self)
  have pe : ∀ {y : Str} {q1 q2 q3 q4 : Pos}, glB scope y = true → mg y = some (.ref (He.ga K y)) → (y == ("__debug__" : Str)) = false → PE X (.Call (.Name "isinstance" q1) [.Name "e" q2, .Name y q3] [] q4) (tCB (rIsE X.K (He.ga K c) pr.1) (tCons (tVar 0) (tCons (tC (.ref (He.ga K y))) tNil))) := fun {y q1 q2 q3 q4} hg hm hd =>
    pe_callB cr (gl x1) (by rw [em]; exact mi) PyProof.Rows.boot_isinstance (pa_cons (pe_var hN0 v0) (pa_cons (pe_glob (gl hg) (by rw [em]; exact hm) rfl hd) pa_nil))
  refine ⟨_, pss_cons (ps_set nd hN1 l1 (pe_lst (pa_cons (pe x3 c0 (by decide)) (pa_cons (pe x4 c1 (by decide)) (pa_cons (pe x5 c2 (by decide)) (pa_cons (pe x6 c3 (by decide)) (pa_cons (pe x7 c4 (by decide)) pa_nil)))))) rfl (.inl (fn1 _)))
    (pss_cons (ps_if (pt_cmpR (op_cmpD un .NotEq) (ta := fun σ H Q => ∃ (a : Addr) (bs : List Bool), σ[1]? = some (some (.ref a)) ∧ H a = some (.lst (bs.map .bl)) ∧ bs.length ≤ 5 ∧ Q (.int (bs.map b2i).sum) H) ⟨fun pins s σ H Q I ⟨a, bs, e1, e2, hb5, q⟩ => sum_hot I hotX hN1 v1 (by decide) (by decide) (gl x2) (by rw [em]; exact ms) (by rw [em]; exact mt) x11 e1 e2 hb5 q⟩ pe_int (by rfl)) (pss_one (ps_ret pe_str)) pss_nil)
      (pss_one (ps_ret (pe_ix ix_list (pe_lst (pa_cons pe_str (pa_cons pe_str (pa_cons pe_str (pa_cons pe_str (pa_cons pe_str pa_nil))))))
        (pe_bm PySem.F.plainAttrs_list PySem.F.slot_list_index PySem.F.type_list_index (mt_indexD un5) (pe_var hN1 v1) (pa_cons pe_bl pa_nil) rfl rfl x12 rfl rfl) (fun _ _ => rfl))))), ?_⟩
  refine ⟨_, rfl, .ref (He.ga K "NotAllowed"), .ref (He.ga K "NotAllowed"), _, rfl, fun u z => z, by rw [eK]; exact EC.k0, ?_⟩
  refine ⟨_, rfl, .ref (He.ga K "TooLarge"), .ref (He.ga K "TooLarge"), _, rfl, fun u z => z, by rw [eK]; exact EC.k1, ?_⟩
  refine ⟨_, rfl, .ref (He.ga K "Missing"), .ref (He.ga K "Missing"), _, rfl, fun u z => z, by rw [eK]; exact EC.k2, ?_⟩
  refine ⟨_, rfl, .ref (He.ga K "BadPaper"), .ref (He.ga K "BadPaper"), _, rfl, fun u z => z, by rw [eK]; exact EC.k3, ?_⟩
  refine ⟨_, rfl, .ref (He.ga K "BadForm"), .ref (He.ga K "BadForm"), _, rfl, fun u z => z, by rw [eK]; exact EC.k4, ⟨by show 5 ≤ sizeLine; rw [sizeLine_eq]; omega, fun p hp => ?_⟩⟩
  refine ⟨p, bs5 j, rfl, upd_same, Nat.le_refl _, ⟨noA, .int ((bs5 j).map b2i).sum, .int 1, fun d => d = .bl false, fun a z => z.elim, .inl rfl, .inl rfl, ⟨_, _, rfl, rfl, rfl, rfl, ?_⟩, fun d hd v H' e r => ?_⟩⟩
  · rw [sum5 hj]
    rfl
  · subst hd
    obtain rfl : v = .bl false := r
    refine ⟨false, rfl, by show 5 ≤ sizeLine; rw [sizeLine_eq]; omega, fun p2 hp2 => ?_⟩
    have ep : H' p = some (.lst ((bs5 j).map V.bl)) := e.at upd_same rfl
    have np : p ≠ p2 := fun z => by rw [← z, ep] at hp2; cases hp2
    generalize hH2 : upd H' p2 _ = H2
    have ep2 : H2 p = some (.lst ((bs5 j).map V.bl)) := by rw [← hH2, upd_ne np]; exact ep
    have eq2 : SqL X.K H2 p2 _ := .inl (.inl (by rw [← hH2]; exact upd_same))
    have ee : Ex 0 H H2 := by
      rw [← hH2]
      have := ((Ex.new (o := .lst ((bs5 j).map V.bl)) hp).trans e).trans (Ex.new (o := .lst [V.str "refused", V.str "large", V.str "missing", V.str "paper", V.str "form"]) hp2)
      simpa using this
    have dp : DpAll X.K H2 ((bs5 j).map V.bl) ((bs5 j).map PyData.bool) := .cons (.bl _) (.cons (.bl _) (.cons (.bl _) (.cons (.bl _) (.cons (.bl _) .nil))))
    refine ⟨_, rfl, ty_lst ep2, p, .bl true, .bool true, (bs5 j).map PyData.bool, j, .bool true, rfl, rfl, .lst (.inl (.inl ep2)) dp, .bl true, ?_, rfl, ?_, rfl, ?_, p2, _, (j : Int), .str t, rfl, rfl, eq2, ?_, hq _ ee⟩
    · match j, hj with
      | 0, _ => rfl
      | 1, _ => rfl
      | 2, _ => rfl
      | 3, _ => rfl
    · match j, hj with
      | 0, _ => rfl
      | 1, _ => rfl
      | 2, _ => rfl
      | 3, _ => rfl
    · intro m z' hm hz
      match j, hj, m, hm with
      | 1, _, 0, _ => cases hz; rfl
      | 2, _, 0, _ => cases hz; rfl
      | 2, _, 1, _ => cases hz; rfl
      | 3, _, 0, _ => cases hz; rfl
      | 3, _, 1, _ => cases hz; rfl
      | 3, _, 2, _ => cases hz; rfl
    · match j, hj, hjt with
      | 0, _, hjt => cases hjt; rfl
      | 1, _, hjt => cases hjt; rfl
      | 2, _, hjt => cases hjt; rfl
      | 3, _, hjt => cases hjt; rfl
end DL

/-! F3: in_turn: a dict of dicts made and filled, by hand; the rest by the layer -/
namespace DL
open PySem PySem.Spec PyProof.Rows L2 Evl

/-! ### keys, one behind another -/
instance decMem (k : Key) (c : List Key) : Decidable (k ∈ c) := decidable_of_iff ((c.any fun x => decide (x = k)) = true) (by
  rw [List.any_eq_true]
  constructor
  · rintro ⟨x, h1, h2⟩
    rw [← of_decide_eq_true h2]
    exact h1
  · intro h
    exact ⟨k, h, decide_eq_true rfl⟩)
def addK (c : List Key) (k : Key) : List Key := if k ∈ c then c else c ++ [k]
def kt1 (c : List Key) : List (Key × D) := c.map fun k => (k, .bl true)
def kv1 (c : List Key) : List (Key × V) := c.map fun k => (k, .bl true)
theorem any_key {α : Type} (f : Key → Key × α) (hf : ∀ k, (f k).1 = k) (c : List Key) (k : Key) : ((c.map f).any fun kv => decide (kv.1 = k)) = decide (k ∈ c) := by
  rw [List.any_map]
  induction c with
  | nil => rfl
  | cons x c ih =>
    rw [List.any_cons, ih]
    simp only [Function.comp, hf]
    by_cases h : x = k
    · simp [h]
    · have h' : ¬ k = x := fun z => h z.symm
      simp [h, h']
theorem put_kt (c : List Key) (k : Key) : putD (kt1 c) k (.bl true) = kt1 (addK c k) := by
  unfold putD addK kt1
  rw [any_key _ fun _ => rfl]
  by_cases h : k ∈ c
  · rw [if_pos (by simpa using h), if_pos h, List.map_map]
    refine List.map_congr_left fun x _ => ?_
    simp only [Function.comp]
    split <;> rfl
  · rw [if_neg (by simpa using h), if_neg h, List.map_append]
    rfl
theorem put_kv (c : List Key) (k : Key) : putK (kv1 c) k (.bl true) = kv1 (addK c k) := by
  unfold putK addK kv1
  rw [any_key _ fun _ => rfl]
  by_cases h : k ∈ c
  · rw [if_pos (by simpa using h), if_pos h, List.map_map]
    refine List.map_congr_left fun x _ => ?_
    simp only [Function.comp]
    split <;> rfl
  · rw [if_neg (by simpa using h), if_neg h, List.map_append]
    rfl
theorem fold_kv : ∀ (d c : List Key), (kv1 d).foldl (fun acc p => putK acc p.1 p.2) (kv1 c) = kv1 (d.foldl addK c)
  | [], c => rfl
  | k :: d, c => by
    show (kv1 d).foldl _ (putK (kv1 c) k (.bl true)) = _
    rw [put_kv, fold_kv d]
    rfl
theorem addK_len (c : List Key) (k : Key) : (addK c k).length ≤ c.length + 1 := by
  unfold addK
  split
  · omega
  · simp
theorem fold_len : ∀ (d c : List Key), (d.foldl addK c).length ≤ c.length + d.length
  | [], c => by simp
  | k :: d, c => by
    have h1 := fold_len d (addK c k)
    have h2 := addK_len c k
    rw [List.foldl_cons, List.length_cons]
    omega
theorem mem_addK {c : List Key} {k x : Key} : x ∈ addK c k ↔ x ∈ c ∨ x = k := by
  unfold addK
  split
  · rename_i h
    constructor
    · exact .inl
    · rintro (z | z)
      · exact z
      · rw [z]; exact h
  · simp
theorem mem_fold {x : Key} : ∀ (d c : List Key), x ∈ d.foldl addK c ↔ x ∈ c ∨ x ∈ d
  | [], c => by simp
  | k :: d, c => by
    rw [List.foldl_cons, mem_fold d, mem_addK, List.mem_cons]
    constructor
    · rintro ((h | h) | h)
      · exact .inl h
      · exact .inr (.inl h)
      · exact .inr (.inr h)
    · rintro (h | h | h)
      · exact .inl (.inl h)
      · exact .inl (.inr h)
      · exact .inr h
/-- a reason, as it is read here -/
structure Rn where
  nm : D
  pr : List Str
  ex : List Str
  sd : D
  gl : Str
  fc : D
def Rn.d (r : Rn) : D := .tup [r.nm, .tup (r.pr.map .str), .tup (r.ex.map .str), r.sd, .str r.gl, r.fc]
def Rn.ks (r : Rn) : List Key := ((r.pr ++ r.ex).map fun s => (.inr s : Key)).foldl addK []
def need1 (k : Str) (c : List Key) (r : Rn) : List Key := if r.gl = k then r.ks.foldl addK c else c
def needK (rs : List Rn) (k : Str) : List Key := rs.foldl (need1 k) []
theorem ks_len (r : Rn) : r.ks.length ≤ (r.pr ++ r.ex).length := by
  have := fold_len ((r.pr ++ r.ex).map fun s => (.inr s : Key)) []
  rw [List.length_map] at this
  unfold Rn.ks
  simp only [List.length_nil] at this
  omega
theorem mem_need {x : Key} {k : Str} : ∀ (rs : List Rn) (c : List Key), x ∈ rs.foldl (need1 k) c ↔ x ∈ c ∨ ∃ r ∈ rs, r.gl = k ∧ ∃ s, x = .inr s ∧ s ∈ r.pr ++ r.ex
  | [], c => by simp
  | r :: rs, c => by
    rw [List.foldl_cons, mem_need rs]
    have h : x ∈ need1 k c r ↔ x ∈ c ∨ (r.gl = k ∧ ∃ s, x = .inr s ∧ s ∈ r.pr ++ r.ex) := by
      unfold need1
      split
      · rename_i e
        rw [mem_fold]
        unfold Rn.ks
        rw [mem_fold]
        simp only [List.mem_map, List.not_mem_nil, false_or, e, true_and]
        constructor
        · rintro (h | ⟨s, h1, h2⟩)
          · exact .inl h
          · exact .inr ⟨s, h2.symm, h1⟩
        · rintro (h | ⟨s, h1, h2⟩)
          · exact .inl h
          · exact .inr ⟨s, h2, h1.symm⟩
      · rename_i e
        simp [e]
    rw [h]
    constructor
    · rintro ((h | ⟨h1, h2⟩) | ⟨r', h1, h2⟩)
      · exact .inl h
      · exact .inr ⟨r, List.mem_cons_self, h1, h2⟩
      · exact .inr ⟨r', List.mem_cons_of_mem _ h1, h2⟩
    · rintro (h | ⟨r', h1, h2⟩)
      · exact .inl (.inl h)
      · rcases List.mem_cons.mp h1 with rfl | h1
        · exact .inl (.inr h2)
        · exact .inr ⟨r', h1, h2⟩
theorem need_len (m : Nat) : ∀ (rs : List Rn) (k : Str) (c : List Key), (∀ r ∈ rs, (r.pr ++ r.ex).length ≤ m) → (rs.foldl (need1 k) c).length ≤ c.length + rs.length * m
  | [], k, c, _ => by simp
  | r :: rs, k, c, h => by
    have h1 := need_len m rs k (need1 k c r) fun r hr => h r (List.mem_cons_of_mem _ hr)
    have h2 : (need1 k c r).length ≤ c.length + m := by
      unfold need1
      split
      · have := fold_len r.ks c
        have := ks_len r
        have := h r List.mem_cons_self
        omega
      · omega
    rw [List.foldl_cons, List.length_cons, Nat.succ_mul]
    omega

/-! ### the outer dict -/
def kz (ks : List Str) (bs : List Addr) : List (Key × V) := (ks.zip bs).map fun p => (.inr p.1, V.ref p.2)
theorem kz_snoc {ks : List Str} {bs : List Addr} {k : Str} {q : Addr} (h : ks.length = bs.length) : kz (ks ++ [k]) (bs ++ [q]) = kz ks bs ++ [(.inr k, .ref q)] := by
  unfold kz
  rw [List.zip_append h, List.map_append]
  rfl
theorem kz_any {k : Str} : ∀ {ks : List Str} {bs : List Addr}, k ∉ ks → ((kz ks bs).any fun kv => decide (kv.1 = (.inr k : Key))) = false
  | [], _, _ => rfl
  | _ :: _, [], _ => rfl
  | k' :: ks, b :: bs, h => by
    have h1 : k' ≠ k := fun z => h (by rw [z]; exact List.mem_cons_self)
    have h2 := kz_any (bs := bs) fun z => h (List.mem_cons_of_mem k' z)
    show (decide ((.inr k' : Key) = .inr k) || (kz ks bs).any _) = false
    rw [h2]
    have : (.inr k' : Key) ≠ .inr k := fun z => h1 (Sum.inr.inj z)
    simp [this]
theorem kz_val {k : Str} : ∀ {ks : List Str} {bs : List Addr} {j : Nat} {b : Addr}, ks.Nodup → ks[j]? = some k → bs[j]? = some b → valV (kz ks bs) (.inr k) = some (.ref b)
  | [], _, _, _, _, h, _ => by simp at h
  | _ :: _, [], _, _, _, _, h => by simp at h
  | k' :: ks, b' :: bs, 0, b, _, h1, h2 => by
    simp at h1 h2
    subst h1 h2
    exact valV_pos rfl
  | k' :: ks, b' :: bs, j + 1, b, nd, h1, h2 => by
    have hm : k ∈ ks := List.mem_of_getElem? (by simpa using h1)
    have ne : k' ≠ k := fun z => (List.nodup_cons.mp nd).1 (by rw [z]; exact hm)
    have q := kz_val (ks := ks) (bs := bs) (j := j) (List.nodup_cons.mp nd).2 (by simpa using h1) (by simpa using h2)
    unfold valV at q ⊢
    have : (.inr k' : Key) ≠ .inr k := fun z => ne (Sum.inr.inj z)
    have e : kz (k' :: ks) (b' :: bs) = ((.inr k' : Key), V.ref b') :: kz ks bs := rfl
    rw [e, List.find?_cons]
    simp only [this, decide_false]
    exact q
theorem kz_len {ks : List Str} {bs : List Addr} : (kz ks bs).length ≤ ks.length := by
  unfold kz
  rw [List.length_map, List.length_zip]
  omega
/-- the dicts, made and partly filled -/
structure Reg (H : Hp) (a : Addr) (ks : List Str) (bs : List Addr) (g : Str → List Key) : Prop where
  out : H a = some (.dK (kz ks bs))
  len : bs.length = ks.length
  nd : bs.Nodup
  na : a ∉ bs
  inn : ∀ (j : Nat) (b : Addr) (k : Str), bs[j]? = some b → ks[j]? = some k → H b = some (.dK (kv1 (g k)))
def rDUpd : V → List V → Hp → VK → Prop := fun x xs H Q => ∃ (a b : Addr) (l m : List (Key × V)), x = .ref a ∧ xs = [.ref b] ∧ a ≠ b ∧ H a = some (.dK l) ∧ H b = some (.dK m) ∧ l.length + m.length ≤ sizeLine ∧ Q .non (upd H a (.dK (m.foldl (fun acc p => putK acc p.1 p.2) l)))
theorem mt_upd {X : Cx} : MtR X "dict.update" rDUpd := by
  intro pins s σ H x xs v us Q I rx rxs h
  obtain ⟨a, b, l, m, rfl, rfl, nab, ea, eb, hl, q⟩ := h
  obtain rfl : v = .ref a := rx
  obtain ⟨u, rfl, ru⟩ := Vals.one rxs
  obtain rfl : u = .ref b := ru
  obtain ⟨z1, hd1, vs1, rel1, dd1⟩ := dk_of I.hok ea
  obtain ⟨z2, hd2, vs2, rel2, dd2⟩ := dk_of I.hok eb
  refine call_meetsIn PySem.F.slot_dict_update dd1.typeIs PySem.F.entry_dict_update (PySem.F.args_dict_update_2 _ _) (meets_dict_update (mixKind X.prog X.w) a b nab hd2) ⟨vs1, vs2, dd1, dd2, by rw [← rel1.length, ← rel2.length]; exact hl, fun h' dd' ho' hs => ⟨.non, _, d_write (t' := s.toks) I (by rw [ea]; exact True.intro) hs ?_ (dk_new ?_ hd1 (kv_fold rel1 rel2) dd'), rfl, q⟩⟩
  · obtain ⟨o, _, _, ho, _⟩ := dd'
    exact ⟨o, ho⟩
  · have := putK_fold_len m l
    omega
end DL

/-! F4: in_turn, its walk -/
namespace DL
open PySem PySem.Spec PyProof.Rows L2 Evl

section
variable {K : PySem.W.Frag} {own : Nat → Bool} {B R : AP} {H0 H H' : Hp} {σ : L2.St} {ρ : DE}
theorem SI.region (f : SI K own B noA H0 0 H σ ρ) (e : Ex 0 H H') (hR : ∀ b, R b → H b = none) (hM : ∀ b, R b → ∃ o, H' b = some o ∧ isMt o = true) (nw : ∀ i d, own i = true → ρ[i]? ≠ some (some d)) : SI K own B R H0 0 H' σ ρ := by
  have g : Grows H (U B noA) (U B R) := fun b o hb n z => by
    rcases z with z | z
    · exact n (.inl z)
    · rw [hR b z] at hb
      cases hb
  refine ⟨⟨f.fr.len, fun i d h1 h2 => ?_, fun i d h1 h2 => absurd h2 (nw i d h1), fun i j a h1 h2 h3 => ?_, fun a z => ?_⟩, f.ex.trans e, fun a z => f.ex.none (hR a z), f.oldB⟩
  · obtain ⟨v, q1, q2⟩ := f.fr.fz i d h1 h2
    exact ⟨v, q1, Rep.keep (keeps_ex e) g _ _ q2⟩
  · obtain ⟨d, h3⟩ := h3
    exact absurd h3 (nw i d h1)
  · rcases z with z | z
    · exact mt_ex e (f.fr.mt a (.inl z))
    · exact hM a z
theorem SI.free (f : SI K own B R H0 0 H σ ρ) (nw : ∀ i d, own i = true → ρ[i]? ≠ some (some d)) : SI K own B noA H0 0 H σ ρ := by
  refine ⟨⟨f.fr.len, fun i d h1 h2 => ?_, fun i d h1 h2 => absurd h2 (nw i d h1), fun i j a h1 h2 h3 => ?_, fun a z => f.fr.mt a (z.imp id fun z => z.elim)⟩, f.ex, fun a z => z.elim, f.oldB⟩
  · obtain ⟨v, q1, q2⟩ := f.fr.fz i d h1 h2
    exact ⟨v, q1, Rep.keep keeps_refl (grows_less fun a z => z.imp id fun z => z.elim) _ _ q2⟩
  · obtain ⟨d, h3⟩ := h3
    exact absurd h3 (nw i d h1)
theorem SI.updR (f : SI K own B R H0 0 H σ ρ) {b : Addr} {o o' : HO} (hb : R b) (hH : H b = some o) (hm : isMt o = true) (hm' : isMt o' = true) (hx : isX o' = false) (nw : ∀ i d, own i = true → ρ[i]? ≠ some (some d)) :
    SI K own B R H0 0 (L2.upd H b o') σ ρ ∧ Stp B R H R (L2.upd H b o') := by
  have k : Keeps (U B R) H (L2.upd H b o') := keeps_upd (.inr hb) hH hm
  refine ⟨⟨⟨f.fr.len, fun i d h1 h2 => ?_, fun i d h1 h2 => absurd h2 (nw i d h1), fun i j a h1 h2 h3 => ?_, fun a z => ?_⟩, ex_upd (f.fresh b hb) f.ex hx, f.fresh, f.oldB⟩, ⟨fun c oc hc n => ?_, grows_refl⟩⟩
  · obtain ⟨v, q1, q2⟩ := f.fr.fz i d h1 h2
    exact ⟨v, q1, Rep.keep k grows_refl _ _ q2⟩
  · obtain ⟨d, h3⟩ := h3
    exact absurd h3 (nw i d h1)
  · by_cases e : a = b
    · rw [e]
      exact ⟨o', upd_same, hm'⟩
    · rw [upd_ne e]
      exact f.fr.mt a z
  · by_cases e : c = b
    · rw [e] at hc n
      rw [hH] at hc
      cases hc
      have := n (.inr hb)
      rw [hm] at this
      cases this
    · rw [upd_ne e]
      exact .inl hc
end
theorem wipe_at {σ : L2.St} {j : Nat} : ∀ {vs : List Nat}, j ∉ vs → (L2.wipe σ vs)[j]? = σ[j]?
  | [], _ => rfl
  | v :: vs, h => by
    show ((L2.wipe σ vs).set v none)[j]? = _
    rw [List.getElem?_set_ne (fun z => h (by rw [z]; exact List.mem_cons_self)), wipe_at fun z => h (List.mem_cons_of_mem _ z)]
theorem set_id {α : Type} {l : List α} {i : Nat} {x : α} (h : l[i]? = some x) : l.set i x = l := List.ext_getElem? fun m => by
  by_cases e : i = m
  · subst e
    rw [List.getElem?_set_self (List.getElem?_eq_some_iff.mp h).1, h]
  · rw [List.getElem?_set_ne e]
theorem rep_kt {K : PySem.W.Frag} {A : AP} {H : Hp} : ∀ {c : List Key} {us : List (Key × V)}, RepK K A H (kt1 c) us → us = kv1 c
  | [], _, h => h
  | k :: c, _, h => by
    obtain ⟨v, w, rfl, h1, h2⟩ := h
    rw [rep_kt (c := c) h2, show v = .bl true from h1]
    rfl
theorem kt_rep {K : PySem.W.Frag} {A : AP} {H : Hp} : ∀ {c : List Key}, RepK K A H (kt1 c) (kv1 c)
  | [] => rfl
  | _ :: c => ⟨_, _, rfl, rfl, kt_rep (c := c)⟩
/-! ### the texts' dict -/
def eKs : E := .dc [("one", 8)] (.one 8) (.tup [.star (.var 4), .star (.var 5)]) [] (.var 8) (.con (.bl true))
theorem eks_step {T : Tb} {ρ : DE} (hl : 8 < ρ.length) {Q : List (Key × D) → Prop} : ∀ (l : List Str) (c : List Key), c.length + l.length ≤ sizeLine → Q (kt1 ((l.map fun s => (.inr s : Key)).foldl addK c)) →
    dcW (dcStep T (.one 8) (wipeD ρ [8]) [] (.var 8) (.con (.bl true))) (l.map D.str) (kt1 c) Q
  | [], c, _, q => q
  | s :: l, c, h, q => by
    have hc : (kt1 c).length = c.length := List.length_map _
    rw [List.length_cons] at h
    refine ⟨by rw [hc]; omega, .str s, ?_, ⟨.inr s, rfl, ?_⟩⟩
    · exact List.getElem?_set_self (by rw [show (wipeD ρ [8]) = ρ.set 8 none from rfl, List.length_set]; exact hl)
    · rw [put_kt]
      have h2 := addK_len c (.inr s)
      exact eks_step hl l (addK c (.inr s)) (by omega) q
/-- the environment while the dicts are filled -/
def rhoT (rec : D) (x3 x4 x5 x6 : Option D) : DE := [some rec, none, none, x3, x4, x5, x6, none, none, none]
theorem eks_wp {T : Tb} {xk : EK} {rec : D} {x3 x6 : Option D} {p q : List Str} (h : p.length + q.length ≤ 100) {Q : DK} (k : Q (.dic (kt1 (((p ++ q).map fun s => (.inr s : Key)).foldl addK [])))) :
    wpE T xk eKs (rhoT rec x3 (some (.tup (p.map .str))) (some (.tup (q.map .str))) x6) Q := by
  refine ⟨_, rfl, _, .inl rfl, _, rfl, _, .inl rfl, ?_, p.map D.str ++ (q.map D.str ++ []), rfl, .inl rfl, ?_⟩
  · rw [List.append_nil, List.length_append, List.length_map, List.length_map, sizeLine_eq]
    omega
  · rw [List.append_nil, ← List.map_append]
    exact eks_step (ρ := rhoT rec x3 (some (.tup (p.map .str))) (some (.tup (q.map .str))) x6) (show 8 < 10 by decide) (p ++ q) [] (by rw [List.length_append, sizeLine_eq]; simp only [List.length_nil]; omega) k
abbrev Nt : List Str := ["record", "needed", "found", "_", "premises", "exceptions", "statement", "fresh", "one", "other"]
theorem own2 {i : Nat} (h : owf [2] i = true) : i = 2 := by
  have : ([2] : List Nat).contains i = true := h
  simpa using this
theorem nw_rho {rec : D} {x3 x4 x5 x6 : Option D} (i : Nat) (d : D) (h : owf [2] i = true) : (rhoT rec x3 x4 x5 x6)[i]? ≠ some (some d) := by
  rw [own2 h]
  intro z
  cases z

section
variable {T : Tb} {L : Nat} {K : PySem.W.Frag} {W : WX}
abbrev recD (ks : List Str) (rs : List Rn) (w : D) : D := .tup [.tup (ks.map .str), .tup (rs.map Rn.d), w]
/-- the dicts made -/
theorem needs_make {B : AP} {H0 H : Hp} {σ : L2.St} {ks : List Str} {rs : List Rn} {w : D} {En : Ends} (f : SI K (owf [2]) B noA H0 0 H σ (rhoT (recD ks rs w) none none none none)) (rm : Rm H 0) (nd : ks.Nodup) (hl : ks.length ≤ 100)
    (q : ∀ a bs H', Ex 0 H H' → H a = none → (∀ b ∈ bs, H b = none) → Reg H' a ks bs (fun _ => []) → En.nx (σ.set 1 (some (.ref a))) H') :
    tAsg (tDc (rdI T K (owf [2]) W (.sub (.var 0) (.con (.int 0)))) (gPt K (.one 8)) (rdTs T K (owf [2]) W0 []) (rdE T K (owf [2]) W0 (.var 8)) tDNewK [8]) (gName 1) En σ H := by
  refine ⟨B, noA, _, fun _ => False, fun d => d = .tup (ks.map .str), ⟨f.fr, rm, xok0⟩, ⟨_, rfl, _, rfl, rfl⟩, fun w hw => ?_⟩
  subst hw
  refine ⟨ks.map .str, rfl, fun J C H1 e1 wk cst hC _ p hp => ?_⟩
  have e1 : Ex 0 H H1 := e1
  have fr1 := f.fr.ex e1
  have lk : (ks.map D.str).length = ks.length := List.length_map _
  refine ⟨fun i m H2 => m = ks.length - i ∧ i ≤ ks.length ∧ ∃ bs : List Addr, bs.length = i ∧ Ex 0 H1 H2 ∧ H2 p = some (.dK (kz (ks.take i) bs)) ∧ bs.Nodup ∧ ∀ b ∈ bs, H1 b = none ∧ b ≠ p ∧ H2 b = some (.dK []), ⟨_, rfl, Nat.zero_le _, [], rfl, (Ex.new hp).any, upd_same, List.nodup_nil, fun b hb => absurd hb List.not_mem_nil⟩, ?_⟩
  rintro i m H2 ⟨rfl, hi, bs, hbl, e2, hz, hnd, hbs⟩
  have hC2 : C (U (fun a => B a ∨ a = p) noA) H2 := cst.ex _ _ _ _ _ hC e2 (grows_into hp)
  obtain ⟨w1, w2, w3⟩ := wk _ _ hC2
  rw [lk] at w1 w2 w3
  by_cases hlt : i < ks.length
  · refine .inr ⟨w1 i hlt, fun H' => ∃ bs : List Addr, bs.length = i + 1 ∧ Ex 0 H1 H' ∧ H' p = some (.dK (kz (ks.take (i + 1)) bs)) ∧ bs.Nodup ∧ ∀ b ∈ bs, H1 b = none ∧ b ≠ p ∧ H' b = some (.dK []), fun H' h => ⟨ks.length - (i + 1), by omega, rfl, hlt, h⟩, fun x H' y => ?_⟩
    obtain ⟨e3, d, hd, r⟩ := w3 i x H' hlt y
    obtain ⟨k, hk⟩ : ∃ k, ks[i]? = some k := ⟨_, List.getElem?_eq_getElem hlt⟩
    have hdk : d = .str k := by
      rw [List.getElem?_map, hk] at hd
      cases hd
      rfl
    subst hdk
    have hz' := e3.at hz rfl
    have fr : Fr K (owf [2]) (fun a => B a ∨ a = p) noA H' (L2.wipe σ [8]) (wipeD (rhoT (recD ks rs w) none none none none) [8]) := ((fr1.into hp (e2.trans e3) ⟨_, hz', rfl⟩).wipe [8])
    have rm' : Rm H' 0 := ((rm.ex0 e1).ex0 e2).ex0 e3
    refine gpt_of fr (R := fun ρ => ρ = (wipeD (rhoT (recD ks rs w) none none none none) [8]).set 8 (some (.str k))) (fun i hi => ?_) r rfl fun σ2 ρ2 hr f2 hwp => ⟨(hwp [8] fun i hi => hi).trans (wipe_wipe fun i hi => hi), _, _, ρ2, fun _ => False, fun b => b = true, ⟨f2, rm', xok0⟩, rfl, fun b hb H3 e4 => ?_⟩
    · obtain rfl := List.mem_singleton.mp hi
      rfl
    subst hb
    have e4 : Ex 0 H' H3 := e4
    subst hr
    refine ⟨_, _, _, fun _ => False, fun d => d = .str k, ⟨f2.ex e4, rm'.ex0 e4, xok0⟩, ⟨_, rfl, rfl⟩, fun dx hx v H4 e5 r5 => ?_⟩
    subst hx
    have hv : v = .str k := rb_str r5.1
    subst hv
    intro u hu
    have e5 : Ex 0 H3 H4 := e5
    have ee : Ex 0 H1 H4 := by simpa using ((e2.trans e3).trans e4).trans e5
    have hz4 : H4 p = some (.dK (kz (ks.take i) bs)) := e5.at (e4.at hz' rfl) rfl
    have up : p ≠ u := fun z => by rw [z, hu] at hz4; cases hz4
    have kn : k ∉ ks.take i := fun hm => by
      obtain ⟨j, hj⟩ := List.getElem?_of_mem hm
      have hjl : j < i := by
        have := (List.getElem?_eq_some_iff.mp hj).1
        rw [List.length_take] at this
        omega
      rw [List.getElem?_take_of_lt hjl] at hj
      have := (List.getElem?_inj (List.getElem?_eq_some_iff.mp hj).1 nd).mp (hj.trans hk.symm)
      omega
    have tk : ks.take (i + 1) = ks.take i ++ [k] := by
      rw [List.take_succ, hk]
      rfl
    have pk : putK (kz (ks.take i) bs) (.inr k) (.ref u) = kz (ks.take (i + 1)) (bs ++ [u]) := by
      unfold putK
      rw [if_neg (by rw [kz_any kn]; exact Bool.false_ne_true), tk, kz_snoc (by rw [List.length_take, hbl]; omega)]
    have un : ∀ b ∈ bs, b ≠ u := fun b hb z => by
      have := e5.at (e4.at (e3.at (hbs b hb).2.2 rfl) rfl) rfl
      rw [z, hu] at this
      cases this
    refine ⟨kz (ks.take i) bs, .inr k, rfl, by rw [upd_ne up]; exact hz4, ?_, bs ++ [u], by rw [List.length_append, hbl]; rfl, ex_upd hp (ex_upd (ee.none hu) ee), by rw [upd_same, pk], ?_, fun b hb => ?_⟩
    · have := kz_len (ks := ks.take i) (bs := bs)
      rw [List.length_take] at this
      rw [sizeLine_eq]
      omega
    · rw [List.nodup_append]
      exact ⟨hnd, by simp, fun a ha b hb => by rw [List.mem_singleton.mp hb]; exact un a ha⟩
    · rcases List.mem_append.mp hb with hb | hb
      · obtain ⟨b1, b2, b3⟩ := hbs b hb
        exact ⟨b1, b2, by rw [upd_ne b2, upd_ne (un b hb)]; exact e5.at (e4.at (e3.at b3 rfl) rfl) rfl⟩
      · rw [List.mem_singleton.mp hb]
        exact ⟨ee.none hu, Ne.symm up, by rw [upd_ne (Ne.symm up), upd_same]⟩
  · have e : i = ks.length := by omega
    subst e
    rw [List.take_length] at hz
    have eh : Ex 0 H H2 := by simpa using e1.trans e2
    exact .inl ⟨w2, q p bs H2 eh (e1.none hp) (fun b hb => e1.none (hbs b hb).1) ⟨hz, hbl, hnd, fun hm => (hbs p hm).2.1 rfl, fun j b k hj hk => (hbs b (List.mem_of_getElem? hj)).2.2⟩⟩
theorem Reg.ex {H H' : Hp} {a : Addr} {ks : List Str} {bs : List Addr} {g : Str → List Key} (r : Reg H a ks bs g) (e : Ex 0 H H') : Reg H' a ks bs g :=
  ⟨e.at r.out rfl, r.len, r.nd, r.na, fun j b k h1 h2 => e.at (r.inn j b k h1 h2) rfl⟩
theorem eks_cost : dcE T eKs = 0 := by simp [eKs, dcE, dcEs]
/-- the dicts filled -/
theorem needs_fill {B : AP} {H0 H : Hp} {σ : L2.St} {ks : List Str} {rs : List Rn} {w : D} {a : Addr} {bs : List Addr} {En : Ends} (f : SI K (owf [2]) B (fun c => c = a ∨ c ∈ bs) H0 0 H σ (rhoT (recD ks rs w) none none none none)) (rm : Rm H0 0) (nd : ks.Nodup)
    (h1 : σ[1]? = some (some (.ref a))) (hr : Reg H a ks bs (fun _ => [])) (hg : ∀ r ∈ rs, r.gl ∈ ks ∧ r.pr.length + r.ex.length ≤ 100) (hrl : rs.length ≤ 100)
    (q : ∀ σ' H' x3 x4 x5 x6, SI K (owf [2]) B (fun c => c = a ∨ c ∈ bs) H0 0 H' σ' (rhoT (recD ks rs w) x3 x4 x5 x6) → σ'[1]? = some (some (.ref a)) → Reg H' a ks bs (needK rs) → En.nx σ' H') :
    tFor (rdI T K (owf [2]) W (.sub (.var 0) (.con (.int 1)))) (gPt K (.many [3, 4, 5, 3, 6, 3])) (tDrop (tBM K "dict" rDUpd (tDGet (tVar 1) (tVar 6)) (tCons (rdE T K (owf [2]) W eKs) tNil))) En σ H := by
  refine ⟨B, fun c => c = a ∨ c ∈ bs, _, fun _ => False, fun d => d = .tup (rs.map Rn.d), ⟨f.fr, rm.ex0 f.ex, xok0⟩, ⟨_, rfl, _, rfl, rfl⟩, fun w hw => ?_⟩
  subst hw
  refine ⟨rs.map Rn.d, rfl, fun J C H1 e1 wk cst hC _ => ?_⟩
  have e1 : Ex 0 H H1 := e1
  have f1 : SI K (owf [2]) B (fun c => c = a ∨ c ∈ bs) H0 0 H1 σ (rhoT (recD ks rs w) none none none none) := f.ext e1
  have lr : (rs.map Rn.d).length = rs.length := List.length_map _
  have cw : Walk J rs.length (fun H => C (U B (fun c => c = a ∨ c ∈ bs)) H) (fun i H x H' => Ex 0 H H' ∧ ∃ d, (rs.map Rn.d)[i]? = some d ∧ Rep K (U B (fun c => c = a ∨ c ∈ bs)) H' d x) :=
    ⟨fun i H hi h => (wk _ H h).1 i (by rw [lr]; exact hi), fun H h => by rw [← lr]; exact (wk _ H h).2.1, fun i H x H' hi h y => (wk _ H h).2.2 i x H' (by rw [lr]; exact hi) y⟩
  refine for_it cw (fun i σ' H' => ∃ x3 x4 x5 x6, SI K (owf [2]) B (fun c => c = a ∨ c ∈ bs) H0 0 H' σ' (rhoT (recD ks rs w) x3 x4 x5 x6) ∧ Stp B (fun c => c = a ∨ c ∈ bs) H1 (fun c => c = a ∨ c ∈ bs) H' ∧ σ'[1]? = some (some (.ref a)) ∧ Reg H' a ks bs (fun k => (rs.take i).foldl (need1 k) []))
    ⟨none, none, none, none, f1, .refl, h1, hr.ex e1⟩ (fun i σ' H' _ h => ?_) (fun i x σ' H' H'' hi h y => ?_) (fun σ' H' h => ?_)
  · obtain ⟨_, _, _, _, _, s', _⟩ := h
    exact cst.kp rfl _ _ _ _ hC s'.keeps s'.gr
  · obtain ⟨x3, x4, x5, x6, f', s', g1, r'⟩ := h
    obtain ⟨e2, d, hd, r⟩ := y
    obtain ⟨rn, hrn⟩ : ∃ rn, rs[i]? = some rn := ⟨_, List.getElem?_eq_getElem hi⟩
    have hdr : d = rn.d := by
      rw [List.getElem?_map, hrn] at hd
      cases hd
      rfl
    subst hdr
    obtain ⟨hgk, hgl⟩ := hg rn (List.mem_of_getElem? hrn)
    have f2 : SI K (owf [2]) B (fun c => c = a ∨ c ∈ bs) H0 0 H'' σ' (rhoT (recD ks rs w) x3 x4 x5 x6) := f'.ext e2
    refine gpt_of f2.fr (R := fun ρ => ρ = rhoT (recD ks rs w) (some rn.fc) (some (.tup (rn.pr.map .str))) (some (.tup (rn.ex.map .str))) (some (.str rn.gl))) (fun i hi => ?_) r ⟨_, rfl, rfl, rfl⟩ fun σ2 ρ2 hρ fr2 hwp => ?_
    · have : i ∈ [3, 4, 5, 3, 6, 3] := hi
      simp only [List.mem_cons, List.not_mem_nil, or_false] at this
      rcases this with z | z | z | z | z | z <;> rw [z] <;> rfl
    subst hρ
    have g2 : σ2[1]? = some (some (.ref a)) := by
      have q1 := hwp [3, 4, 5, 3, 6, 3] fun i hi => hi
      have q2 : (L2.wipe σ2 [3, 4, 5, 3, 6, 3])[1]? = (L2.wipe σ' [3, 4, 5, 3, 6, 3])[1]? := by rw [q1]
      rw [wipe_at (by decide), wipe_at (by decide)] at q2
      rw [q2]
      exact g1
    obtain ⟨y6, hy6, ry6⟩ := fr2.fz 6 (.str rn.gl) rfl rfl
    have ey : y6 = .str rn.gl := ry6
    subst ey
    have f3 : SI K (owf [2]) B (fun c => c = a ∨ c ∈ bs) H0 0 H'' σ2 (rhoT (recD ks rs w) (some rn.fc) (some (.tup (rn.pr.map .str))) (some (.tup (rn.ex.map .str))) (some (.str rn.gl))) := ⟨fr2, f2.ex, f2.fresh, f2.oldB⟩
    have r2 := r'.ex e2
    obtain ⟨j, hj⟩ := List.getElem?_of_mem hgk
    have hjl := (List.getElem?_eq_some_iff.mp hj).1
    obtain ⟨b, hb⟩ : ∃ b, bs[j]? = some b := ⟨_, List.getElem?_eq_getElem (by rw [r2.len]; exact hjl)⟩
    have hbm := List.mem_of_getElem? hb
    have hin := r2.inn j b _ hb hj
    refine ⟨_, g2, _, hy6, a, .ref b, rfl, .inl ⟨kz ks bs, .inr rn.gl, .inl r2.out, rfl, (kz_val nd hj hb).symm⟩, .inr (.inr (.inl ⟨rfl, .inl ⟨_, hin⟩⟩)), B, fun c => c = a ∨ c ∈ bs, _, fun _ => False, fun d => d = .dic (kt1 rn.ks), ⟨fr2, by rw [eks_cost]; exact rm.ex0 f3.ex, xok0⟩, eks_wp hgl rfl, fun dd hdd v H3 e3 r3 => ?_⟩
    rw [eks_cost] at e3
    subst hdd
    obtain ⟨p, rfl, hp, us, hu, ru⟩ := r3.2.2 rfl
    obtain rfl := rep_kt ru
    have hin3 := e3.at hin rfl
    have nbp : b ≠ p := fun z => by rw [z, hp] at hin; cases hin
    have hrt : ∀ r ∈ rs.take i, (r.pr ++ r.ex).length ≤ 100 := fun r hr => by
      rw [List.length_append]
      exact (hg r (List.mem_of_mem_take hr)).2
    refine ⟨b, p, _, _, rfl, rfl, nbp, hin3, hu, ?_, ?_⟩
    · have k1 := need_len 100 (rs.take i) rn.gl [] hrt
      have k2 := ks_len rn
      rw [List.length_append] at k2
      have k3 : (rs.take i).length ≤ rs.length := by rw [List.length_take]; omega
      have k4 : (rs.take i).length * 100 ≤ 100 * 100 := Nat.mul_le_mul_right _ (Nat.le_trans k3 hrl)
      show (kv1 _).length + (kv1 _).length ≤ sizeLine
      rw [show (kv1 ((rs.take i).foldl (need1 rn.gl) [])).length = _ from List.length_map _, show (kv1 rn.ks).length = _ from List.length_map _, sizeLine_eq]
      simp only [List.length_nil] at k1
      omega
    · rw [fold_kv]
      have f4 : SI K (owf [2]) B (fun c => c = a ∨ c ∈ bs) H0 0 H3 σ2 (rhoT (recD ks rs w) (some rn.fc) (some (.tup (rn.pr.map .str))) (some (.tup (rn.ex.map .str))) (some (.str rn.gl))) := f3.ext e3
      obtain ⟨f5, s5⟩ := f4.updR (o' := .dK (kv1 (rn.ks.foldl addK ((rs.take i).foldl (need1 rn.gl) [])))) (.inr hbm) hin3 rfl rfl rfl nw_rho
      have r3 := r2.ex e3
      have nab : a ≠ b := fun z => r3.na (by rw [z]; exact hbm)
      have tk : rs.take (i + 1) = rs.take i ++ [rn] := by
        rw [List.take_succ, hrn]
        rfl
      refine ⟨_, _, _, _, f5, (s'.trans (.of e2)).trans ((Stp.of e3).trans s5), g2, ⟨by rw [upd_ne nab]; exact r3.out, r3.len, r3.nd, r3.na, fun j' b' k' h1' h2' => ?_⟩⟩
      rw [tk, List.foldl_append]
      show _ = some (HO.dK (kv1 (need1 k' ((rs.take i).foldl (need1 k') []) rn)))
      by_cases eb : b' = b
      · subst eb
        have ej : j' = j := (List.getElem?_inj (List.getElem?_eq_some_iff.mp h1').1 r3.nd).mp (h1'.trans hb.symm)
        subst ej
        rw [hj] at h2'
        cases h2'
        rw [upd_same]
        unfold need1
        rw [if_pos rfl]
      · have nk : rn.gl ≠ k' := fun z => by
          subst z
          have ej : j' = j := (List.getElem?_inj (List.getElem?_eq_some_iff.mp h2').1 nd).mp (h2'.trans hj.symm)
          subst ej
          rw [hb] at h1'
          cases h1'
          exact eb rfl
        rw [upd_ne eb, r3.inn j' b' k' h1' h2']
        unfold need1
        rw [if_neg nk]
  · obtain ⟨x3, x4, x5, x6, f', s', g1, r'⟩ := h
    rw [List.take_length] at r'
    exact q σ' H' x3 x4 x5 x6 f' g1 r'
end

/-- what in_turn does: the first two statements done, the rest by its text -/
def mTurn (T : Tb) (b : List S) : DSp := fun ds Q X => ∃ (ks : List Str) (rs : List Rn) (w : D), ds = [recD ks rs w] ∧ ks.Nodup ∧ ks.length ≤ 100 ∧ rs.length ≤ 100 ∧ (∀ r ∈ rs, r.gl ∈ ks ∧ r.pr.length + r.ex.length ≤ 100) ∧
  ∀ x3 x4 x5 x6, wpSs T b [some (recD ks rs w), some (.dic (ks.map fun k => (.inr k, .dic (kt1 (needK rs k))))), none, x3, x4, x5, x6, none, none, none] { nx := fun _ => False, rt := Q, bk := fun _ => False, ct := fun _ => False, xc := X }
theorem rep_needs {K : PySem.W.Frag} {A : AP} {H : Hp} {g : Str → List Key} : ∀ {ks : List Str} {bs : List Addr}, bs.length = ks.length → (∀ b ∈ bs, ¬ A b) → (∀ (j : Nat) (b : Addr) (k : Str), bs[j]? = some b → ks[j]? = some k → H b = some (.dK (kv1 (g k)))) →
    RepK K A H (ks.map fun k => (.inr k, .dic (kt1 (g k)))) (kz ks bs)
  | [], [], _, _, _ => rfl
  | [], _ :: _, h, _, _ => by cases h
  | _ :: _, [], h, _, _ => by cases h
  | k :: ks, b :: bs, h, na, hh => ⟨.ref b, kz ks bs, rfl, ⟨b, _, rfl, na b List.mem_cons_self, .inl (hh 0 b k rfl rfl), kt_rep⟩, rep_needs (Nat.succ.inj h) (fun b hb => na b (List.mem_cons_of_mem _ hb)) fun j b' k' h1 h2 => hh (j + 1) b' k' (by simpa using h1) (by simpa using h2)⟩
section
variable {T : Tb} {L : Nat}
/-- in_turn's text: what is checked -/
def turnB (T : Tb) (scope : Scope) : List Stmt → Option (List Stmt)
  | .Assign [.Name x _] (.DictComp kx (.Dict [] [] _) [⟨tx, ix, [], 0⟩] sc1 _) _ :: .For tt ix2 [.Expr (.Call (.Attribute (.Subscript (.Name x' _) (.Name y _) _) m p8) [z] [] p9) _] [] _ :: rest =>
    if (decide (x = "needed") && (locB scope "needed" && (noSet ix && (tupT (.sub (.var 0) (.con (.int 0))) tx && (blkC Nt scope sc1 [("one", 8)] && (mE T Nt [2] .itr scope (.sub (.var 0) (.con (.int 0))) ix && (mPt Nt [2] (some (sc1, [8])) (relS sc1 scope) (.one 8) tx && (mE T Nt [2] .val (relS sc1 scope) (.var 8) kx
      && (decide (x' = "needed") && (decide (m = "update") && (noSet ix2 && (tupT (.sub (.var 0) (.con (.int 1))) tt && (mE T Nt [2] .itr scope (.sub (.var 0) (.con (.int 1))) ix2 && (mPt Nt [2] none scope (.many [3, 4, 5, 3, 6, 3]) tt
      && (visB scope "needed" && (visB scope "statement" && (noStar z && (mE T Nt [2] .val scope eKs z && ((p8.endLine == p9.line) && decide (y = "statement")))))))))))))))))))) = true then some rest else none
  | _ => none
theorem turn_fn {P : Program} {w : World} {K : PySem.W.Frag} {mg : Str → Option Value} {base : Heap} (tab : TOk P w K mg base T L) {x qual : Str} {params : Arguments} {body rest : List Stmt} {scope : Scope} {kws : List (Str × V)} {f : Addr} {fd : FuncData}
    (F : FunD K x qual params body scope [] kws f fd) (hs : scB Nt (["record"] : List Str) scope = true) (hc : turnB T scope body = some rest) {b : List S} (hr : mSs T Nt [2] scope b rest = true) (hz : dcSs T b = 0) :
    FnG P w K mg base (L + 1) f fd (["record"] : List Str) (spOf K 1 0 (mTurn T b)) := by
  have Sc := sc_of hs
  unfold turnB at hc
  split at hc
  case h_2 => cases hc
  rename_i x1 p1 kx p2 tx ix sc1 p3 p4 tt ix2 x2 p5 y p6 p7 m p8 z p9 p10 p11 rest'
  split at hc
  case isFalse => cases hc
  rename_i hh
  cases hc
  obtain ⟨a1, k⟩ := and2 hh
  obtain ⟨a2, k⟩ := and2 k
  obtain ⟨a3, k⟩ := and2 k
  obtain ⟨a4, k⟩ := and2 k
  obtain ⟨a5, k⟩ := and2 k
  obtain ⟨a6, k⟩ := and2 k
  obtain ⟨a7, k⟩ := and2 k
  obtain ⟨a8, k⟩ := and2 k
  obtain ⟨a9, k⟩ := and2 k
  obtain ⟨a10, k⟩ := and2 k
  obtain ⟨a11, k⟩ := and2 k
  obtain ⟨a12, k⟩ := and2 k
  obtain ⟨a13, k⟩ := and2 k
  obtain ⟨a14, k⟩ := and2 k
  obtain ⟨a15, k⟩ := and2 k
  obtain ⟨a16, k⟩ := and2 k
  obtain ⟨a17, k⟩ := and2 k
  obtain ⟨a18, k⟩ := and2 k
  obtain ⟨a19, a20⟩ := and2 k
  obtain rfl := of_decide_eq_true a1
  obtain rfl := of_decide_eq_true a9
  obtain rfl := of_decide_eq_true a10
  obtain rfl := of_decide_eq_true a20
  refine FnG.body F Sc (fun vs H Q E h => ?_) fun cdv A outer s H vs Q E hro hgu h => ?_
  · obtain ⟨B, ds, Qd, Xd, hl, _⟩ := h
    exact hl
  generalize hW : (fun (cls : Value) (d : Option Addr) (_ : L2.St) (H : Hp) => E cls d H : WX) = W
  generalize hX : cxOf (L2N.CX P w) P w K mg base Nt qual scope f cdv A outer s H E = X
  have G : GoodS T L W X := by
    rw [← hX, ← hW]
    exact ⟨⟨Sc.nd, rfl, hro, hgu, L2N.takes_of rfl rfl rfl rfl, tab⟩, passes_of rfl, fun _ => rfl, Sc.kind, rfl, rfl⟩
  have eN : X.N = Nt := by rw [← hX]; rfl
  have eS : X.env.scope = scope := by rw [← hX]; rfl
  have eK : X.K = K := by rw [← hX]; rfl
  have n1 : X.N[1]? = some ("needed" : Str) := by rw [eN]; rfl
  have n6 : X.N[6]? = some ("statement" : Str) := by rw [eN]; rfl
  have lc : Loc X.env.scope "needed" := by rw [eS]; exact loc_of a2
  have hi1 := sndE (T := T) (L := L) (.sub (.var 0) (.con (.int 0))) .itr scope ix a6 W X G.g eN eS tx a4
  have hi2 := sndE (T := T) (L := L) (.sub (.var 0) (.con (.int 1))) .itr scope ix2 a13 W X G.g eN eS tt a12
  have hzz : PE X z (rdE T X.K (owf [2]) W eKs) := sndE (T := T) (L := L) eKs .val scope z a18 W X G.g eN eS
  have pgx : ∀ s H C cl fp, PG (X.blk s H sc1 (compEnvC sc1 cl C X.env) fp) tx (gPt X.K (.one 8)) := fun s H C cl fp => pg_pt (X := X.blk s H sc1 (compEnvC sc1 cl C X.env) fp) G.g.calm eN G.g.nd (by show relS sc1 X.env.scope = _; rw [eS]) fnof_blk a7
  have pts : ∀ s H C cl fp, PTs (X.blk s H sc1 (compEnvC sc1 cl C X.env) fp) [] (rdTs T X.K (owf [2]) W0 []) := fun s H C cl fp => (sndEs (T := T) (L := L) [] .tst (relS sc1 scope) [] rfl W0 (X.blk s H sc1 (compEnvC sc1 cl C X.env) fp) (G.g.blk ..) eN (by show relS sc1 X.env.scope = _; rw [eS])).2 (by decide) rfl
  have pek : ∀ s H C cl fp, PE (X.blk s H sc1 (compEnvC sc1 cl C X.env) fp) kx (rdE T X.K (owf [2]) W0 (.var 8)) := fun s H C cl fp => sndE (T := T) (L := L) (.var 8) .val (relS sc1 scope) kx a8 W0 (X.blk s H sc1 (compEnvC sc1 cl C X.env) fp) (G.g.blk ..) eN (by show relS sc1 X.env.scope = _; rw [eS])
  have bk : BlkOk X.N X.env.scope sc1 [(("one" : Str), 8)] := by rw [eN, eS]; exact blkOk_by a5
  have S1 : PS X (.Assign [.Name "needed" p1] (.DictComp kx (.Dict [] [] p2) [⟨tx, ix, [], 0⟩] sc1 p3) p4) (tAsg (tDc (rdI T X.K (owf [2]) W (.sub (.var 0) (.con (.int 0)))) (gPt X.K (.one 8)) (rdTs T X.K (owf [2]) W0 []) (rdE T X.K (owf [2]) W0 (.var 8)) tDNewK [8]) (gName 1)) := by
    cases hb : swB X.env.scope sc1 "needed" p1 p3 with
    | true => exact ps_setDc (own := [("one", 8)]) G.g.calm G.g.nd n1 (of_decide_eq_true (and2 (show (decide (X.env.scope.names.lookup ("needed" : Str) = some .local) && _) = true from hb)).1) (by rw [sw_dc G.kind, hb]) hi1 bk pgx pts pek (fun _ _ _ _ _ => pe_dnewK) (fold_of a3)
    | false => exact ps_set G.g.nd n1 lc (pe_dc (own := [("one", 8)]) G.g.calm G.g.nd hi1 bk pgx pts pek (fun _ _ _ _ _ => pe_dnewK) (fold_of a3)) (by rw [sw_dc G.kind, hb]) (.inl (G.fn _))
  have S2 : PS X (.For tt ix2 [.Expr (.Call (.Attribute (.Subscript (.Name "needed" p5) (.Name "statement" p6) p7) "update" p8) [z] [] p9) p10] [] p11) (tFor (rdI T X.K (owf [2]) W (.sub (.var 0) (.con (.int 1)))) (gPt X.K (.many [3, 4, 5, 3, 6, 3])) (tDrop (tBM X.K "dict" rDUpd (tDGet (tVar 1) (tVar 6)) (tCons (rdE T X.K (owf [2]) W eKs) tNil)))) :=
    ps_for G.po G.g.calm hi2 (pg_pt G.g.calm eN G.g.nd eS (show FnOf X none from G.fn) a14) (pss_one (ps_expr (pe_bm PySem.F.plainAttrs_dict PySem.F.slot_dict_update PySem.F.type_dict_update mt_upd (pe_dget (units1 G.g) (pe_var n1 (by rw [eS]; exact vis_of a15)) (pe_var n6 (by rw [eS]; exact vis_of a16)) (nosl_of rfl)) (pa_cons hzz pa_nil (star_of a17)) rfl (by rw [star_of a17]; rfl) a19 (star_of a17) rfl) rfl)) (fold_of a11)
  refine ⟨_, pss_cons S1 (pss_cons S2 (sndSs b scope rest hr W X G eN eS)), ?_⟩
  obtain ⟨B, ds, Qd, Xd, hl, hR, hB, r, ⟨ks, rs, wd, rfl, nd, hk, hrl, hg, hq⟩, hf, hx⟩ := h
  rw [eK]
  have f0 : SI K (owf [2]) B noA H 0 H (L2.start Nt vs) (rhoT (recD ks rs wd) none none none none) := fr_start hB r fun i hi => by rw [own2 hi]; exact (by decide : 1 ≤ 2)
  refine needs_make f0 hR nd hk fun a bs H1 e1 ha hb reg => ?_
  have f1 := f0.region (R := fun c => c = a ∨ c ∈ bs) e1 (fun b hb' => hb'.elim (fun z => by rw [z]; exact ha) (hb b)) (fun b hb' => hb'.elim (fun z => by rw [z]; exact ⟨_, reg.out, rfl⟩) fun z => by
    obtain ⟨j, hj⟩ := List.getElem?_of_mem z
    have hjl := (List.getElem?_eq_some_iff.mp hj).1
    exact ⟨_, reg.inn j b _ hj (List.getElem?_eq_getElem (by rw [← reg.len]; exact hjl)), rfl⟩) nw_rho
  have hlen : 1 < (L2.start Nt vs).length := by rw [f0.fr.len]; exact (by decide : 1 < 10)
  have f2 : SI K (owf [2]) B (fun c => c = a ∨ c ∈ bs) H 0 H1 ((L2.start Nt vs).set 1 (some (.ref a))) (rhoT (recD ks rs wd) none none none none) := ⟨f1.fr.drop 1 (some (.ref a)), f1.ex, f1.fresh, f1.oldB⟩
  refine needs_fill f2 hR nd (List.getElem?_set_self hlen) reg hg hrl fun σ' H' x3 x4 x5 x6 f' g1 reg' => ?_
  have nb : ∀ c, (c = a ∨ c ∈ bs) → ¬ U B noA c := fun c hc z => by
    rcases z with z | z
    · refine f0.oldB c z ?_
      rcases hc with hc | hc
      · rw [hc]; exact ha
      · exact hb c hc
    · exact z
  have rp : Rep K (U B noA) H' (.dic (ks.map fun k => (.inr k, .dic (kt1 (needK rs k))))) (.ref a) := ⟨a, _, rfl, nb a (.inl rfl), .inl reg'.out, rep_needs reg'.len (fun c hc => nb c (.inr hc)) reg'.inn⟩
  have f3 := (f'.free nw_rho).set (i := 1) rfl rp
  rw [set_id g1] at f3
  have z : 0 + dcSs T b ≤ 0 := by rw [hz]; exact Nat.le_refl _
  refine ⟨B, noA, H, 0, 0, 0, 0, 0, _, _, ⟨f3, z, z, z, z, hR⟩, hq x3 x4 x5 x6, ⟨fun _ h => h.elim, fun _ h => h.elim, fun _ h => h.elim, fun d h v H' e r => hf d h v H' e r, fun x h cls d σ' H' e i => ?_⟩⟩
  rw [← hW]
  exact hx x h cls d H' e i
end
end DL

/-! F5: the table grown def by def; the head's own hook; the end -/
namespace DL
open PySem PySem.Spec PyProof.Rows L2 Evl

/-! ### the table -/
def Tb.add (T : Tb) (f : Str) (e : Ent) : Tb := { T with fn := fun x => if x = f then some e else T.fn x }
section
variable {P : Program} {w : World} {K : PySem.W.Frag} {mg : Str → Option Value} {base : Heap} {T : Tb} {L : Nat}
theorem TOk.add (t : TOk P w K mg base T L) {f : Str} {e : Ent} {fa : Addr} {fd : FuncData} {ps : List Str} (hp : ps.length = e.n) (hk : e.k ≤ L + 1) (F : FnG P w K mg base e.k fa fd ps (spOf K e.n e.c e.m)) (hm : mg f = some (.ref fa)) (kp : PySem.W.keepIn K (.ref fa) = true) (hb : Binds K fd ps []) : TOk P w K mg base (T.add f e) (L + 1) := by
  refine ⟨fun g e' h => ?_, t.glob, t.exc, t.free, t.set, t.range, t.enum, t.zip, t.dict, fun h => ⟨Nat.succ_pos L, (t.err h).2⟩, t.fld, fun c m e h => ?_, t.tab, fun c e h => ?_⟩
  rotate_left
  · obtain ⟨a, b, ps, h1, h2, h3⟩ := t.meth c m e h
    exact ⟨a, b, ps, h1, Nat.le_succ_of_le h2, h3⟩
  · obtain ⟨a, b, ps, sp, h2, h3⟩ := t.new c e h
    exact ⟨a, b, ps, sp, Nat.le_succ_of_le h2, h3⟩
  have h' : (if g = f then some e else T.fn g) = some e' := h
  split at h'
  · rename_i eg
    cases h'
    rw [eg]
    exact ⟨fa, fd, ps, hp, hk, F, hm, kp, hb⟩
  · obtain ⟨fa', fd', ps', h1, h2, h3⟩ := t.fn g e' h'
    exact ⟨fa', fd', ps', h1, Nat.le_succ_of_le h2, h3⟩
theorem spOf_imp {n c : Nat} {m m' : DSp} (h : ∀ ds Q X, m ds Q X → m' ds Q X) (vs : List V) (H : Hp) (Q : VK) (E : XK) (q : spOf K n c m vs H Q E) : spOf K n c m' vs H Q E := by
  obtain ⟨B, ds, Qd, Xd, h1, h2, h3, h4, h5, h6⟩ := q
  exact ⟨B, ds, Qd, Xd, h1, h2, h3, h4, h _ _ _ h5, h6⟩
/-- a def by its text, under a promise of one's own -/
theorem fn_add (t : TOk P w K mg base T L) {x : Str} {params : Arguments} {body : List Stmt} {scope : Scope} {kws : List (Str × V)} {f : Addr} {fd : FuncData} (F : FunD K x x params body scope [] kws f fd) (hm : mg x = some (.ref f)) (N : List Str) (ow : List Nat) (b : List S) (ps : List Str) (m : DSp)
    (hb : Binds K fd ps []) (hs : scB N ps scope = true) (hc : mSs T N ow scope b body = true) (ho : (ow.all fun i => decide (ps.length ≤ i)) = true) (hd : ∀ ds Q X, m ds Q X → wpF T N.length b ds Q X) : TOk P w K mg base (T.add x ⟨L + 1, ps.length, dcSs T b, m⟩) (L + 1) :=
  t.add (e := ⟨L + 1, ps.length, dcSs T b, m⟩) rfl (Nat.le_refl _) ((fn_rule t F hs hc ho).imp (spOf_imp hd)) hm F.kp hb
end
/-! ### facts by a Bool -/
section
variable {K : PySem.W.Frag}
def excCB (K : PySem.W.Frag) (c : Str) : Bool := decide (PySem.W.findIn K (.ref (He.ga K c)) "__getattribute__" = some (some (.builtin "BaseException.__getattribute__"))) && (decide (PySem.W.findIn K (.ref (He.ga K c)) "__getattr__" = some none) && (decide (PySem.W.subIn K (.ref (He.ga K c)) (.type "BaseException") = some true)
  && (PySem.W.hasDictIn K (He.ga K c) && (decide (PySem.W.findIn K (.ref (He.ga K c)) "__class__" = some (some (.builtin "object.__class__"))) && (decide (PySem.W.specialIn K (.builtin "object.__class__") "__get__" = some (some (.builtin "getset_descriptor.__get__"))) && (decide (PySem.W.takesIn K (.builtin "object.__class__") = some true) && decide (PySem.W.mroIn K (He.ga K c) (.type "object") = some true)))))))
def errCB (K : PySem.W.Frag) (c : Str) (j : Nat) : Bool := excCB K c && (decide (PySem.W.kitOne K (.ref (He.ga K c)) (.ref (He.ga K "NotAllowed")) = some (decide (j = 0))) && (decide (PySem.W.kitOne K (.ref (He.ga K c)) (.ref (He.ga K "TooLarge")) = some (decide (j = 1))) && (decide (PySem.W.kitOne K (.ref (He.ga K c)) (.ref (He.ga K "Missing")) = some (decide (j = 2)))
  && (decide (PySem.W.kitOne K (.ref (He.ga K c)) (.ref (He.ga K "BadPaper")) = some (decide (j = 3))) && (decide (PySem.W.kitOne K (.ref (He.ga K c)) (.ref (He.ga K "BadForm")) = some false) && decide (PySem.W.exmOne K (.ref (He.ga K c)) (.ref (He.ga K "SayError")) = some true))))))
theorem errC_of {c : Str} {j : Nat} (h : errCB K c j = true) : ErrC K c j ∧ PySem.W.exmOne K (.ref (He.ga K c)) (.ref (He.ga K "SayError")) = some true := by
  obtain ⟨h0, k⟩ := and2 h
  obtain ⟨h1, k⟩ := and2 k
  obtain ⟨h2, k⟩ := and2 k
  obtain ⟨h3, k⟩ := and2 k
  obtain ⟨h4, k⟩ := and2 k
  obtain ⟨h5, h6⟩ := and2 k
  obtain ⟨e0, k⟩ := and2 h0
  obtain ⟨e1, k⟩ := and2 k
  obtain ⟨e2, k⟩ := and2 k
  obtain ⟨e3, k⟩ := and2 k
  obtain ⟨e4, k⟩ := and2 k
  obtain ⟨e5, k⟩ := and2 k
  obtain ⟨e6, e7⟩ := and2 k
  exact ⟨⟨⟨of_decide_eq_true e0, of_decide_eq_true e1, of_decide_eq_true e2, e3, of_decide_eq_true e4, of_decide_eq_true e5, of_decide_eq_true e6, of_decide_eq_true e7⟩, of_decide_eq_true h1, of_decide_eq_true h2, of_decide_eq_true h3, of_decide_eq_true h4, of_decide_eq_true h5⟩, of_decide_eq_true h6⟩
def errsB (K : PySem.W.Frag) : Bool := errCB K "NotAllowed" 0 && (errCB K "TooLarge" 1 && (errCB K "Missing" 2 && errCB K "BadPaper" 3))
theorem exm_of (h : errsB K = true) (c t : Str) (e : errT c = some t) : PySem.W.exmOne K (.ref (He.ga K c)) (.ref (He.ga K "SayError")) = some true := by
  obtain ⟨h0, k⟩ := and2 h
  obtain ⟨h1, k⟩ := and2 k
  obtain ⟨h2, h3⟩ := and2 k
  unfold errT at e
  split at e
  · rename_i z; rw [z]; exact (errC_of h0).2
  · split at e
    · rename_i z; rw [z]; exact (errC_of h1).2
    · split at e
      · rename_i z; rw [z]; exact (errC_of h2).2
      · split at e
        · rename_i z; rw [z]; exact (errC_of h3).2
        · cases e
theorem excD_of {h : Heap} {mg : Str → Option Value} (X : K.In h) (G : h.Ns mainGlobals mg) {c : Str} (g : (He.Fa.glo c).ok K = true) (e : (He.Fa.exc c).ok K = true) : ExcD K mg c := by
  obtain ⟨h1, h2, h3, h4⟩ := He.exc_ok e
  exact ⟨⟨_, _, _, _, PySem.F.excBase_ValueError, h1⟩, He.glo_ok X G g, h2, h3, h4⟩
end
/-! ### the hook -/
abbrev AlM : Type := He.AlD × Bool × List (Option (List (Option (Str × Int))))
/-- tables of the top: where, keys and values -/
abbrev TabM : Type := Str × List (Str × Int)
def obsM (fa : List He.Fa) (fn : List He.DefD) (ex : PySem.W.Frag → Bool) (ts : List TabM) (K : PySem.W.Frag) : AlM := (He.obsD fa fn K, ex K, ts.map fun t => He.dicW K (He.ga K t.1))
def obsMG (n : Nat) (fa : List He.Fa) (fn : List He.DefD) (ex : PySem.W.Frag → Bool) (ts : List TabM) (g : Addr → Option Obj) : AlM := obsM fa fn ex ts (He.frG g (He.asD g n))
def TabsIn (ts : List TabM) (w : World) (K : PySem.W.Frag) : Prop := (ts.map fun t => He.dicW K (He.ga K t.1)) = ts.map fun t => some (He.keysIn w.params (t.2.map (·.1)))
theorem tabs_says {n : Nat} {fa : List He.Fa} {fn : List He.DefD} {ex : PySem.W.Frag → Bool} {ts : List TabM} {w : World} {g : Addr → Option Obj} (e : obsMG n fa fn ex ts g = (He.valD fn, true, ts.map fun t => some (He.keysIn w.params (t.2.map (·.1))))) : TabsIn ts w (He.frG g (He.asD g n)) :=
  show (obsMG n fa fn ex ts g).2.2 = _ by rw [e]
def hookM (n : Nat) (fa : List He.Fa) (fn : List He.DefD) (ex : PySem.W.Frag → Bool) (ts : List TabM) : PySem.W.Hook where
  α := AlM
  obs := fun s => obsMG n fa fn ex ts s.heap.get?
  val := fun w => (He.valD fn, true, ts.map fun t => some (He.keysIn w.params (t.2.map (·.1))))
  says := fun w h => ∃ K : PySem.W.Frag, K.In h ∧ He.SaysD fa fn K ∧ ex K = true ∧ TabsIn ts w K
  of := fun w _ e => ⟨_, He.frG_in, congrArg (fun z : AlM => z.1) e, congrArg (fun z : AlM => z.2.1) e, tabs_says e⟩
  keeps := fun _ _ _ ⟨K, hK, c⟩ k => ⟨K, PySem.W.Frag.In.keeps hK k, c⟩
/-- a table's values, as the head looks at them -/
def tabB (K : PySem.W.Frag) (t : TabM) : Bool := He.valsB K (He.ga K t.1) (t.2.map fun p => (p.1, .int p.2))
theorem mem_look {α : Type} : ∀ {l : List (Str × α)} {z : Str} {i : α}, l.lookup z = some i → (z, i) ∈ l
  | (k, v) :: r, z, i, h => by
    rw [List.lookup_cons] at h
    cases e : z == k with
    | true =>
      rw [e] at h
      cases h
      rw [eq_of_beq e]
      exact List.mem_cons_self
    | false =>
      rw [e] at h
      exact List.mem_cons_of_mem _ (mem_look h)
theorem no_look {α : Type} : ∀ {l : List (Str × α)} {z : Str}, l.lookup z = none → z ∉ l.map (·.1)
  | [], z, _ => by simp
  | (k, v) :: r, z, h => by
    rw [List.lookup_cons] at h
    cases e : z == k with
    | true =>
      rw [e] at h
      cases h
    | false =>
      rw [e] at h
      rw [List.map_cons, List.mem_cons]
      rintro (q | q)
      · exact (beq_eq_false_iff_ne.mp e) q
      · exact no_look h q
theorem keys_none {P : Params} {z : Str} : ∀ {es : List DictEntry} {ks : List Str}, es.map He.keyOf = He.keysIn P ks → z ∉ ks → es.find? (·.key.isStr z) = none ∧ es.any (·.refKey) = false
  | [], ks, _, _ => ⟨rfl, rfl⟩
  | e :: es, [], h, _ => by cases h
  | e :: es, k :: ks, h, hz => by
    have h : He.keyOf e :: es.map He.keyOf = some (k, PyData.keyHash P k) :: He.keysIn P ks := h
    injection h with h1 h2
    obtain ⟨i1, i2⟩ := keys_none h2 fun q => hz (List.mem_cons_of_mem _ q)
    have hk : ∃ t, e.key = .str k t := by
      unfold He.keyOf at h1
      split at h1
      · rename_i x t q
        obtain ⟨h5, _⟩ := Prod.mk.inj (Option.some.inj h1)
        exact ⟨t, by rw [q, h5]⟩
      · cases h1
    obtain ⟨t, hk⟩ := hk
    have n1 : e.key.isStr z = false := by
      rw [hk]
      exact beq_eq_false_iff_ne.mpr fun q => hz (by rw [← q]; exact List.mem_cons_self)
    have n2 : e.refKey = false := by
      unfold DictEntry.refKey
      rw [hk]
    refine ⟨?_, ?_⟩
    · rw [List.find?_cons, n1]
      exact i1
    · rw [List.any_cons, n2, i2]
      rfl
theorem tabs_at {ts : List TabM} {w : World} {K : PySem.W.Frag} (h : TabsIn ts w K) (i : Nat) {t : TabM} (hi : ts[i]? = some t) (hv : tabB K t = true) : TabAt K w (He.ga K t.1) t.2 := by
  have e2 : (ts.map fun t => He.dicW K (He.ga K t.1))[i]? = (ts.map fun t => some (He.keysIn w.params (t.2.map (·.1))))[i]? := by rw [show _ = _ from h]
  rw [List.getElem?_map, List.getElem?_map, hi] at e2
  have e3 : He.dicW K (He.ga K t.1) = some (He.keysIn w.params (t.2.map (·.1))) := Option.some.inj e2
  obtain ⟨es, n, D⟩ := He.dicW_ok e3
  refine ⟨es, n, D, fun z => ?_⟩
  cases lk : t.2.lookup z with
  | some i =>
    obtain ⟨u, h1, h2⟩ := He.valsB_ok hv (q := (z, .int i)) (List.mem_map.mpr ⟨_, mem_look lk, rfl⟩)
    obtain ⟨tk, rfl⟩ := h2
    exact ⟨_, h1, tk, rfl⟩
  | none =>
    have e4 : es.toList.map He.keyOf = He.keysIn w.params (t.2.map (·.1)) := by
      unfold He.dicW at e3
      rw [D.at_] at e3
      have e5 : (match decide (("dict" : String) = "dict") && ((#[] : Array (Option Value)).isEmpty && !(He.ga K t.1 == sysModules)) with
        | true => some (es.toList.map He.keyOf)
        | false => none) = some (He.keysIn w.params (t.2.map (·.1))) := e3
      rw [D.low] at e5
      exact Option.some.inj e5
    obtain ⟨k1, k2⟩ := keys_none e4 (no_look lk)
    refine ⟨none, ?_, rfl⟩
    unfold PySem.W.nsIn
    rw [D.at_]
    show (match es.toList.find? (·.key.isStr z) with
      | some e => some (some e.val)
      | none => if es.toList.any (·.refKey) then none else some none) = _
    rw [k1]
    show (if es.toList.any (·.refKey) = true then none else some none) = _
    rw [k2]
    rfl
theorem obsM_eq {n : Nat} {fa : List He.Fa} {fn : List He.DefD} {ex : PySem.W.Frag → Bool} {ts : List TabM} {g : Addr → Option Obj} {s : Shared} (h : ∀ a, g a = s.heap.get? a) : obsMG n fa fn ex ts g = (hookM n fa fn ex ts).obs s := by
  have e : g = s.heap.get? := funext h
  rw [e]
  rfl
/-! ### the end -/
theorem walkM {l : PySem.W.OpenLaw} {n k c : Nat} {q : Program} {loose : List Str} {XP : (Str → Option Value) → Heap → Prop} {YP : World → Heap → Prop} {d : DefRec} {x : Str} {m : DSp} (hn : l.most = some n) (hn2 : n ≤ sizeLine) (hdf : d.params.defaults = []) (hr : Room k callerA) (hc : c ≤ big)
    (F : ∀ (w : World) (mg : Str → Option Value) (fa : Addr) (h : Heap), YP w h → h.Ns mainGlobals mg → mg d.name = some (.ref fa) →
      ∃ (K : PySem.W.Frag) (fd : FuncData), K.In h ∧ (∀ (s : Shared) (u : Value), BindsTo s fd ⟨[u], []⟩ [(x, u)]) ∧ ∀ base : Heap, K.In base → base.Ns mainGlobals mg → FnG l.prog w K mg base k fa fd [x] (spOf K 1 c m))
    (hm : ∀ ns : List Int, ns.length ≤ n → m [.scr ns] (fun d => d = .bl true) fun _ => False) : PySem.W.WalkO q loose XP YP l.row.toRowW d [] (fun f vs => PySem.call f vs) := by
  refine Att.attach_call hn hdf fun w s₀ s₁ mg mb fa o pm cd doc a vs ns G Y ho hd hcd hmg hobj hints hlen hg => ?_
  obtain ⟨K, fd, KX, hb, hF⟩ := F w mg fa _ Y G.T.g hmg
  refine callLaw KX G.T.g G.T.b G.T.builtins G.T.nolimit hg hobj hints (Nat.le_trans hlen hn2) hr hF hb (fun H hx hS => ?_) fun H e s' h => ?_
  · refine ⟨noA, [.scr ns], _, _, rfl, ⟨0, fun b s n e => absurd (hx b _ e) (by unfold StO isX; exact Bool.noConfusion), by omega⟩, fun a z => z.elim, ⟨_, _, rfl, ⟨a, rfl, ?_⟩, rfl⟩, hm ns hlen, fun d hd v H' _ r => ?_, fun _ z => z.elim⟩
    · exact hS.imp (fun ⟨o, e⟩ => ⟨o, fun z => z, e⟩) id
    · rw [hd] at r
      exact r
  · obtain ⟨_, _, _, _, _, _, _, _, _, _, _, _, z⟩ := h
    exact z
end DL

/-! F6: an object made by an __init__ that stores fields, one by one -/
namespace DL
open PySem PySem.Spec PyProof.Rows L2 Evl

section
variable (T : Tb) (c : Str)
def mInit (N : List Str) (ow : List Nat) (sc : Scope) : List (Str × E) → List Stmt → Bool
  | [], [] => true
  | (f, e) :: r, .Assign [.Attribute (.Name x _) g _] v _ :: st => (decide (N[0]? = some x) && (decide (f = g) && (visB sc x && (okNm x && (!ownB e && (T.fld c f && mE T N ow .val sc e v)))))) && mInit N ow sc r st
  | _, _ => false
def dcI : List (Str × E) → Nat
  | [] => 0
  | (_, e) :: r => dcE T e + dcI r
def wpInit (X : EK) (as : List (Option D)) : List (Str × E) → List (Str × D) → DK → Prop
  | [], l, Q => Q (.obj c l)
  | (f, e) :: r, l, Q => wpE T X e (some (.obj c l) :: as) fun d => l.length < 1000 ∧ wpInit X as r (putFD f d l) Q
def rdIn (K : PySem.W.Frag) (own : Nat → Bool) (W : WX) (fs : List (Str × E)) : TS := fun κ σ H => ∃ (B : AP) (H0 : Hp) (u ut : Nat) (x : Addr) (l : List (Str × D)) (as : List (Option D)) (xk : EK) (Qd : DK), SI K own B (fun a => a = x) H0 u H σ (some (.obj c l) :: as) ∧ σ[0]? = some (some (.ref x)) ∧ u + dcI T fs ≤ ut ∧ Rm H0 ut ∧
  (∀ x', xk x' → ∀ cls d H', Ex ut H0 H' → XIs K x' cls d H' → W cls d σ H') ∧ wpInit T c xk as fs l Qd ∧ ∀ l', Qd (.obj c l') → ∀ H', Ex ut H0 H' → OwnAt K (U B fun a => a = x) H' x (.obj c l') → κ.nx σ H'
end
section
variable {T : Tb} {L : Nat} {W : WX} {X : Cx} {ow : List Nat} {N : List Str} {c : Str}
theorem init_sound (hw : owf ow 0 = true) : ∀ (fs : List (Str × E)) (body : List Stmt) (X : Cx), GoodS T L W X → X.N = N → mInit T c N ow X.env.scope fs body = true → PSs X body (rdIn T c X.K (owf ow) W fs)
  | [], [], X, G, hN, h => pss_nil.imp fun D σ H q => by
    obtain ⟨B, H0, u, ut, x, l, as, xk, Qd, si, hx, hu, hr, hxx, hq, hk⟩ := q
    obtain ⟨a, h1, h2, h3⟩ := si.fr.ow 0 _ hw rfl
    rw [hx] at h1
    cases h1
    exact hk l hq H (si.ex.le (by omega)) h3
  | [], _ :: _, X, G, hN, h => absurd h Bool.false_ne_true
  | (f, e) :: r, body, X, G, hN, h => by
    match body, h with
    | [], h => exact absurd h Bool.false_ne_true
    | s :: st, h =>
      cases s with
      | Assign ts v p =>
        match ts, h with
        | [], h => exact absurd h Bool.false_ne_true
        | t :: _ :: _, h =>
          cases t with
          | Attribute o y q => cases o <;> exact absurd h Bool.false_ne_true
          | _ => exact absurd h Bool.false_ne_true
        | [t], h =>
          cases t with
          | Attribute o g q =>
            cases o with
            | Name y py =>
              obtain ⟨ha, hb⟩ := and2 (show ((decide (N[0]? = some y) && (decide (f = g) && (visB X.env.scope y && (okNm y && (!ownB e && (T.fld c f && mE T N ow .val X.env.scope e v)))))) && mInit T c N ow X.env.scope r st) = true from h)
              obtain ⟨h1, k2⟩ := and2 ha
              obtain ⟨h2, k3⟩ := and2 k2
              obtain ⟨h3, k4⟩ := and2 k3
              obtain ⟨h4, k5⟩ := and2 k4
              obtain ⟨h5, k6⟩ := and2 k5
              obtain ⟨h6, h7⟩ := and2 k6
              obtain rfl := of_decide_eq_true h2
              have ih := init_sound hw r st X G hN hb
              obtain ⟨cl, na⟩ := G.g.tab.fld c f h6
              have hi : X.N[0]? = some y := by rw [hN]; exact of_decide_eq_true h1
              have hv : PE X v (rdE T X.K (owf ow) W e) := sndE e .val _ v h7 W X G.g hN rfl
              refine (pss_cons (ps_fld (pe_var hi (vis_of h3) (nm_of h4).1 (nm_of h4).2) hv (by cases v <;> rfl)) ih).imp fun D σ H q => ?_
              obtain ⟨B, H0, u, ut, x, l, as, xk, Qd, si, hx, hu, hr, hxx, hq, hk⟩ := q
              have hu : u + (dcE T e + dcI T r) ≤ ut := hu
              refine ⟨B, fun a => a = x, _, xk, _, ⟨si.fr, (hr.le (show u + dcE T e ≤ ut by omega)).ex si.ex, fun x' hx' cls d H' e1 i => hxx x' hx' cls d H' ((si.ex.trans e1).le (by omega)) i⟩, hq, fun d hd v1 H1 e1 r1 => ?_⟩
              obtain ⟨hz, q⟩ := hd
              obtain ⟨a, g1, g2, g3⟩ := si.fr.ow 0 _ hw rfl
              obtain rfl := g2
              obtain ⟨dx, gs, q1, q2⟩ := (show ∃ dx fs, H1 a = some (.ins (He.ga X.K c) dx fs) ∧ RepF X.K (U B fun b => b = a) H1 l fs from g3.ex e1)
              obtain ⟨z1, z2⟩ := rep_putF (f := f) (r1.2.1 (not1 h5)) q2
              have kk : Keeps (U B fun b => b = a) H1 (upd H1 a (.ins (He.ga X.K c) dx (putF f v1 gs))) := keeps_upd (.inr rfl) q1 rfl
              obtain ⟨f', _⟩ := (si.ext e1).upd (d' := .obj c (putFD f d l)) hw rfl g1 rfl q1 rfl (show isMt (.ins (He.ga X.K c) dx (putF f v1 gs)) = true from rfl) rfl ⟨dx, _, upd_same, RepF.keep kk grows_refl _ _ z1⟩
              exact ⟨_, g1, a, _, dx, gs, rfl, q1, cl, na, by rw [z2]; exact hz, B, H0, _, ut, a, _, as, xk, Qd, f', g1, by omega, hr, hxx, q, hk⟩
            | _ => exact absurd h Bool.false_ne_true
          | _ => exact absurd h Bool.false_ne_true
      | _ => exact absurd h Bool.false_ne_true
end
/-- what an __init__ promises -/
def spIn (K : PySem.W.Frag) (T : Tb) (c : Str) (n k : Nat) (fs : List (Str × E)) : Sp := fun vs H Q E => ∃ (B : AP) (x dx : Addr) (ds : List D) (vs' : List V) (H0 : Hp) (Qd : DK) (Xd : EK), vs = .ref x :: vs' ∧ ds.length = n ∧ RepL K B H0 ds vs' ∧ (∀ a, B a → ∃ o, H0 a = some o ∧ isMt o = true) ∧ H0 x = none ∧ H0 dx = none ∧ dx ≠ x ∧
  H = upd (upd H0 dx (.own x)) x (.ins (He.ga K c) dx []) ∧ Rm H0 (dcI T fs) ∧ wpInit T c Xd (ds.map some ++ List.replicate k none) fs [] Qd ∧ (∀ l', Qd (.obj c l') → ∀ H', Ex (dcI T fs) H0 H' → OwnAt K (U B fun a => a = x) H' x (.obj c l') → Q .non H') ∧
  ∀ x', Xd x' → ∀ cls d H', Ex (dcI T fs) H0 H' → XIs K x' cls d H' → E cls d H'
theorem fr_init {K : PySem.W.Frag} {own : Nat → Bool} {B : AP} {H0 : Hp} {c : Str} {x dx : Addr} {N : List Str} {ds : List D} {vs : List V} (hB : ∀ a, B a → ∃ o, H0 a = some o ∧ isMt o = true) (r : RepL K B H0 ds vs) (h00 : own 0 = true) (ho : ∀ i, own i = true → i = 0 ∨ ds.length + 1 ≤ i) (hx : H0 x = none) (hdx : H0 dx = none) (nd : dx ≠ x) :
    SI K own B (fun a => a = x) H0 0 (upd (upd H0 dx (.own x)) x (.ins (He.ga K c) dx [])) (L2.start N (.ref x :: vs)) (some (.obj c []) :: (ds.map some ++ List.replicate (N.length - (ds.length + 1)) none)) := by
  have hl := RepL.length r
  have e1 : Ex 0 H0 (upd (upd H0 dx (.own x)) x (.ins (He.ga K c) dx [])) := by
    have a := Ex.new (o := .own x) hdx
    have b := Ex.new (H := upd H0 dx (.own x)) (p := x) (o := .ins (He.ga K c) dx []) (by rw [upd_ne nd.symm]; exact hx)
    exact a.trans b
  have out : ∀ {i : Nat} {d : D}, (ds.map some ++ List.replicate (N.length - (ds.length + 1)) none)[i]? = some (some d) → i < ds.length ∧ ds[i]? = some d := fun {i d} h => by
    by_cases hi : i < ds.length
    · rw [List.getElem?_append_left (by rw [List.length_map]; exact hi), List.getElem?_map] at h
      refine ⟨hi, ?_⟩
      cases q : ds[i]? with
      | none => rw [q] at h; cases h
      | some z => rw [q] at h; cases h; rfl
    · rw [List.getElem?_append_right (by rw [List.length_map]; omega), List.getElem?_replicate] at h
      split at h <;> cases h
  have zero : ∀ {i : Nat} {d : D}, own i = true → (some (D.obj c []) :: (ds.map some ++ List.replicate (N.length - (ds.length + 1)) none))[i]? = some (some d) → i = 0 := fun {i d} h1 h2 => by
    rcases ho i h1 with z | z
    · exact z
    · cases i with
      | zero => rfl
      | succ i =>
        have := (out (show (ds.map some ++ List.replicate (N.length - (ds.length + 1)) none)[i]? = some (some d) from h2)).1
        omega
  refine ⟨⟨?_, fun i d h1 h2 => ?_, fun i d h1 h2 => ?_, fun i j a h1 h2 h3 h4 _ _ => ?_, fun a z => ?_⟩, e1, fun a z => by rw [z]; exact hx, fun a z => ?_⟩
  · unfold L2.start
    simp [hl]
  · cases i with
    | zero =>
      exfalso
      rw [h00] at h1
      cases h1
    | succ i =>
      obtain ⟨hi, e⟩ := out (show (ds.map some ++ List.replicate (N.length - (ds.length + 1)) none)[i]? = some (some d) from h2)
      obtain ⟨v, hv, rv⟩ := RepL.get r e
      refine ⟨v, ?_, Rep.keep (keeps_ex e1) (fun b o hb nb z => z.elim nb fun e => by rw [e, hx] at hb; cases hb) _ _ rv⟩
      unfold L2.start
      rw [List.getElem?_append_left (by rw [List.length_map, List.length_cons]; omega), List.getElem?_map, List.getElem?_cons_succ, hv]
      rfl
  · obtain rfl := zero h1 h2
    cases h2
    exact ⟨x, by unfold L2.start; rfl, rfl, dx, [], upd_same, rfl⟩
  · obtain ⟨d1, h3⟩ := h3
    obtain ⟨d2, h4⟩ := h4
    rw [zero h1 h3, zero h2 h4]
  · rcases z with z | rfl
    · obtain ⟨o, h, m⟩ := hB a z
      refine ⟨o, ?_, m⟩
      rw [upd_ne (ne_of_none h hx), upd_ne (ne_of_none h hdx)]
      exact h
    · exact ⟨_, upd_same, rfl⟩
  · obtain ⟨o, h, _⟩ := hB a z
    rw [h]
    exact nofun
/-- THE RULE: a class by its __init__ -/
theorem init_rule {P : Program} {w : World} {K : PySem.W.Frag} {mg : Str → Option Value} {base : Heap} {T : Tb} {L : Nat} (tab : TOk P w K mg base T L) {c x qual : Str} {params : Arguments} {body : List Stmt} {scope : Scope} {kws : List (Str × V)} {f : Addr} {fd : FuncData}
    (F : FunD K x qual params body scope [] kws f fd) {N ps : List Str} {ow : List Nat} {fs : List (Str × E)} (hs : scB N ps scope = true) (hc : mInit T c N ow scope fs body = true) (h0 : ow.contains 0 = true) (ho : (ow.all fun i => decide (i = 0) || decide (ps.length ≤ i)) = true) (hp : 1 ≤ ps.length) :
    FnG P w K mg base (L + 1) f fd ps (spIn K T c (ps.length - 1) (N.length - ps.length) fs) := by
  have Sc := sc_of hs
  refine FnG.body F Sc (fun vs H Q E h => ?_) fun cdv A outer s H vs Q E hr hg h => ?_
  · obtain ⟨B, x, dx, ds, vs', H0, Qd, Xd, rfl, hl, hR, _⟩ := h
    have := RepL.length hR
    rw [List.length_cons]
    omega
  · have G : GoodS T L (fun cls d _ H => E cls d H) (cxOf (L2N.CX P w) P w K mg base N qual scope f cdv A outer s H E) :=
      ⟨⟨Sc.nd, rfl, hr, hg, L2N.takes_of rfl rfl rfl rfl, tab⟩, passes_of rfl, fun _ => rfl, Sc.kind, rfl, rfl⟩
    refine ⟨_, init_sound (c := c) h0 fs body _ G rfl hc, ?_⟩
    obtain ⟨B, x, dx, ds, vs', H0, Qd, Xd, rfl, hl, hR, hB, hx, hdx, nd, rfl, hrm, hq, hk, hxx⟩ := h
    have si := fr_init (own := owf ow) (c := c) (N := N) hB hR h0 (fun i hi => ?_) hx hdx nd
    · refine ⟨B, H0, 0, dcI T fs, x, [], _, Xd, Qd, si, by unfold L2.start; rfl, by omega, hrm, hxx, ?_, hk⟩
      rw [hl, show ps.length - 1 + 1 = ps.length by omega]
      exact hq
    · have q := List.all_eq_true.mp ho i (List.contains_iff_mem.mp hi)
      rcases Bool.or_eq_true_iff.mp q with z | z
      · exact .inl (of_decide_eq_true z)
      · have := of_decide_eq_true z
        exact .inr (by omega)
/-- a class, in the table -/
def Tb.addNew (T : Tb) (c : Str) (e : Ent) : Tb := { T with new := fun x => if x = c then some e else T.new x }
theorem new_add {P : Program} {w : World} {K : PySem.W.Frag} {mg : Str → Option Value} {base : Heap} {T : Tb} {L : Nat} (t : TOk P w K mg base T L) {c qual x : Str} {params : Arguments} {body : List Stmt} {scope : Scope} {kws : List (Str × V)} {f : Addr} {fd : FuncData}
    (F : FunD K x qual params body scope [] kws f fd) (M : Mk K (He.ga K c) f) (hm : mg c = some (.ref (He.ga K c))) {N ps : List Str} {ow : List Nat} {fs : List (Str × E)} (hb : Binds K fd ps []) (hs : scB N ps scope = true) (hc : mInit T c N ow scope fs body = true) (h0 : ow.contains 0 = true)
    (ho : (ow.all fun i => decide (i = 0) || decide (ps.length ≤ i)) = true) (hp : 1 ≤ ps.length) (m : DSp) (hd : ∀ ds Q X, m ds Q X → wpInit T c X (ds.map some ++ List.replicate (N.length - ps.length) none) fs [] Q) :
    TOk P w K mg base (T.addNew c ⟨L + 1, ps.length - 1, dcI T fs, m⟩) (L + 2) := by
  refine ⟨fun g e' h => ?_, t.glob, t.exc, t.free, t.set, t.range, t.enum, t.zip, t.dict, fun h => ⟨Nat.succ_pos _, (t.err h).2⟩, t.fld, fun c' m' e h => ?_, t.tab, fun c' e h => ?_⟩
  · obtain ⟨fa', fd', ps', h1, h2, h3⟩ := t.fn g e' h
    exact ⟨fa', fd', ps', h1, Nat.le_succ_of_le (Nat.le_succ_of_le h2), h3⟩
  · obtain ⟨a, b, ps, h1, h2, h3⟩ := t.meth c' m' e h
    exact ⟨a, b, ps, h1, Nat.le_succ_of_le (Nat.le_succ_of_le h2), h3⟩
  · have h' : (if c' = c then some (⟨L + 1, ps.length - 1, dcI T fs, m⟩ : Ent) else T.new c') = some e := h
    split at h'
    · rename_i ec
      cases h'
      subst ec
      refine ⟨f, fd, ps, _, Nat.le_refl _, init_rule t F hs hc h0 ho hp, hm, M, hb, fun vs H Q E q x dx hx hdx nd => ?_⟩
      obtain ⟨B, ds, Qd, Xd, h1, h2, h3, h4, h5, h6, h7⟩ := q
      have hl := RepL.length h4
      refine ⟨B, x, dx, ds, vs, H, Qd, Xd, rfl, hl.symm.trans h1, h4, h3, hx, hdx, nd, rfl, h2, hd _ _ _ h5, fun l' hl' H' e1 ow => ⟨rfl, h6 _ hl' _ H' e1 ?_⟩, h7⟩
      obtain ⟨dx', fs', k1, k2⟩ := ow
      refine ⟨x, dx', fs', rfl, fun z => ?_, k1, RepF.keep keeps_refl (grows_less fun a z => .inl z) _ _ k2⟩
      obtain ⟨o, ho, _⟩ := h3 x z
      rw [hx] at ho
      cases ho
    · obtain ⟨a, b, ps, sp, h2, h3⟩ := t.new c' e h'
      exact ⟨a, b, ps, sp, Nat.le_succ_of_le (Nat.le_succ_of_le h2), h3⟩
end DL

/-! F7: methods in the table; defs and methods that call themselves -/
namespace DL
open PySem PySem.Spec PyProof.Rows L2 Evl
def Tb.addMeth (T : Tb) (c m : Str) (e : Ent) : Tb := { T with meth := fun x y => if x = c ∧ y = m then some e else T.meth x y }
section
variable {P : Program} {w : World} {K : PySem.W.Frag} {mg : Str → Option Value} {base : Heap} {T : Tb} {L : Nat}
theorem TOk.up (t : TOk P w K mg base T L) {L' : Nat} (h : L ≤ L') : TOk P w K mg base T L' := by
  refine ⟨fun g e' h' => ?_, t.glob, t.exc, t.free, t.set, t.range, t.enum, t.zip, t.dict, fun h' => ⟨Nat.le_trans (t.err h').1 h, (t.err h').2⟩, t.fld, fun c' m' e h' => ?_, t.tab, fun c' e h' => ?_⟩
  · obtain ⟨a, b, ps, h1, h2, h3⟩ := t.fn g e' h'
    exact ⟨a, b, ps, h1, Nat.le_trans h2 h, h3⟩
  · obtain ⟨a, b, ps, h1, h2, h3⟩ := t.meth c' m' e h'
    exact ⟨a, b, ps, h1, Nat.le_trans h2 h, h3⟩
  · obtain ⟨a, b, ps, sp, h2, h3⟩ := t.new c' e h'
    exact ⟨a, b, ps, sp, Nat.le_trans h2 h, h3⟩
theorem TOk.addM (t : TOk P w K mg base T L) {c m : Str} {e : Ent} {fa : Addr} {fd : FuncData} {ps : List Str} (hp : ps.length = e.n) (hk : e.k ≤ L + 1) (F : FnG P w K mg base e.k fa fd ps (spOf K e.n e.c e.m)) (cl : Cls K (He.ga K c)) (hm : Meth K (He.ga K c) m fa) (hb : Binds K fd ps []) : TOk P w K mg base (T.addMeth c m e) (L + 1) := by
  have t' := t.up (Nat.le_succ L)
  refine ⟨t'.fn, t'.glob, t'.exc, t'.free, t'.set, t'.range, t'.enum, t'.zip, t'.dict, t'.err, t'.fld, fun c' m' e' h => ?_, t'.tab, t'.new⟩
  have h' : (if c' = c ∧ m' = m then some e else T.meth c' m') = some e' := h
  split at h'
  · rename_i eg
    cases h'
    obtain ⟨rfl, rfl⟩ := eg
    exact ⟨fa, fd, ps, hp, hk, F, cl, hm, hb⟩
  · exact t'.meth c' m' e' h'
/-- a method by its text -/
theorem meth_add (t : TOk P w K mg base T L) {c x m qual : Str} {params : Arguments} {body : List Stmt} {scope : Scope} {kws : List (Str × V)} {f : Addr} {fd : FuncData} (F : FunD K x qual params body scope [] kws f fd) (cl : Cls K (He.ga K c)) (hm : Meth K (He.ga K c) m f) (N : List Str) (ow : List Nat) (b : List S) (ps : List Str) (sp : DSp)
    (hb : Binds K fd ps []) (hs : scB N ps scope = true) (hc : mSs T N ow scope b body = true) (ho : (ow.all fun i => decide (ps.length ≤ i)) = true) (hd : ∀ ds Q X, sp ds Q X → wpF T N.length b ds Q X) : TOk P w K mg base (T.addMeth c m ⟨L + 1, ps.length, dcSs T b, sp⟩) (L + 1) :=
  t.addM (e := ⟨L + 1, ps.length, dcSs T b, sp⟩) rfl (Nat.le_refl _) ((fn_rule t F hs hc ho).imp (spOf_imp hd)) cl hm hb
theorem fn_never {f : Addr} {fd : FuncData} {ps : List Str} {k n c : Nat} {m : DSp} (h : ∀ ds Q X, ¬ m ds Q X) : FnG P w K mg base k f fd ps (spOf K n c m) :=
  ⟨fun vs H Q E q => by obtain ⟨_, _, _, _, _, _, _, _, z, _⟩ := q; exact absurd z (h _ _ _), fun A outer s H args us vs Q E _ _ _ _ _ q => by obtain ⟨_, _, _, _, _, _, _, _, z, _⟩ := q; exact absurd z (h _ _ _)⟩
/-- a def that calls itself: m n is what it does n calls deep -/
theorem rec_add (t : TOk P w K mg base T L) {x qual : Str} {params : Arguments} {body : List Stmt} {scope : Scope} {kws : List (Str × V)} {f : Addr} {fd : FuncData} (F : FunD K x qual params body scope [] kws f fd) (hm : mg x = some (.ref f)) (N : List Str) (ow : List Nat) (b : List S) (ps : List Str) (m : Nat → DSp) (c : Nat → Nat)
    (hb : Binds K fd ps []) (hs : scB N ps scope = true) (hc : ∀ e, mSs (T.add x e) N ow scope b body = true) (ho : (ow.all fun i => decide (ps.length ≤ i)) = true) (h0 : ∀ ds Q X, ¬ m 0 ds Q X) (hk : ∀ n k sp, dcSs (T.add x ⟨k, ps.length, c n, sp⟩) b = c (n + 1))
    (hd : ∀ n k ds Q X, m (n + 1) ds Q X → wpF (T.add x ⟨k, ps.length, c n, m n⟩) N.length b ds Q X) : ∀ n, TOk P w K mg base (T.add x ⟨L + n + 1, ps.length, c n, m n⟩) (L + n + 1)
  | 0 => t.add (e := ⟨L + 1, ps.length, c 0, m 0⟩) rfl (Nat.le_refl _) (fn_never h0) hm F.kp hb
  | n + 1 => by
    have r := fn_rule (rec_add t F hm N ow b ps m c hb hs hc ho h0 hk hd n) F hs (hc _) ho
    rw [hk n (L + n + 1) (m n)] at r
    exact (t.up (show L ≤ L + n + 1 by omega)).add (e := ⟨L + (n + 1) + 1, ps.length, c (n + 1), m (n + 1)⟩) rfl (by show L + (n + 1) + 1 ≤ L + n + 1 + 1; omega) (r.imp (spOf_imp (hd n (L + n + 1)))) hm F.kp hb
/-- a method that calls itself -/
theorem rec_addM (t : TOk P w K mg base T L) {cl x mt qual : Str} {params : Arguments} {body : List Stmt} {scope : Scope} {kws : List (Str × V)} {f : Addr} {fd : FuncData} (F : FunD K x qual params body scope [] kws f fd) (hcl : Cls K (He.ga K cl)) (hm : Meth K (He.ga K cl) mt f) (N : List Str) (ow : List Nat) (b : List S) (ps : List Str) (m : Nat → DSp) (c : Nat → Nat)
    (hb : Binds K fd ps []) (hs : scB N ps scope = true) (hc : ∀ e, mSs (T.addMeth cl mt e) N ow scope b body = true) (ho : (ow.all fun i => decide (ps.length ≤ i)) = true) (h0 : ∀ ds Q X, ¬ m 0 ds Q X) (hk : ∀ n k sp, dcSs (T.addMeth cl mt ⟨k, ps.length, c n, sp⟩) b = c (n + 1))
    (hd : ∀ n k ds Q X, m (n + 1) ds Q X → wpF (T.addMeth cl mt ⟨k, ps.length, c n, m n⟩) N.length b ds Q X) : ∀ n, TOk P w K mg base (T.addMeth cl mt ⟨L + n + 1, ps.length, c n, m n⟩) (L + n + 1)
  | 0 => t.addM (e := ⟨L + 1, ps.length, c 0, m 0⟩) rfl (Nat.le_refl _) (fn_never h0) hcl hm hb
  | n + 1 => by
    have r := fn_rule (rec_addM t F hcl hm N ow b ps m c hb hs hc ho h0 hk hd n) F hs (hc _) ho
    rw [hk n (L + n + 1) (m n)] at r
    exact (t.up (show L ≤ L + n + 1 by omega)).addM (e := ⟨L + (n + 1) + 1, ps.length, c (n + 1), m (n + 1)⟩) rfl (by show L + (n + 1) + 1 ≤ L + n + 1 + 1; omega) (r.imp (spOf_imp (hd n (L + n + 1)))) hcl hm hb
end
end DL

namespace DL
open PySem
def n_is_claim : List Str := ["text", "sign"]
def o_is_claim : List Nat := []
def b_is_claim : List S := [.iff (.or [(.not (.chain .LtE .LtE (.con (.int 1)) (.blt .len [(.var 0)]) (.con (.int 12)))), (.inn true (.sub (.var 0) (.con (.int 0))) (.glob "FIRST"))]) [.ret (.con (.bl false))] [], .ret (.blt .all [(.lc [("sign", 1)] (.one 1) (.var 0) [] (.inn false (.var 1) (.glob "SIGNS")))])]
def n_rising : List Str := ["row", "k"]
def o_rising : List Nat := []
def b_rising : List S := [.ret (.blt .all [(.lc [("k", 1)] (.one 1) (.rng (.bin .Sub (.blt .len [(.var 0)]) (.con (.int 1)))) [] (.cmp .Lt (.sub (.var 0) (.var 1)) (.sub (.var 0) (.bin .Add (.var 1) (.con (.int 1))))))])]
def n_all_labels : List Str := ["many", "rows", "_", "row", "label"]
def o_all_labels : List Nat := []
def b_all_labels : List S := [.asg 1 (.lst [(.tup [])]), .for (.one 2) (.rng (.var 0)) [.asg 1 (.lc2 [("row", 3), ("label", 4)] (.one 3) (.var 1) [] [4] (.one 4) (.glob "LABELS") [] (.tup [(.star (.var 3)), (.var 4)]))], .ret (.var 1)]
def n_inner_formulas : List Str := ["formula"]
def o_inner_formulas : List Nat := []
def b_inner_formulas : List S := [.iff (.and [(.inn false (.sub (.var 0) (.con (.int 0))) (.tup [(.con (.str "and")), (.con (.str "or"))])), (.cmp .Eq (.blt .len [(.var 0)]) (.con (.int 2)))]) [.ret (.sub (.var 0) (.con (.int 1)))] [], .ret (.ite (.cmp .Eq (.sub (.var 0) (.con (.int 0))) (.con (.str "not"))) (.slice (.var 0) (some (.con (.int 1))) none) (.tup []))]
def n_measured : List Str := ["formula", "inner", "parts", "depth", "more", "deep"]
def o_measured : List Nat := []
def b_measured : List S := [.asgT (.many [2, 3]) (.tup [(.con (.int 1)), (.con (.int 0))]), .for (.one 1) (.call "inner_formulas" [(.var 0)]) [.asgT (.many [4, 5]) (.call "measured" [(.var 1)]), .par 2 3 (.bin .Add (.var 2) (.var 4)) (.blt .max2 [(.var 3), (.bin .Add (.var 5) (.con (.int 1)))])], .ret (.tup [(.var 2), (.var 3)])]
def n_is_formula : List Str := ["formula", "claims", "word", "inner"]
def o_is_formula : List Nat := []
def b_is_formula : List S := [.asg 2 (.sub (.var 0) (.con (.int 0))), .iff (.cmp .NotEq (.tget "SIZES" (.var 2) (.con (.int 0))) (.blt .len [(.var 0)])) [.ret (.con (.bl false))] [], .iff (.cmp .Eq (.var 2) (.con (.str "claim"))) [.ret (.inn false (.sub (.var 0) (.con (.int 1))) (.var 1))] [], .iff (.and [(.inn false (.var 2) (.tup [(.con (.str "and")), (.con (.str "or"))])), (.cmp .Lt (.blt .len [(.sub (.var 0) (.con (.int 1)))]) (.con (.int 2)))]) [.ret (.con (.bl false))] [], .ret (.blt .all [(.lc [("inner", 3)] (.one 3) (.call "inner_formulas" [(.var 0)]) [] (.call "is_formula" [(.var 3), (.var 1)]))])]
def n_check_conditions : List Str := ["book", "formula", "claims", "conditions", "parts", "depth", "claim"]
def o_check_conditions : List Nat := []
def b_check_conditions : List S := [.asgT (.many [2, 3]) (.var 0), .iff (.cmp .Gt (.blt .len [(.var 2)]) (.glob "MAX_CONDITIONS")) [.raise "TooLarge"] [], .for (.one 1) (.var 3) [.asgT (.many [4, 5]) (.call "measured" [(.var 1)]), .iff (.or [(.cmp .Gt (.var 4) (.glob "MAX_FORMULA")), (.cmp .Gt (.var 5) (.glob "MAX_NESTED"))]) [.raise "TooLarge"] []], .iff (.or [(.not (.blt .all [(.lc [("claim", 6)] (.one 6) (.var 2) [] (.call "is_claim" [(.var 6)]))])), (.not (.call "rising" [(.var 2)])), (.cmp .NotEq (.blt .len [(.var 3)]) (.blt .len [(.var 2)]))]) [.raise "NotAllowed"] [], .iff (.not (.blt .all [(.lc [("formula", 1)] (.one 1) (.var 3) [] (.call "is_formula" [(.var 1), (.var 2)]))])) [.raise "NotAllowed"] [], .ret (.con .non)]
def n_check_condition_way : List Str := ["way"]
def o_check_condition_way : List Nat := []
def b_check_condition_way : List S := [.iff (.inn true (.var 0) (.glob "CONDITION_WAYS")) [.raise "NotAllowed"] [], .ret (.con .non)]
def n_check_book_labels : List Str := ["book", "labels", "label"]
def o_check_book_labels : List Nat := []
def b_check_book_labels : List S := [.iff (.or [(.cmp .NotEq (.blt .len [(.var 1)]) (.blt .len [(.sub (.var 0) (.con (.int 0)))])), (.not (.blt .all [(.lc [("label", 2)] (.one 2) (.var 1) [] (.inn false (.var 2) (.glob "LABELS")))]))]) [.raise "NotAllowed"] [], .ret (.con .non)]
def n_Conditions___init__ : List Str := ["self", "book", "formula", "at", "claim", "choice"]
def o_Conditions___init__ : List Nat := [0]
def b_Conditions___init__ : List (Str × E) := [("order", (.sub (.var 1) (.con (.int 0)))), ("many", (.blt .len [(.sub (.var 1) (.con (.int 0)))])), ("choices", (.lrng (.bin .LShift (.con (.int 1)) (.attr "Conditions" "many" (.own 0))))), ("places", (.dc [("at", 3), ("claim", 4)] (.many [3, 4]) (.enum (.sub (.var 1) (.con (.int 0)))) [] (.var 4) (.var 3))), ("truths", (.lc [("formula", 2)] (.one 2) (.sub (.var 1) (.con (.int 1))) [] (.lc [("choice", 5)] (.one 5) (.attr "Conditions" "choices" (.own 0)) [] (.meth "Conditions" "holds" (.own 0) [(.var 2), (.var 5)]))))]
def n_Conditions_holds : List Str := ["self", "formula", "choice", "word", "rows", "inner"]
def o_Conditions_holds : List Nat := []
def b_Conditions_holds : List S := [.asg 3 (.sub (.var 1) (.con (.int 0))), .iff (.inn false (.var 3) (.glob "PLAIN")) [.ret (.cmp .Eq (.var 3) (.con (.str "true")))] [], .iff (.cmp .Eq (.var 3) (.con (.str "claim"))) [.ret (.cmp .Eq (.bin .BitAnd (.bin .RShift (.var 2) (.dget (.attr "Conditions" "places" (.var 0)) (.sub (.var 1) (.con (.int 1))))) (.con (.int 1))) (.con (.int 1)))] [], .asg 4 (.lc [("inner", 5)] (.one 5) (.call "inner_formulas" [(.var 1)]) [] (.meth "Conditions" "holds" (.var 0) [(.var 5), (.var 2)])), .ret (.ite (.cmp .Eq (.var 3) (.con (.str "not"))) (.not (.sub (.var 4) (.con (.int 0)))) (.ite (.cmp .Eq (.var 3) (.con (.str "and"))) (.blt .all [(.var 4)]) (.blt .any [(.var 4)])))]
def n_Conditions_allowed : List Str := ["self", "labels", "sure", "some", "choice", "at", "label"]
def o_Conditions_allowed : List Nat := []
def b_Conditions_allowed : List S := [.asg 2 (.blt .sum [(.lc [("at", 5), ("label", 6)] (.many [5, 6]) (.enum (.var 1)) [(.cmp .Eq (.var 6) (.con (.str "in")))] (.bin .LShift (.con (.int 1)) (.var 5)))]), .asg 3 (.blt .sum [(.lc [("at", 5), ("label", 6)] (.many [5, 6]) (.enum (.var 1)) [(.cmp .Eq (.var 6) (.con (.str "open")))] (.bin .LShift (.con (.int 1)) (.var 5)))]), .ret (.lc [("choice", 4)] (.one 4) (.attr "Conditions" "choices" (.var 0)) [(.cmp .Eq (.bin .BitAnd (.var 4) (.inv (.var 3))) (.var 2))] (.var 4))]
def n_Conditions_after : List Str := ["self", "labels", "rows", "found", "truths", "told", "choice"]
def o_Conditions_after : List Nat := [3]
def b_Conditions_after : List S := [.asg 2 (.meth "Conditions" "allowed" (.var 0) [(.var 1)]), .own 3 (.lst []), .for (.one 4) (.attr "Conditions" "truths" (.var 0)) [.asg 5 (.lc [("choice", 6)] (.one 6) (.var 2) [] (.sub (.var 4) (.var 6))), .app 3 (.ite (.blt .all [(.var 5)]) (.con (.str "in")) (.ite (.blt .any [(.var 5)]) (.con (.str "open")) (.con (.str "out"))))], .ret (.blt .tuple [(.own 3)])]
def n_Conditions_least : List Str := ["self", "labels"]
def o_Conditions_least : List Nat := []
def b_Conditions_least : List S := [.asg 1 (.bin .Mult (.tup [(.con (.str "open"))]) (.attr "Conditions" "many" (.var 0))), .while (.cmp .NotEq (.meth "Conditions" "after" (.var 0) [(.var 1)]) (.var 1)) [.asg 1 (.meth "Conditions" "after" (.var 0) [(.var 1)])], .ret (.var 1)]
def n_Conditions_is_stable : List Str := ["self", "labels", "found", "told", "more", "label", "at"]
def o_Conditions_is_stable : List Nat := []
def b_Conditions_is_stable : List S := [.iff (.or [(.inn false (.con (.str "open")) (.var 1)), (.cmp .NotEq (.meth "Conditions" "after" (.var 0) [(.var 1)]) (.var 1))]) [.ret (.con (.bl false))] [], .asg 2 (.blt .tuple [(.lc [("label", 5)] (.one 5) (.var 1) [] (.ite (.cmp .Eq (.var 5) (.con (.str "out"))) (.con (.str "out")) (.con (.str "open"))))]), .while (.con (.bl true)) [.asg 3 (.meth "Conditions" "after" (.var 0) [(.var 2)]), .asg 4 (.blt .tuple [(.lc [("at", 6), ("label", 5)] (.many [6, 5]) (.enum (.var 2)) [] (.ite (.cmp .Eq (.var 5) (.con (.str "out"))) (.var 5) (.sub (.var 3) (.var 6))))]), .iff (.cmp .Eq (.var 4) (.var 2)) [.ret (.cmp .Eq (.var 2) (.var 1))] [], .asg 2 (.var 4)]]
def n_agrees : List Str := ["less", "more", "one", "other"]
def o_agrees : List Nat := []
def b_agrees : List S := [.ret (.blt .all [(.lc [("one", 2), ("other", 3)] (.many [2, 3]) (.zip (.var 0) (.var 1)) [] (.inn false (.var 2) (.tup [(.con (.str "open")), (.var 3)])))])]
def n_known_condition_labels : List Str := ["known", "way", "rows", "good", "done", "labels", "one", "other"]
def o_known_condition_labels : List Nat := []
def b_known_condition_labels : List S := [.iff (.cmp .Eq (.var 1) (.con (.str "grounded"))) [.ret (.lst [(.meth "Conditions" "least" (.var 0) [])])] [], .asg 2 (.call "all_labels" [(.attr "Conditions" "many" (.var 0))]), .asg 3 (.lc [("labels", 5)] (.one 5) (.var 2) [(.call "agrees" [(.var 5), (.meth "Conditions" "after" (.var 0) [(.var 5)])])] (.var 5)), .iff (.cmp .Eq (.var 1) (.con (.str "admissible"))) [.ret (.var 3)] [], .iff (.cmp .Eq (.var 1) (.con (.str "preferred"))) [.ret (.lc [("one", 6)] (.one 6) (.var 3) [(.not (.blt .any [(.lc [("other", 7)] (.one 7) (.var 3) [] (.and [(.cmp .NotEq (.var 6) (.var 7)), (.call "agrees" [(.var 6), (.var 7)])]))]))] (.var 6))] [], .asg 4 (.lc [("labels", 5)] (.one 5) (.var 3) [(.cmp .Eq (.meth "Conditions" "after" (.var 0) [(.var 5)]) (.var 5))] (.var 5)), .iff (.cmp .Eq (.var 1) (.con (.str "complete"))) [.ret (.var 4)] [], .iff (.cmp .Eq (.var 1) (.con (.str "model"))) [.ret (.lc [("labels", 5)] (.one 5) (.var 4) [(.inn true (.con (.str "open")) (.var 5))] (.var 5))] [], .ret (.lc [("labels", 5)] (.one 5) (.var 4) [(.meth "Conditions" "is_stable" (.var 0) [(.var 5)])] (.var 5))]
def n_condition_labels : List Str := ["book", "way"]
def o_condition_labels : List Nat := []
def b_condition_labels : List S := [.expr (.call "check_conditions" [(.var 0)]), .expr (.call "check_condition_way" [(.var 1)]), .ret (.blt .tuple [(.blt .sorted [(.call "known_condition_labels" [(.mk "Conditions" [(.var 0)]), (.var 1)])])])]
def n_labels_stand : List Str := ["book", "way", "labels"]
def o_labels_stand : List Nat := []
def b_labels_stand : List S := [.expr (.call "check_conditions" [(.var 0)]), .expr (.call "check_condition_way" [(.var 1)]), .expr (.call "check_book_labels" [(.var 0), (.var 2)]), .ret (.inn false (.var 2) (.call "known_condition_labels" [(.mk "Conditions" [(.var 0)]), (.var 1)]))]
def n__law_same : List Str := ["told", "due"]
def o__law_same : List Nat := []
def b__law_same : List S := [.ret (.cmp .Eq (.blt .repr [(.lst [(.var 0)])]) (.blt .repr [(.lst [(.var 1)])]))]
def n__law_stream : List Str := ["script", "numbers", "cell", "rest", "k", "stirred"]
def o__law_stream : List Nat := [1]
def b__law_stream : List S := [.own 1 (.lst []), .for (.one 2) (.slice (.var 0) none (some (.con (.int 63)))) [.asg 3 (.blt .abs [(.blt .int [(.var 2)])]), .iff (.cmp .GtE (.var 3) (.bin .Pow (.con (.int 10)) (.con (.int 18)))) [.for (.one 4) (.rng (.con (.int 60))) [.app 1 (.bin .Mod (.blt .int [(.var 3)]) (.con (.int 1009))), .asg 3 (.bin .FloorDiv (.var 3) (.con (.int 1009))), .iff (.cmp .Eq (.var 3) (.con (.int 0))) [.brk] []]] [.asg 5 (.bin .Mod (.blt .int [(.var 3)]) (.con (.int 2147483647))), .for (.one 4) (.rng (.con (.int 10))) [.asg 5 (.bin .Mod (.blt .int [(.bin .Add (.bin .Add (.bin .Mult (.var 5) (.con (.int 48271))) (.bin .Mult (.con (.int 7)) (.var 4))) (.con (.int 11)))]) (.con (.int 2147483647))), .app 1 (.bin .Mod (.bin .Mod (.blt .int [(.bin .Add (.bin .Mult (.var 5) (.con (.int 69621))) (.var 4))]) (.con (.int 2147483629))) (.con (.int 1009)))]]], .iff (.cmp .Eq (.blt .len [(.own 1)]) (.con (.int 0))) [.app 1 (.con (.int 0))] [], .ret (.own 1)]
def n__law_claims : List Str := ["state", "many", "letters", "found", "k", "word", "j"]
def o__law_claims : List Nat := [3]
def b__law_claims : List S := [.asg 2 (.con (.str "abcdefghijklmnopqrstuvwxyz")), .own 3 (.lst []), .for (.one 4) (.rng (.var 1)) [.asg 5 (.sub (.var 2) (.call "_law_next" [(.var 0), (.con (.int 26))])), .for (.one 6) (.rng (.sub (.lst [(.con (.int 0)), (.con (.int 0)), (.con (.int 1)), (.con (.int 2)), (.con (.int 11))]) (.call "_law_next" [(.var 0), (.con (.int 5))]))) [.asg 5 (.bin .Add (.var 5) (.sub (.bin .Add (.var 2) (.con (.str "0123456789"))) (.call "_law_next" [(.var 0), (.con (.int 36))])))], .iff (.inn false (.var 5) (.own 3)) [.asg 5 (.bin .Add (.con (.str "q")) (.blt .str [(.bin .Add (.con (.int 100)) (.var 4))]))] [], .app 3 (.var 5)], .ret (.blt .tuple [(.blt .sorted [(.own 3)])])]
def n__law_subsets : List Str := ["claims", "rows", "claim", "row"]
def o__law_subsets : List Nat := []
def b__law_subsets : List S := [.asg 1 (.lst [(.tup [])]), .for (.one 2) (.var 0) [.asg 1 (.bin .Add (.var 1) (.lc [("row", 3)] (.one 3) (.var 1) [] (.bin .Add (.var 3) (.tup [(.var 2)]))))], .ret (.blt .sorted [(.var 1)])]
def n__law_all_labels : List Str := ["many", "rows", "k"]
def o__law_all_labels : List Nat := []
def b__law_all_labels : List S := [.asg 1 (.lst [(.tup [])]), .for (.one 2) (.rng (.var 0)) [.asg 1 (.call "_law_longer" [(.var 1)])], .ret (.var 1)]
def n__law_longer : List Str := ["rows", "found", "row", "label"]
def o__law_longer : List Nat := [1]
def b__law_longer : List S := [.own 1 (.lst []), .for (.one 2) (.var 0) [.ext 1 (.lc [("label", 3)] (.one 3) (.lst [(.con (.str "in")), (.con (.str "open")), (.con (.str "out"))]) [] (.bin .Add (.var 2) (.tup [(.var 3)])))], .ret (.own 1)]
def n__law_truths : List Str := ["book", "found", "chosen", "formula"]
def o__law_truths : List Nat := [1]
def b__law_truths : List S := [.own 1 (.dnew true), .for (.one 2) (.call "_law_subsets" [(.sub (.var 0) (.con (.int 0)))]) [.setD 1 (.var 2) (.lc [("formula", 3)] (.one 3) (.sub (.var 0) (.con (.int 1))) [] (.call "_law_true" [(.var 3), (.var 2)]))], .ret (.own 1)]
def n__law_formula : List Str := ["state", "claims", "deep", "kind", "k"]
def o__law_formula : List Nat := []
def b__law_formula : List S := [.asg 3 (.call "_law_next" [(.var 0), (.con (.int 8))]), .iff (.or [(.cmp .Eq (.var 2) (.con (.int 0))), (.cmp .Lt (.var 3) (.con (.int 3)))]) [.iff (.or [(.cmp .Eq (.blt .len [(.var 1)]) (.con (.int 0))), (.cmp .Eq (.call "_law_next" [(.var 0), (.con (.int 8))]) (.con (.int 0)))]) [.ret (.tup [(.sub (.lst [(.con (.str "true")), (.con (.str "false"))]) (.call "_law_next" [(.var 0), (.con (.int 2))]))])] [], .ret (.tup [(.con (.str "claim")), (.sub (.var 1) (.call "_law_next" [(.var 0), (.blt .len [(.var 1)])]))])] [], .iff (.cmp .Eq (.var 3) (.con (.int 3))) [.ret (.tup [(.con (.str "not")), (.call "_law_formula" [(.var 0), (.var 1), (.bin .Sub (.var 2) (.con (.int 1)))])])] [], .ret (.tup [(.sub (.lst [(.con (.str "and")), (.con (.str "or"))]) (.bin .Mod (.blt .int [(.var 3)]) (.con (.int 2)))), (.blt .tuple [(.lc [("k", 4)] (.one 4) (.rng (.bin .Add (.con (.int 2)) (.call "_law_next" [(.var 0), (.con (.int 2))]))) [] (.call "_law_formula" [(.var 0), (.var 1), (.bin .Sub (.var 2) (.con (.int 1)))]))])])]
def n__law_inner : List Str := ["formula"]
def o__law_inner : List Nat := []
def b__law_inner : List S := [.iff (.and [(.inn false (.sub (.var 0) (.con (.int 0))) (.lst [(.con (.str "and")), (.con (.str "or"))])), (.cmp .Eq (.blt .len [(.var 0)]) (.con (.int 2)))]) [.ret (.blt .list [(.sub (.var 0) (.con (.int 1)))])] [], .ret (.bin .Mult (.blt .list [(.slice (.var 0) (some (.con (.int 1))) none)]) (.blt .int [(.cmp .Eq (.sub (.var 0) (.con (.int 0))) (.con (.str "not")))]))]
def n__law_measure : List Str := ["formula", "rows", "one", "row"]
def o__law_measure : List Nat := []
def b__law_measure : List S := [.asg 1 (.lc [("one", 2)] (.one 2) (.call "_law_inner" [(.var 0)]) [] (.call "_law_measure" [(.var 2)])), .ret (.tup [(.bin .Add (.con (.int 1)) (.blt .sum [(.lc [("row", 3)] (.one 3) (.var 1) [] (.sub (.var 3) (.con (.int 0))))])), (.blt .max [(.bin .Add (.lst [(.con (.int 0))]) (.lc [("row", 3)] (.one 3) (.var 1) [] (.bin .Add (.con (.int 1)) (.sub (.var 3) (.con (.int 1))))))])])]
def n__law_true : List Str := ["formula", "chosen", "word", "rows", "one"]
def o__law_true : List Nat := []
def b__law_true : List S := [.asg 2 (.sub (.var 0) (.con (.int 0))), .iff (.inn false (.var 2) (.lst [(.con (.str "true")), (.con (.str "false"))])) [.ret (.cmp .Eq (.var 2) (.con (.str "true")))] [], .iff (.cmp .Eq (.var 2) (.con (.str "claim"))) [.ret (.inn false (.sub (.var 0) (.con (.int 1))) (.var 1))] [], .asg 3 (.lc [("one", 4)] (.one 4) (.call "_law_inner" [(.var 0)]) [] (.call "_law_true" [(.var 4), (.var 1)])), .iff (.cmp .Eq (.var 2) (.con (.str "not"))) [.ret (.not (.sub (.var 3) (.con (.int 0))))] [], .ret (.sub (.lst [(.blt .any [(.var 3)]), (.blt .all [(.var 3)])]) (.blt .int [(.cmp .Eq (.var 2) (.con (.str "and")))]))]
def n__law_conditions : List Str := ["state", "most", "claims", "rows", "claim", "formula"]
def o__law_conditions : List Nat := [3]
def b__law_conditions : List S := [.asg 2 (.call "_law_claims" [(.var 0), (.call "_law_next" [(.var 0), (.bin .Add (.var 1) (.con (.int 1)))])]), .own 3 (.lst []), .for (.one 4) (.var 2) [.asg 5 (.call "_law_formula" [(.var 0), (.var 2), (.bin .Add (.con (.int 1)) (.call "_law_next" [(.var 0), (.con (.int 3))]))]), .app 3 (.sub (.lst [(.var 5), (.tup [(.con (.str "true"))])]) (.blt .int [(.cmp .Gt (.sub (.call "_law_measure" [(.var 5)]) (.con (.int 0))) (.con (.int 40)))]))], .ret (.tup [(.var 2), (.blt .tuple [(.own 3)])])]
def n__law_allowed : List Str := ["book", "labels", "found", "k", "longer", "row"]
def o__law_allowed : List Nat := [4]
def b__law_allowed : List S := [.asg 2 (.lst [(.tup [])]), .for (.one 3) (.rng (.blt .len [(.var 1)])) [.own 4 (.lst []), .for (.one 5) (.var 2) [.iff (.cmp .NotEq (.sub (.var 1) (.var 3)) (.con (.str "in"))) [.app 4 (.var 5)] [], .iff (.cmp .NotEq (.sub (.var 1) (.var 3)) (.con (.str "out"))) [.app 4 (.bin .Add (.var 5) (.tup [(.sub (.sub (.var 0) (.con (.int 0))) (.var 3))]))] []], .move 2 4], .ret (.var 2)]
def n__law_next_labels : List Str := ["book", "truths", "labels", "rows", "told", "k", "values", "chosen", "row"]
def o__law_next_labels : List Nat := [4]
def b__law_next_labels : List S := [.asg 3 (.lc [("chosen", 7)] (.one 7) (.call "_law_allowed" [(.var 0), (.var 2)]) [] (.dget (.var 1) (.var 7))), .own 4 (.lst []), .for (.one 5) (.rng (.blt .len [(.var 2)])) [.asg 6 (.lc [("row", 8)] (.one 8) (.var 3) [] (.sub (.var 8) (.var 5))), .app 4 (.sub (.lst [(.con (.str "open")), (.con (.str "in")), (.con (.str "out"))]) (.bin .Add (.blt .int [(.blt .all [(.var 6)])]) (.bin .Mult (.con (.int 2)) (.blt .int [(.not (.blt .any [(.var 6)]))]))))], .ret (.blt .tuple [(.own 4)])]
def n__law_agrees : List Str := ["less", "more", "k"]
def o__law_agrees : List Nat := []
def b__law_agrees : List S := [.ret (.blt .all [(.lc [("k", 2)] (.one 2) (.rng (.blt .len [(.var 0)])) [] (.inn false (.sub (.var 0) (.var 2)) (.lst [(.con (.str "open")), (.sub (.var 1) (.var 2))])))])]
def n__law_is_stable_model : List Str := ["book", "truths", "labels", "found", "turn", "told", "label", "k"]
def o__law_is_stable_model : List Nat := []
def b__law_is_stable_model : List S := [.iff (.or [(.inn false (.con (.str "open")) (.var 2)), (.cmp .NotEq (.call "_law_next_labels" [(.var 0), (.var 1), (.var 2)]) (.var 2))]) [.ret (.con (.bl false))] [], .asg 3 (.blt .tuple [(.lc [("label", 6)] (.one 6) (.var 2) [] (.sub (.lst [(.con (.str "open")), (.con (.str "out"))]) (.blt .int [(.cmp .Eq (.var 6) (.con (.str "out")))])))]), .for (.one 4) (.rng (.bin .Add (.blt .len [(.var 2)]) (.con (.int 1)))) [.asg 5 (.call "_law_next_labels" [(.var 0), (.var 1), (.var 3)]), .asg 3 (.blt .tuple [(.lc [("k", 7)] (.one 7) (.rng (.blt .len [(.var 2)])) [] (.sub (.lst [(.sub (.var 5) (.var 7)), (.con (.str "out"))]) (.blt .int [(.cmp .Eq (.sub (.var 2) (.var 7)) (.con (.str "out")))])))])], .ret (.cmp .Eq (.var 3) (.var 2))]
def n__law_condition_labels : List Str := ["book", "way", "truths", "rows", "good", "done", "labels", "turn", "one", "other"]
def o__law_condition_labels : List Nat := []
def b__law_condition_labels : List S := [.asg 2 (.call "_law_truths" [(.var 0)]), .iff (.cmp .Eq (.var 1) (.con (.str "grounded"))) [.asg 6 (.bin .Mult (.tup [(.con (.str "open"))]) (.blt .len [(.sub (.var 0) (.con (.int 0)))])), .for (.one 7) (.rng (.bin .Add (.blt .len [(.sub (.var 0) (.con (.int 0)))]) (.con (.int 1)))) [.asg 6 (.call "_law_next_labels" [(.var 0), (.var 2), (.var 6)])], .ret (.lst [(.var 6)])] [], .asg 3 (.call "_law_all_labels" [(.blt .len [(.sub (.var 0) (.con (.int 0)))])]), .asg 4 (.lc [("labels", 6)] (.one 6) (.var 3) [(.call "_law_agrees" [(.var 6), (.call "_law_next_labels" [(.var 0), (.var 2), (.var 6)])])] (.var 6)), .iff (.cmp .Eq (.var 1) (.con (.str "admissible"))) [.ret (.var 4)] [], .iff (.cmp .Eq (.var 1) (.con (.str "preferred"))) [.ret (.lc [("one", 8)] (.one 8) (.var 4) [(.not (.blt .any [(.lc [("other", 9)] (.one 9) (.var 4) [] (.and [(.cmp .NotEq (.var 8) (.var 9)), (.call "_law_agrees" [(.var 8), (.var 9)])]))]))] (.var 8))] [], .asg 5 (.lc [("labels", 6)] (.one 6) (.var 4) [(.cmp .Eq (.call "_law_next_labels" [(.var 0), (.var 2), (.var 6)]) (.var 6))] (.var 6)), .iff (.cmp .Eq (.var 1) (.con (.str "model"))) [.ret (.lc [("labels", 6)] (.one 6) (.var 5) [(.inn true (.con (.str "open")) (.var 6))] (.var 6))] [], .iff (.cmp .Eq (.var 1) (.con (.str "stable"))) [.ret (.lc [("labels", 6)] (.one 6) (.var 5) [(.call "_law_is_stable_model" [(.var 0), (.var 2), (.var 6)])] (.var 6))] [], .ret (.var 5)]
def n__law_told : List Str := ["kind", "book", "way", "labels", "e"]
def o__law_told : List Nat := []
def b__law_told : List S := [.try [.iff (.cmp .Eq (.var 0) (.con (.int 0))) [.ret (.tup [(.con (.str "told")), (.call "condition_labels" [(.var 1), (.var 2)])])] [], .ret (.tup [(.con (.str "told")), (.call "labels_stand" [(.var 1), (.var 2), (.var 3)])])] 4]
def n_law : List Str := ["script", "state", "ways", "turn", "book", "kept", "lists", "way", "odd", "bad", "due", "labels", "kind", "claim"]
def o_law : List Nat := [6]
def b_law : List S := [.asg 1 (.newst (.call "_law_stream" [(.var 0)])), .asg 2 (.lst [(.con (.str "admissible")), (.con (.str "complete")), (.con (.str "grounded")), (.con (.str "preferred")), (.con (.str "model")), (.con (.str "stable"))]), .for (.one 3) (.rng (.con (.int 5))) [.asg 4 (.call "_law_conditions" [(.var 1), (.bin .Add (.con (.int 4)) (.blt .int [(.and [(.cmp .Eq (.var 3) (.con (.int 0))), (.cmp .Eq (.call "_law_next" [(.var 1), (.con (.int 3))]) (.con (.int 0)))])]))]), .asg 5 (.blt .repr [(.var 4)]), .own 6 (.dnew false), .for (.one 7) (.var 2) [.asg 10 (.call "_law_condition_labels" [(.var 4), (.var 7)]), .setD 6 (.var 7) (.var 10), .iff (.not (.call "_law_same" [(.call "_law_told" [(.con (.int 0)), (.var 4), (.var 7), (.tup [])]), (.tup [(.con (.str "told")), (.blt .tuple [(.blt .sorted [(.var 10)])])])])) [.ret (.con (.bl false))] [], .for (.one 11) (.bin .Add (.slice (.var 10) none (some (.con (.int 2)))) (.lst [(.blt .tuple [(.lc [("claim", 13)] (.one 13) (.sub (.var 4) (.con (.int 0))) [] (.sub (.lst [(.con (.str "in")), (.con (.str "open")), (.con (.str "out"))]) (.call "_law_next" [(.var 1), (.con (.int 3))])))])])) [.iff (.not (.call "_law_same" [(.call "_law_told" [(.con (.int 1)), (.var 4), (.var 7), (.var 11)]), (.tup [(.con (.str "told")), (.inn false (.var 11) (.var 10))])])) [.ret (.con (.bl false))] []]], .iff (.or [(.not (.blt .all [(.lc [("labels", 11)] (.one 11) (.dget (.own 6) (.con (.str "complete"))) [] (.call "_law_agrees" [(.sub (.dget (.own 6) (.con (.str "grounded"))) (.con (.int 0))), (.var 11)]))])), (.not (.blt .all [(.lc [("labels", 11)] (.one 11) (.dget (.own 6) (.con (.str "stable"))) [] (.inn false (.var 11) (.dget (.own 6) (.con (.str "model")))))]))]) [.ret (.con (.bl false))] [], .iff (.not (.blt .all [(.lc [("labels", 11)] (.one 11) (.bin .Add (.dget (.own 6) (.con (.str "model"))) (.dget (.own 6) (.con (.str "preferred")))) [] (.inn false (.var 11) (.dget (.own 6) (.con (.str "complete")))))])) [.ret (.con (.bl false))] [], .asg 8 (.lst [(.call "_law_told" [(.con (.int 0)), (.var 4), (.con (.str "naive")), (.tup [])]), (.call "_law_told" [(.con (.int 1)), (.var 4), (.con (.str "free")), (.tup [(.con (.str "on"))])]), (.call "_law_told" [(.con (.int 1)), (.var 4), (.con (.str "stable")), (.bin .Mult (.tup [(.con (.str "in"))]) (.bin .Add (.blt .len [(.sub (.var 4) (.con (.int 0)))]) (.con (.int 1))))])]), .asg 9 (.tup [(.bin .Add (.sub (.var 4) (.con (.int 0))) (.tup [(.con (.str "A"))])), (.bin .Add (.sub (.var 4) (.con (.int 1))) (.tup [(.tup [(.con (.str "true"))])]))]), .iff (.or [(.cmp .NotEq (.bin .Add (.var 8) (.lc [("kind", 12)] (.one 12) (.rng (.con (.int 2))) [] (.call "_law_told" [(.var 12), (.var 9), (.con (.str "free")), (.tup [])]))) (.bin .Mult (.lst [(.con (.str "refused"))]) (.con (.int 5)))), (.cmp .NotEq (.blt .repr [(.var 4)]) (.var 5))]) [.ret (.con (.bl false))] []], .ret (.cmp .Eq (.blt .list [(.glob "CONDITION_WAYS")]) (.var 2))]
end DL

namespace DL
open PySem
open L2 (Key)
/-! P0: plain data: small data, comparisons, walks -/

def okS (x : Str) : Bool := PyData.canLay0 (.str x) && decide (x.length ≤ 12)
/-- small data: lists of at most w, nested at most n deep -/
def okN (w : Nat) : Nat → D → Bool
  | _, .non => true
  | _, .bl _ => true
  | _, .int i => decide (i.natAbs ≤ 1000)
  | _, .str x => okS x
  | n + 1, .tup l => decide (l.length ≤ w) && l.all fun d => okN w n d
  | n + 1, .lst l => decide (l.length ≤ w) && l.all fun d => okN w n d
  | n + 1, .kt l => decide (l.length ≤ w) && l.all fun d => okN w n d
  | _, _ => false
def wt (w : Nat) : Nat → Nat
  | 0 => 12
  | n + 1 => w * (wt w n + 1) + 12
structure GoodP (n W : Nat) (p : PyData) : Prop where
  cl : PyData.canLay0 p = true
  dp : p.depth ≤ n
  wg : p.weight ≤ W
  sh : p.intsShort 13 = true
  sw : p.showable = true
theorem wt_le {w n : Nat} : 12 ≤ wt w n := by
  cases n with
  | zero => exact Nat.le_refl _
  | succ n => unfold wt; omega
theorem short_int {i : Int} (h : i.natAbs ≤ 1000) : (PyData.int i).intsShort 13 = true := by
  obtain ⟨n, rfl | rfl⟩ := Int.eq_nat_or_neg i
  · have : ∀ n : _root_.Fin 1001, (PyData.int (n.val : Int)).intsShort 13 = true := by decide +kernel
    exact this ⟨n, by simpa using Nat.lt_succ_of_le h⟩
  · have : ∀ n : _root_.Fin 1001, (PyData.int (-(n.val : Int))).intsShort 13 = true := by decide +kernel
    exact this ⟨n, by simpa using Nat.lt_succ_of_le h⟩
theorem weight_int {i : Int} (h : i.natAbs ≤ 1000) : (PyData.int i).weight ≤ 12 := by
  unfold PyData.weight
  split
  · omega
  · rename_i h0
    have h1 : i.natAbs < 2 ^ 10 := by omega
    have : i.natAbs.log2 < 10 := (Nat.log2_lt (by
      intro z
      apply h0
      simp at z
      simp [z])).mpr h1
    omega
theorem show_int {i : Int} (h : i.natAbs ≤ 1000) : (PyData.int i).showable = true := by
  unfold PyData.showable
  refine decide_eq_true ?_
  by_cases z : i.natAbs = 0
  · rw [z]
    decide
  · have : i.natAbs.log2 < 10 := (Nat.log2_lt z).mpr (by omega)
    omega
mutual
theorem okN_py {w : Nat} : ∀ (n : Nat) (d : D), okN w n d = true → ∃ p, toPy d = some p ∧ GoodP n (wt w n) p
  | n, .non, _ => ⟨.none, rfl, rfl, Nat.zero_le _, by simp [PyData.weight], rfl, rfl⟩
  | n, .bl b, _ => ⟨.bool b, rfl, rfl, Nat.zero_le _, by simp [PyData.weight], rfl, rfl⟩
  | n, .int i, h => by
    have h : i.natAbs ≤ 1000 := by
      cases n <;> exact of_decide_eq_true h
    exact ⟨.int i, rfl, rfl, Nat.zero_le _, Nat.le_trans (weight_int h) wt_le, short_int h, show_int h⟩
  | n, .str x, h => by
    have h : okS x = true := by
      cases n <;> exact h
    obtain ⟨h1, h2⟩ := and2 h
    exact ⟨.str x, rfl, h1, Nat.zero_le _, by
      have := of_decide_eq_true h2
      have : x.cps.size ≤ 12 := this
      simp only [PyData.weight]
      exact Nat.le_trans this wt_le, rfl, rfl⟩
  | n + 1, .tup l, h => by
    obtain ⟨h1, h2⟩ := and2 (show (decide (l.length ≤ w) && l.all fun d => okN w n d) = true from h)
    obtain ⟨ps, e, g1, g2, g3, g4, g5⟩ := okN_pys n l fun d hd => List.all_eq_true.mp h2 d hd
    refine ⟨.tuple ps, by show (toPy.toPyL l).map PyData.tuple = _; rw [e]; rfl, ?_, ?_, ?_, ?_, ?_⟩
    · simpa only [PyData.canLay0] using g1
    · simp only [PyData.depth]; omega
    · simp only [PyData.weight]
      have := of_decide_eq_true h1
      have : l.length * (wt w n + 1) ≤ w * (wt w n + 1) := Nat.mul_le_mul_right _ this
      unfold wt
      omega
    · simpa only [PyData.intsShort] using g4
    · simpa only [PyData.showable] using g5
  | n + 1, .lst l, h => by
    obtain ⟨h1, h2⟩ := and2 (show (decide (l.length ≤ w) && l.all fun d => okN w n d) = true from h)
    obtain ⟨ps, e, g1, g2, g3, g4, g5⟩ := okN_pys n l fun d hd => List.all_eq_true.mp h2 d hd
    refine ⟨.list ps, by show (toPy.toPyL l).map PyData.list = _; rw [e]; rfl, ?_, ?_, ?_, ?_, ?_⟩
    · simpa only [PyData.canLay0] using g1
    · simp only [PyData.depth]; omega
    · simp only [PyData.weight]
      have := of_decide_eq_true h1
      have : l.length * (wt w n + 1) ≤ w * (wt w n + 1) := Nat.mul_le_mul_right _ this
      unfold wt
      omega
    · simpa only [PyData.intsShort] using g4
    · simpa only [PyData.showable] using g5
  | n + 1, .kt l, h => by
    obtain ⟨h1, h2⟩ := and2 (show (decide (l.length ≤ w) && l.all fun d => okN w n d) = true from h)
    obtain ⟨ps, e, g1, g2, g3, g4, g5⟩ := okN_pys n l fun d hd => List.all_eq_true.mp h2 d hd
    refine ⟨.tuple ps, by show (toPy.toPyL l).map PyData.tuple = _; rw [e]; rfl, ?_, ?_, ?_, ?_, ?_⟩
    · simpa only [PyData.canLay0] using g1
    · simp only [PyData.depth]; omega
    · simp only [PyData.weight]
      have := of_decide_eq_true h1
      have : l.length * (wt w n + 1) ≤ w * (wt w n + 1) := Nat.mul_le_mul_right _ this
      unfold wt
      omega
    · simpa only [PyData.intsShort] using g4
    · simpa only [PyData.showable] using g5
  | 0, .tup _, h => by cases h
  | 0, .lst _, h => by cases h
  | 0, .kt _, h => by cases h
  | n, .dic _, h => by cases n <;> cases h
  | n, .dit _, h => by cases n <;> cases h
  | n, .obj _ _, h => by cases n <;> cases h
  | n, .fn _, h => by cases n <;> cases h
  | n, .st, h => by cases n <;> cases h
  | n, .scr _, h => by cases n <;> cases h
theorem okN_pys {w : Nat} (n : Nat) : ∀ (l : List D), (∀ d ∈ l, okN w n d = true) → ∃ ps, toPy.toPyL l = some ps ∧ PyData.canLayAll0 ps = true ∧ PyData.depthAll ps ≤ n ∧ PyData.weightAll ps ≤ l.length * (wt w n + 1) ∧ PyData.intsShortAll 13 ps = true ∧ PyData.showableAll ps = true
  | [], _ => ⟨[], rfl, rfl, Nat.zero_le _, by simp [PyData.weightAll], rfl, rfl⟩
  | d :: l, h => by
    obtain ⟨p, e, g1, g2, g3, g4, g5⟩ := okN_py n d (h d List.mem_cons_self)
    obtain ⟨ps, e', k1, k2, k3, k4, k5⟩ := okN_pys n l fun d hd => h d (List.mem_cons_of_mem _ hd)
    refine ⟨p :: ps, ?_, ?_, ?_, ?_, ?_, ?_⟩
    · show (match toPy d, toPy.toPyL l with
        | some p, some q => some (p :: q)
        | _, _ => none) = _
      rw [e, e']
    · simp only [PyData.canLayAll0, g1, k1]; rfl
    · simp only [PyData.depthAll]; omega
    · simp only [PyData.weightAll, List.length_cons, Nat.succ_mul]; omega
    · simp only [PyData.intsShortAll, g4, k4]; rfl
    · simp only [PyData.showableAll, g5, k5]; rfl
end
theorem GoodP.shaped {n W : Nat} {p : PyData} (g : GoodP n W p) (h : n ≤ 64) : SeqAt.shaped p = true := by
  unfold SeqAt.shaped
  rw [g.cl, decide_eq_true (Nat.le_trans g.dp h)]
  rfl
theorem GoodP.repr {n W : Nat} {p : PyData} (g : GoodP n W p) (h : n ≤ 60) (hw : W ≤ 1048576) : p.showable = true ∧ p.hasDict = false ∧ p.depth ≤ 60 ∧ p.shown.length ≤ sizeLine := by
  have l : PyData.layable0 p = true := by
    unfold PyData.layable0
    rw [g.cl, decide_eq_true (show p.depth ≤ 64 from Nat.le_trans g.dp (by omega)), decide_eq_true (show p.weight ≤ 2 ^ 20 from Nat.le_trans g.wg hw)]
    rfl
  refine ⟨g.sw, PyData.hasDict_of_canLay p g.cl, Nat.le_trans g.dp h, Nat.le_trans (PyProof.Rows.shown_le13 l g.sh) ?_⟩
  rw [sizeLine_eq]
  omega
/-! ### comparisons -/
theorem shEq_of {p q : PyData} (h : SeqAt.shaped p = true) : shEq p q = true := by
  cases p <;> cases q <;> first | rfl | exact h
section
variable {Q : DK}
theorem eq_self {w n : Nat} {x : D} (hn : n ≤ 60) (h : okN w n x = true) (q : Q (.bl true)) : cmpD .Eq x x Q := by
  obtain ⟨p, e, g⟩ := okN_py n x h
  have : cmpD .Eq x x Q = ∃ p q, toPy x = some p ∧ toPy x = some q ∧ shEq p q = true ∧ shEq q p = true ∧ Q (.bl (PyData.eqv p q)) := by
    cases x <;> first | rfl | (cases n <;> cases h)
  rw [this]
  exact ⟨p, p, e, e, shEq_of (g.shaped (by omega)), shEq_of (g.shaped (by omega)), by rw [SeqAt.eqv_refl p g.cl]; exact q⟩
theorem ne_self {w n : Nat} {x : D} (hn : n ≤ 60) (h : okN w n x = true) (q : Q (.bl false)) : cmpD .NotEq x x Q := by
  obtain ⟨p, e, g⟩ := okN_py n x h
  have : cmpD .NotEq x x Q = ∃ p q, toPy x = some p ∧ toPy x = some q ∧ shEq p q = true ∧ shEq q p = true ∧ Q (.bl (!PyData.eqv p q)) := by
    cases x <;> rfl
  rw [this]
  exact ⟨p, p, e, e, shEq_of (g.shaped (by omega)), shEq_of (g.shaped (by omega)), by rw [SeqAt.eqv_refl p g.cl]; exact q⟩
theorem sh_str {x : Str} (h : okS x = true) : SeqAt.shaped (.str x) = true := by
  have h1 : PyData.canLay0 (.str x) = true := (and2 h).1
  unfold SeqAt.shaped
  rw [h1]
  rfl
theorem eqv_str (a b : Str) : PyData.eqv (.str a) (.str b) = decide (a = b) := by
  simp only [PyData.eqv]
  rw [Bool.eq_iff_iff]
  simp
theorem eq_str {a b : Str} (ha : okS a = true) (hb : okS b = true) (q : Q (.bl (decide (a = b)))) : cmpD .Eq (.str a) (.str b) Q :=
  ⟨_, _, rfl, rfl, rfl, rfl, by rw [eqv_str]; exact q⟩
theorem eq_int {i j : Int} (q : Q (.bl (decide (i = j)))) : cmpD .Eq (.int i) (.int j) Q :=
  ⟨_, _, rfl, rfl, rfl, rfl, by
    have : PyData.eqv (.int i) (.int j) = decide (i = j) := by
      simp only [PyData.eqv]
      rw [Bool.eq_iff_iff]
      simp
    rw [this]; exact q⟩
theorem ne_int {i j : Int} (q : Q (.bl (!decide (i = j)))) : cmpD .NotEq (.int i) (.int j) Q :=
  ⟨_, _, rfl, rfl, rfl, rfl, by
    have : PyData.eqv (.int i) (.int j) = decide (i = j) := by
      simp only [PyData.eqv]
      rw [Bool.eq_iff_iff]
      simp
    rw [this]; exact q⟩
theorem toPy_strs : ∀ l : List Str, toPy.toPyL (l.map .str) = some (l.map PyData.str)
  | [] => rfl
  | x :: l => by
    show (match toPy (.str x), toPy.toPyL (l.map .str) with
        | some p, some q => some (p :: q)
        | _, _ => none) = _
    rw [toPy_strs l]
    rfl
theorem sh_strs {l : List Str} (h : ∀ x ∈ l, okS x = true) : SeqAt.shaped (.list (l.map PyData.str)) = true := by
  have h1 : ∀ l : List Str, (∀ x ∈ l, okS x = true) → PyData.canLayAll0 (l.map PyData.str) = true ∧ PyData.depthAll (l.map PyData.str) = 0 := by
    intro l
    induction l with
    | nil => exact fun _ => ⟨rfl, rfl⟩
    | cons x l ih =>
      intro h
      obtain ⟨k1, k2⟩ := ih fun x hx => h x (List.mem_cons_of_mem _ hx)
      have h2 : PyData.canLay0 (.str x) = true := (and2 (h x List.mem_cons_self)).1
      constructor
      · simp only [List.map_cons, PyData.canLayAll0, h2, k1]; rfl
      · simp only [List.map_cons, PyData.depthAll, k2]; rfl
  obtain ⟨k1, k2⟩ := h1 l h
  unfold SeqAt.shaped
  simp only [PyData.canLay0, PyData.depth, k1, k2]
  rfl
instance decMemS (x : Str) (l : List Str) : Decidable (x ∈ l) := inferInstance
theorem any_strs (x : Str) (l : List Str) : ((l.map PyData.str).any fun z => PyData.eqv z (.str x)) = decide (x ∈ l) := by
  induction l with
  | nil => rfl
  | cons y l ih =>
    rw [List.map_cons, List.any_cons, ih, eqv_str]
    by_cases h : y = x
    · simp [h]
    · have h' : ¬ x = y := fun z => h z.symm
      simp [h, h']
theorem inn_tup {neg : Bool} {x : Str} {l : List Str} (hx : okS x = true) (hl : ∀ y ∈ l, okS y = true) (q : Q (.bl (negB neg (decide (x ∈ l))))) : innD neg (.str x) (.tup (l.map .str)) Q :=
  ⟨_, _, rfl, toPy_strs l, sh_str hx, sh_strs hl, by rw [any_strs]; exact q⟩
theorem inn_lst {neg : Bool} {x : Str} {l : List Str} (hx : okS x = true) (hl : ∀ y ∈ l, okS y = true) (q : Q (.bl (negB neg (decide (x ∈ l))))) : innD neg (.str x) (.lst (l.map .str)) Q :=
  ⟨_, _, rfl, toPy_strs l, sh_str hx, sh_strs hl, by rw [any_strs]; exact q⟩
theorem inn_kt {neg : Bool} {x : Str} {l : List Str} (hx : okS x = true) (hl : ∀ y ∈ l, okS y = true) (q : Q (.bl (negB neg (decide (x ∈ l))))) : innD neg (.str x) (.kt (l.map .str)) Q :=
  ⟨_, _, rfl, toPy_strs l, sh_str hx, sh_strs hl, by rw [any_strs]; exact q⟩
theorem bf_all {α : Type} {xs : List α} {p : α → Bool} (q : Q (.bl (xs.all p))) : bfD .all [.lst (xs.map fun x => .bl (p x))] Q :=
  ⟨xs.map p, by rw [List.map_map]; rfl, by
    have : (xs.map p).all id = xs.all p := by rw [List.all_map]; rfl
    rw [this]; exact q⟩
theorem bf_any {α : Type} {xs : List α} {p : α → Bool} (q : Q (.bl (xs.any p))) : bfD .any [.lst (xs.map fun x => .bl (p x))] Q :=
  ⟨xs.map p, by rw [List.map_map]; rfl, by
    have : (xs.map p).any id = xs.any p := by rw [List.any_map]; rfl
    rw [this]; exact q⟩
end
/-! ### walks that give lists -/
section
variable {α : Type} {Q : List D → Prop}
theorem lcW_t (enc : α → D) (p : α → Bool) (f : α → D) {step : D → (Option D → Prop) → Prop} : ∀ (xs : List α) (acc : List D), acc.length + xs.length ≤ sizeLine → (∀ x ∈ xs, ∀ R : Option D → Prop, R (if p x = true then some (f x) else none) → step (enc x) R) →
    Q (acc ++ (xs.filter p).map f) → lcW step (xs.map enc) acc Q
  | [], acc, _, _, q => by
    show Q acc
    simpa using q
  | x :: xs, acc, hl, hs, q => by
    rw [List.length_cons] at hl
    refine ⟨by omega, hs x List.mem_cons_self _ ?_⟩
    by_cases h : p x = true
    · rw [if_pos h]
      refine lcW_t enc p f xs (acc ++ [f x]) (by rw [List.length_append]; simp only [List.length_cons, List.length_nil]; omega) (fun y hy => hs y (List.mem_cons_of_mem _ hy)) ?_
      rw [List.filter_cons_of_pos h] at q
      simpa using q
    · rw [if_neg h]
      refine lcW_t enc p f xs acc (by omega) (fun y hy => hs y (List.mem_cons_of_mem _ hy)) ?_
      rw [List.filter_cons_of_neg h] at q
      exact q
/-- no condition -/
theorem lcW_m (enc : α → D) (f : α → D) {step : D → (Option D → Prop) → Prop} (xs : List α) (hl : xs.length ≤ 1000) (hs : ∀ x ∈ xs, ∀ R : Option D → Prop, R (some (f x)) → step (enc x) R) (q : Q (xs.map f)) : lcW step (xs.map enc) [] Q :=
  lcW_t enc (fun _ => true) f xs [] (by rw [sizeLine_eq]; simp only [List.length_nil]; omega) (fun x hx R r => hs x hx R r) (by rw [List.filter_eq_self.mpr fun _ _ => rfl]; simpa using q)
theorem lcW_f (enc : α → D) (p : α → Bool) (f : α → D) {step : D → (Option D → Prop) → Prop} (xs : List α) (hl : xs.length ≤ 1000) (hs : ∀ x ∈ xs, ∀ R : Option D → Prop, R (if p x = true then some (f x) else none) → step (enc x) R) (q : Q ((xs.filter p).map f)) : lcW step (xs.map enc) [] Q :=
  lcW_t enc p f xs [] (by rw [sizeLine_eq]; simp only [List.length_nil]; omega) hs (by simpa using q)
/-- what is drawn: any part of it -/
theorem lcW_any (enc : α → D) (f : α → D) (c : α → Bool) {step : D → (Option D → Prop) → Prop} : ∀ (xs : List α) (acc : List D), acc.length + xs.length ≤ sizeLine → (∀ x ∈ xs, ∀ R : Option D → Prop, R none → (c x = true → R (some (f x))) → step (enc x) R) →
    (∀ ys : List α, ys.Sublist (xs.filter c) → Q (acc ++ ys.map f)) → lcW step (xs.map enc) acc Q
  | [], acc, _, _, q => by
    show Q acc
    simpa using q [] (List.Sublist.refl _)
  | x :: xs, acc, hl, hs, q => by
    rw [List.length_cons] at hl
    refine ⟨by omega, hs x List.mem_cons_self _ ?_ fun hc => ?_⟩
    · refine lcW_any enc f c xs acc (by omega) (fun y hy => hs y (List.mem_cons_of_mem _ hy)) fun ys h => q ys ?_
      by_cases hc : c x = true
      · rw [List.filter_cons_of_pos hc]; exact h.cons x
      · rw [List.filter_cons_of_neg hc]; exact h
    · refine lcW_any enc f c xs (acc ++ [f x]) (by rw [List.length_append]; simp only [List.length_cons, List.length_nil]; omega) (fun y hy => hs y (List.mem_cons_of_mem _ hy)) fun ys h => ?_
      have := q (x :: ys) (by rw [List.filter_cons_of_pos hc]; exact h.cons₂ x)
      simpa using this
/-- what is drawn for each -/
theorem lcW_each (enc : α → D) {β : Type} (g : β → D) (S : β → Prop) {step : D → (Option D → Prop) → Prop} : ∀ (xs : List α) (acc : List D), acc.length + xs.length ≤ sizeLine → (∀ x ∈ xs, ∀ R : Option D → Prop, (∀ y, S y → R (some (g y))) → step (enc x) R) →
    (∀ ys : List β, ys.length = xs.length → (∀ y ∈ ys, S y) → Q (acc ++ ys.map g)) → lcW step (xs.map enc) acc Q
  | [], acc, _, _, q => by
    show Q acc
    simpa using q [] rfl (fun y hy => absurd hy List.not_mem_nil)
  | x :: xs, acc, hl, hs, q => by
    rw [List.length_cons] at hl
    refine ⟨by omega, hs x List.mem_cons_self _ fun y hy => ?_⟩
    refine lcW_each enc g S xs (acc ++ [g y]) (by rw [List.length_append]; simp only [List.length_cons, List.length_nil]; omega) (fun y hy => hs y (List.mem_cons_of_mem _ hy)) fun ys h1 h2 => ?_
    have := q (y :: ys) (by rw [List.length_cons, List.length_cons, h1]) (fun z hz => (List.mem_cons.mp hz).elim (fun e => by rw [e]; exact hy) (h2 z))
    simpa using this
end
theorem iteT {c : Bool} {P R : Prop} (h : c = true) (p : P) : if c = true then P else R := by
  rw [if_pos h]
  exact p
theorem iteF {c : Bool} {P R : Prop} (h : c = false) (p : R) : if c = true then P else R := by
  rw [h]
  exact p
/-- a test: both ways -/
theorem iteB {c : Bool} {P R : Prop} (p : c = true → P) (r : c = false → R) : if c = true then P else R := by
  cases c with
  | true => exact p rfl
  | false => exact r rfl
theorem at_nat {α : Type} (l : List α) (i : Nat) : L2.atI l (i : Int) = l[i]? := by
  unfold L2.atI L2.ixN
  rw [if_pos (by omega)]
  by_cases h : i < l.length
  · rw [if_pos (by omega)]
    simp
  · rw [if_neg (by omega)]
    simp
    omega
theorem at_lit {α : Type} {l : List α} {k : Int} (i : Nat) (h : k = (i : Int)) {x : α} (e : l[i]? = some x) : L2.atI l k = some x := by
  rw [h, at_nat, e]
theorem bl_map {α : Type} (p : α → Bool) (xs : List α) : (xs.map fun x => D.bl (p x)) = (xs.map p).map .bl := by
  rw [List.map_map]
  rfl
theorem all_id {α : Type} (p : α → Bool) (xs : List α) : (xs.map p).all id = xs.all p := by
  rw [List.all_map]
  rfl
theorem any_id {α : Type} (p : α → Bool) (xs : List α) : (xs.map p).any id = xs.any p := by
  rw [List.any_map]
  rfl
theorem eqv_int (i j : Int) : PyData.eqv (.int i) (.int j) = decide (i = j) := by
  simp only [PyData.eqv]
  rw [Bool.eq_iff_iff]
  simp

def firstL : List Nat := ("abcdefghijklmnopqrstuvwxyz" : Str).cps.toList
def signsL : List Nat := ("abcdefghijklmnopqrstuvwxyz0123456789" : Str).cps.toList
def digL : List Nat := ("0123456789" : Str).cps.toList
def claimB (x : Str) : Bool := match x.cps.toList with
  | [] => false
  | c :: l => decide (c ∈ firstL) && (c :: l).all fun c => decide (c ∈ signsL)
theorem ok_len {x : Str} (h : okS x = true) : x.length ≤ 12 := of_decide_eq_true (and2 h).2
theorem ok_line {x : Str} (h : okS x = true) : x.length ≤ sizeLine := by
  have := ok_len h
  rw [sizeLine_eq]
  omega
theorem len_list (x : Str) : x.length = x.cps.toList.length := by
  show x.cps.size = _
  simp
def mClaim : DSp := fun ds Q _ => ∃ x, ds = [.str x] ∧ okS x = true ∧ Q (.bl (claimB x))
section
variable {T : Tb}
theorem pl_claim (g1 : T.glob "FIRST" = some (.str "abcdefghijklmnopqrstuvwxyz")) (g2 : T.glob "SIGNS" = some (.str "abcdefghijklmnopqrstuvwxyz0123456789")) (ds : List D) (Q : DK) (X : EK) (h : mClaim ds Q X) : wpF T n_is_claim.length b_is_claim ds Q X := by
  obtain ⟨x, rfl, ok, q⟩ := h
  have hl := ok_len ok
  have hz := ok_line ok
  have he := len_list x
  have rest : ∀ c l, x.cps.toList = c :: l → Q (.bl ((c :: l).all fun c => decide (c ∈ signsL))) → wpSs T [.ret (.blt .all [(.lc [("sign", 1)] (.one 1) (.var 0) [] (.inn false (.var 1) (.glob "SIGNS")))])] [some (.str x), none] { nx := fun _ => Q .non, rt := Q, bk := fun _ => False, ct := fun _ => False, xc := X } := by
    intro c l e q
    refine ⟨_, rfl, _, rfl, .inl rfl, lcW_m (fun c => D.str ⟨#[c]⟩) (fun c => .bl (decide (c ∈ signsL))) x.cps.toList (by omega) (fun c hc R r => ?_) (bf_all ?_)⟩
    · exact ⟨_, rfl, _, g2, c, rfl, r⟩
    · rw [e]
      exact q
  cases e : x.cps.toList with
  | nil =>
    have hx : claimB x = false := by unfold claimB; rw [e]
    rw [hx] at q
    rw [e] at he
    have h0 : x.length = 0 := he
    exact ⟨_, rfl, hz, _, rfl, iteF (decide_eq_false (by omega)) ⟨_, rfl, _, rfl, iteT rfl ⟨_, rfl, iteT rfl q⟩⟩⟩
  | cons c l =>
    have h0 : x.length = (c :: l).length := by rw [he, e]
    rw [List.length_cons] at h0
    have hx : claimB x = (decide (c ∈ firstL) && (c :: l).all fun c => decide (c ∈ signsL)) := by unfold claimB; rw [e]
    rw [hx] at q
    refine ⟨_, rfl, hz, _, rfl, iteT (decide_eq_true (by omega)) ⟨_, rfl, _, rfl, iteF (by rw [decide_eq_true (show (x.length : Int) ≤ 12 by omega)]; rfl) ⟨_, rfl, c, hz, by rw [e]; exact at_lit 0 rfl rfl, _, g1, c, rfl, _, rfl, iteB (fun hc => ?_) (fun hc => ?_)⟩⟩⟩
    · have hc : (!decide (c ∈ firstL)) = true := hc
      rw [Bool.not_eq_true'] at hc
      rw [hc, Bool.false_and] at q
      exact q
    · have hc : (!decide (c ∈ firstL)) = false := hc
      rw [Bool.not_eq_false'] at hc
      rw [hc, Bool.true_and] at q
      exact rest c l e q
end
section
variable {T : Tb}
def Has (T : Tb) (f : Str) (n : Nat) (m : DSp) : Prop := ∃ k c, T.fn f = some ⟨k, n, c, m⟩
end
section
variable {T : Tb}
theorem call_ok {f : Str} {n : Nat} {m : DSp} {ds : List D} {es : List E} {Q : DK} {X : EK} (h : Has T f n m) (hn : ds.length = n) (ho : es.any ownB = false) (q : m ds Q X) :
    ∃ e, T.fn f = some e ∧ ds.length = e.n ∧ e.m ds (fun d => (es.any ownB = true → flatD d = true) ∧ Q d) X := by
  obtain ⟨k, c, e⟩ := h
  refine ⟨_, e, hn, ?_⟩
  have : (fun d => (es.any ownB = true → flatD d = true) ∧ Q d) = Q := by
    funext d
    rw [ho]
    simp
  rw [this]
  exact q
end
def ltD : D → D → Bool
  | .str a, .str b => decide (a.cps.toList < b.cps.toList)
  | .tup a, .tup b => (match toPy.toPyL a, toPy.toPyL b with
    | some p, some q => PySem.W.dataLt (.tuple p) (.tuple q)
    | _, _ => false)
  | _, _ => false
def risB (l : List D) : Bool := (List.range (l.length - 1)).all fun k => match l[k]?, l[k + 1]? with
  | some x, some y => ltD x y
  | _, _ => false
def LtOk (l : List D) : Prop := ∀ x ∈ l, ∀ y ∈ l, ∀ R : DK, R (.bl (ltD x y)) → cmpD .Lt x y R
theorem lt_strs (l : List Str) : LtOk (l.map .str) := fun x hx y hy R r => by
  obtain ⟨a, _, rfl⟩ := List.mem_map.mp hx
  obtain ⟨b, _, rfl⟩ := List.mem_map.mp hy
  exact r
def mRising : DSp := fun ds Q _ => ∃ l, ds = [.tup l] ∧ l.length ≤ 100 ∧ LtOk l ∧ Q (.bl (risB l))
section
variable {T : Tb}
theorem pl_rising (ds : List D) (Q : DK) (X : EK) (h : mRising ds Q X) : wpF T n_rising.length b_rising ds Q X := by
  obtain ⟨l, rfl, hl, lo, q⟩ := h
  have hn : (((l.length : Int) - 1)).toNat = l.length - 1 := by omega
  have big : (2 : Int) ^ 62 = 4611686018427387904 := by decide
  refine ⟨_, rfl, _, rfl, by omega, by omega, _, rfl, .inr ?_, lcW_m (fun k : Nat => D.int (0 + (k : Int))) (fun k => .bl (match l[k]?, l[k + 1]? with
    | some x, some y => ltD x y
    | _, _ => false)) (List.range ((l.length : Int) - 1).toNat) (by rw [List.length_range]; omega) (fun k hk R r => ?_) (bf_all ?_)⟩
  · rw [List.length_map, List.length_range]
    unfold wkL
    omega
  · rw [List.mem_range] at hk
    have h1 : k < l.length := by omega
    have h2 : k + 1 < l.length := by omega
    refine ⟨_, rfl, _, rfl, l[k], at_lit k (by omega) (List.getElem?_eq_getElem h1), _, rfl, _, rfl, l[k + 1], at_lit (k + 1) (by omega) (List.getElem?_eq_getElem h2), lo _ (List.getElem_mem h1) _ (List.getElem_mem h2) _ ?_⟩
    rw [List.getElem?_eq_getElem h1, List.getElem?_eq_getElem h2] at r
    exact r
  · rw [hn]
    exact q
end
def refused : Exn := ⟨"NotAllowed", none⟩
def tooLarge : Exn := ⟨"TooLarge", none⟩
theorem okS_lit {x : Str} (h : okS x = true := by decide +kernel) : okS x = true := h
theorem forL_t {α : Type} (enc : α → D) {step : D → DE → KD → Prop} {K : KD} (Inv : Nat → DE → Prop) : ∀ (xs : List α) (i : Nat) (ρ : DE), Inv i ρ →
    (∀ (j : Nat) (x : α) (ρ : DE) (N : DE → Prop), xs[j]? = some x → Inv (i + j) ρ → (∀ ρ', Inv (i + j + 1) ρ' → N ρ') → step (enc x) ρ { nx := N, rt := K.rt, bk := K.nx, ct := N, xc := K.xc }) →
    (∀ ρ', Inv (i + xs.length) ρ' → K.nx ρ') → forL step K (xs.map enc) ρ
  | [], i, ρ, h, _, q => q ρ h
  | x :: xs, i, ρ, h, hs, q => by
    refine hs 0 x ρ _ rfl h fun ρ' h' => forL_t enc Inv xs (i + 1) ρ' h' (fun j y ρ'' N e k n => ?_) fun ρ'' k => q ρ'' ?_
    · refine hs (j + 1) y ρ'' N (by simpa using e) ?_ fun ρ3 k3 => n ρ3 ?_
      · rw [show i + (j + 1) = i + 1 + j by omega]; exact k
      · rw [show i + 1 + j + 1 = i + (j + 1) + 1 by omega]; exact k3
    · rw [List.length_cons, show i + (xs.length + 1) = i + 1 + xs.length by omega]; exact k
theorem take_all {α : Type} {p : α → Bool} {xs : List α} {j : Nat} {x : α} (h : (xs.take j).all p = true) (e : xs[j]? = some x) (hp : p x = true) : (xs.take (j + 1)).all p = true := by
  rw [List.take_succ, e, List.all_append, h]
  simp [hp]
theorem all_false {α : Type} {p : α → Bool} {xs : List α} {j : Nat} {x : α} (e : xs[j]? = some x) (hp : p x = false) : xs.all p = false := by
  rw [List.all_eq_false]
  exact ⟨x, List.mem_of_getElem? e, by rw [hp]; exact Bool.false_ne_true⟩
theorem ris_at {l : List D} (h : risB l = true) {k : Nat} {x y : D} (h1 : l[k]? = some x) (h2 : l[k + 1]? = some y) : ltD x y = true := by
  unfold risB at h
  have hk : k + 1 < l.length := (List.getElem?_eq_some_iff.mp h2).1
  have := List.all_eq_true.mp h k (List.mem_range.mpr (by omega))
  rw [h1, h2] at this
  exact this
theorem ris_lt {l : List Str} (h : risB (l.map .str) = true) : ∀ (j i : Nat) (a b : Str), i < j → l[i]? = some a → l[j]? = some b → a.cps.toList < b.cps.toList
  | 0, i, _, _, hij, _, _ => absurd hij (Nat.not_lt_zero i)
  | j + 1, i, a, b, hij, ha, hb => by
    have hj : j < l.length := by
      have := (List.getElem?_eq_some_iff.mp hb).1
      omega
    have hc : l[j]? = some l[j] := List.getElem?_eq_getElem hj
    have last : l[j].cps.toList < b.cps.toList := by
      have := ris_at h (k := j) (x := .str l[j]) (y := .str b) (by rw [List.getElem?_map, hc]; rfl) (by rw [List.getElem?_map, hb]; rfl)
      exact of_decide_eq_true this
    by_cases e : i = j
    · subst e
      rw [hc] at ha
      cases ha
      exact last
    · exact List.lt_trans (ris_lt h j i a _ (by omega) ha hc) last
theorem ris_nodup {l : List Str} (h : risB (l.map .str) = true) : l.Nodup := by
  rw [List.Nodup, List.pairwise_iff_getElem]
  intro i j hi hj hij e
  have := ris_lt h j i l[i] l[j] hij (List.getElem?_eq_getElem hi) (List.getElem?_eq_getElem hj)
  rw [e] at this
  exact List.lt_irrefl _ this
theorem alike_strs : ∀ l m : List Str, PySem.W.alikeAll (l.map .str) (m.map .str) = true
  | [], m => by cases m <;> rfl
  | _ :: _, [] => rfl
  | a :: l, b :: m => by
    show (PySem.W.alike (.str a) (.str b) && PySem.W.alikeAll (l.map .str) (m.map .str)) = true
    rw [alike_strs l m]
    rfl
theorem ixN_lit {n : Nat} (i : Nat) (h : i < n) : L2.ixN n (i : Int) = some i := by
  unfold L2.ixN
  rw [if_pos (by omega), if_pos (by omega)]
  simp
theorem range_at {n j : Nat} {x : Nat} (h : (List.range n)[j]? = some x) : x = j ∧ j < n := by
  have hl := (List.getElem?_eq_some_iff.mp h).1
  rw [List.length_range] at hl
  rw [List.getElem?_range hl] at h
  cases h
  exact ⟨rfl, hl⟩
/-! Q2: the stream, what is drawn -/
open L2 (Key)

def Str9 (ns : List Int) (b : Nat) : Prop := (∀ n ∈ ns, 0 ≤ n ∧ n < 1009) ∧ ns.length ≤ b
theorem Str9.snoc {ns : List Int} {b : Nat} {v : Int} (h : Str9 ns b) : Str9 (ns ++ [v % 1009]) (b + 1) := by
  refine ⟨fun n hn => ?_, by rw [List.length_append, List.length_cons, List.length_nil]; have := h.2; omega⟩
  rcases List.mem_append.mp hn with z | z
  · exact h.1 n z
  · rw [List.mem_singleton.mp z]
    exact ⟨Int.emod_nonneg _ (by decide), Int.emod_lt_of_pos _ (by decide)⟩
section
variable {T : Tb}
def mStream : DSp := fun ds Q _ => ∃ l : List Int, ds = [.scr l] ∧ l.length ≤ 63 ∧ ∀ ns : List Int, ns ≠ [] → Str9 ns 4000 → Q (.lst (ns.map .int))
theorem pl_stream (ds : List D) (Q : DK) (X : EK) (h : mStream ds Q X) : wpF T n__law_stream.length b__law_stream ds Q X := by
  obtain ⟨l, rfl, hl, q⟩ := h
  have ml : (cutL l none (some 63)).length ≤ 63 := by
    unfold cutL
    rw [List.length_take, List.length_drop]
    omega
  have rl : ∀ n : Nat, n ≤ 100 → ((List.range n).map fun (k : Nat) => D.int (0 + (k : Int))).length ≤ wkL := fun n hn => by
    rw [List.length_map, List.length_range]
    unfold wkL
    omega
  have snoc : ∀ (ns : List Int) (v : Int), ns.map D.int ++ [D.int v] = (ns ++ [v]).map D.int := fun ns v => by rw [List.map_append]; rfl
  refine ⟨by rw [sizeLine_eq]; decide, _, rfl, _, rfl, _, rfl, .inr (by rw [List.length_map]; unfold wkL; omega), ?_⟩
  refine forL_t D.int (fun i ρ => ∃ ns x2 x3 x4 x5, ρ = [some (.scr l), some (.lst (ns.map .int)), x2, x3, x4, x5] ∧ Str9 ns (i * 60)) (cutL l none (some 63)) 0 _ ⟨[], none, none, none, none, rfl, fun n hn => absurd hn List.not_mem_nil, Nat.zero_le _⟩ (fun i x ρ N hx hi hn => ?_) fun ρ hi => ?_
  · obtain ⟨ns, x2, x3, x4, x5, rfl, hs⟩ := hi
    rw [Nat.zero_add] at hs hn
    have hi63 : i < 63 := by
      have := (List.getElem?_eq_some_iff.mp hx).1
      omega
    have hb : ∀ {b : Nat}, Str9 ns b → ns.length ≤ b := fun h => h.2
    refine ⟨_, rfl, _, rfl, ⟨by decide, by decide, by decide⟩, _, rfl, iteB (fun e => ?_) fun e => ?_⟩
    · refine ⟨_, rfl, by decide, by decide, _, rfl, .inr (rl 60 (by decide)), ?_⟩
      refine forL_t (fun k : Nat => D.int (0 + (k : Int))) (fun j ρ => ∃ ns y x4, ρ = [some (.scr l), some (.lst (ns.map .int)), some (.int x), some (.int y), x4, x5] ∧ Str9 ns (i * 60 + j)) (List.range 60) 0 _ ⟨ns, _, x4, rfl, hs⟩ (fun j k ρ N2 hk hi hn2 => ?_) fun ρ hi => ?_
      · obtain ⟨ns, y, x4, rfl, hs⟩ := hi
        rw [Nat.zero_add] at hs hn2
        obtain ⟨rfl, hj⟩ := range_at hk
        have hl2 := hs.2
        refine ⟨_, rfl, _, rfl, by decide, by rw [List.length_map, sizeLine_eq]; omega, _, rfl, ⟨by decide, by decide⟩, ?_⟩
        have hs2 := hs.snoc (v := y)
        refine ⟨_, rfl, _, _, rfl, rfl, rfl, rfl, _, rfl, iteB (fun e => ?_) fun e => ?_⟩
        · refine hn _ ⟨ns ++ [y % 1009], _, _, _, _, by rw [← snoc]; rfl, hs2.1, ?_⟩
          have := hs2.2
          omega
        · exact hn2 _ ⟨ns ++ [y % 1009], _, _, by rw [← snoc]; rfl, hs2.1, by have := hs2.2; omega⟩
      · obtain ⟨ns, y, x4, rfl, hs⟩ := hi
        rw [List.length_range] at hs
        exact hn _ ⟨ns, _, _, _, _, rfl, hs.1, by have := hs.2; omega⟩
    · refine ⟨_, rfl, by decide, _, rfl, by decide, by decide, _, rfl, .inr (rl 10 (by decide)), ?_⟩
      refine forL_t (fun k : Nat => D.int (0 + (k : Int))) (fun j ρ => ∃ ns y z x4, ρ = [some (.scr l), some (.lst (ns.map .int)), some (.int x), some (.int y), x4, some (.int z)] ∧ Str9 ns (i * 60 + j)) (List.range 10) 0 _ ⟨ns, _, _, x4, rfl, hs⟩ (fun j k ρ N2 hk hi hn2 => ?_) fun ρ hi => ?_
      · obtain ⟨ns, y, z, x4, rfl, hs⟩ := hi
        rw [Nat.zero_add] at hs hn2
        obtain ⟨rfl, hj⟩ := range_at hk
        have hl2 := hs.2
        refine ⟨_, rfl, .inr ⟨by decide, by decide⟩, _, rfl, .inl ⟨by decide, by decide⟩, by decide, _, rfl, _, rfl, .inr ⟨by decide, by decide⟩, _, rfl, by decide, by decide, by rw [List.length_map, sizeLine_eq]; omega, ?_⟩
        exact hn2 _ ⟨ns ++ [_ % 1009], _, _, _, by rw [← snoc]; rfl, (hs.snoc).1, by have := (hs.snoc (v := 0)).2; rw [List.length_append] at this ⊢; exact this⟩
      · obtain ⟨ns, y, z, x4, rfl, hs⟩ := hi
        rw [List.length_range] at hs
        exact hn _ ⟨ns, _, _, _, _, rfl, hs.1, by have := hs.2; omega⟩
  · obtain ⟨ns, x2, x3, x4, x5, rfl, hs⟩ := hi
    rw [Nat.zero_add] at hs
    have hb := hs.2
    refine ⟨_, rfl, _, _, rfl, rfl, rfl, rfl, _, rfl, iteB (fun e => ?_) fun e => ?_⟩
    · refine ⟨_, rfl, by rw [List.length_map, sizeLine_eq]; omega, _, rfl, ?_⟩
      rw [snoc ns 0]
      exact q (ns ++ [0 % 1009]) (by simp) ⟨hs.snoc.1, by have := (hs.snoc (v := 0)).2; omega⟩
    · refine ⟨_, rfl, q ns (fun z => ?_) ⟨hs.1, by omega⟩⟩
      rw [eqv_int, z] at e
      exact of_decide_eq_false e rfl
end

theorem cut_to {α : Type} (l : List α) (i : Nat) : cutL l none (some (i : Int)) = l.take i := by
  unfold cutL
  rw [HT.sIx_nat, HT.sIx_none, List.drop_zero, Nat.sub_zero]
  rcases Nat.le_total i l.length with h | h
  · rw [Nat.min_eq_left h]
  · rw [Nat.min_eq_right h, List.take_of_length_le h, List.take_length]
theorem cut_toI {α : Type} (l : List α) {i : Int} (h : 0 ≤ i) : cutL l none (some i) = l.take i.toNat := by
  obtain ⟨n, rfl⟩ := Int.eq_ofNat_of_zero_le h
  exact cut_to l n
def mNextD := mNext
section
variable {T : Tb}
theorem next_ok (hN : Has T "_law_next" 2 mNext) {many : Int} {es : List E} {Q : DK} {X : EK} (hm : 0 < many) (ho : es.any ownB = false) (q : ∀ r : Int, 0 ≤ r → r < many → Q (.int r)) :
    ∃ e, T.fn "_law_next" = some e ∧ ([D.st, .int many]).length = e.n ∧ e.m [D.st, .int many] (fun d => (es.any ownB = true → flatD d = true) ∧ Q d) X := call_ok hN rfl ho ⟨many, rfl, hm, q⟩
end
def tagD : Option Exn → D → D
  | none, v => v
  | some x, _ => if x.cls = "TooLarge" then .str "large" else .str "refused"
def toldD (d : D) : D := .tup [.str "told", d]
theorem szl {n : Nat} (h : Nat.ble n 16777216 = true := by rfl) : n ≤ sizeLine := by
  rw [sizeLine_eq]
  exact Nat.le_of_ble_eq_true h
theorem szm {n m : Nat} (h : n ≤ 100) (h2 : Nat.ble m 1000 = true := by rfl) : n + m ≤ sizeLine := by
  rw [sizeLine_eq]
  have := Nat.le_of_ble_eq_true h2
  omega
/-! K1: what is sorted -/
open L2 (Key)

def leD (a b : D) : Bool := PySem.W.dataLe false encD a b
theorem sortD_map {α : Type} (f : α → D) (l : List α) : sortD (l.map f) = (l.mergeSort fun a b => leD (f a) (f b)).map f :=
  (List.map_mergeSort (r := fun a b => leD (f a) (f b)) (s := PySem.W.dataLe false encD) (f := f) (l := l) fun _ _ _ _ => rfl).symm
def sS (l : List Str) : List Str := l.mergeSort fun a b => leD (.str a) (.str b)
def encT (r : List Str) : D := .tup (r.map .str)
def encR (r : List Str) : D := .tup [.int (r.length : Int), encT r]
def sT (l : List (List Str)) : List (List Str) := l.mergeSort fun a b => leD (encT a) (encT b)
def sR (l : List (List Str)) : List (List Str) := l.mergeSort fun a b => leD (encR a) (encR b)
theorem encD_T (r : List Str) : encD (encT r) = .tuple (r.map PyData.str) := by
  unfold encD encT
  show ((toPy.toPyL (r.map D.str)).map PyData.tuple).getD .none = _
  rw [toPy_strs]
  rfl
theorem toPy_T (r : List Str) : toPy (encT r) = some (.tuple (r.map PyData.str)) := by
  show (toPy.toPyL (r.map D.str)).map PyData.tuple = _
  rw [toPy_strs]
  rfl
theorem toPy_R (r : List Str) : toPy (encR r) = some (.tuple [.int (r.length : Int), .tuple (r.map PyData.str)]) := by
  have h : toPy.toPyL [.int (r.length : Int), encT r] = some [.int (r.length : Int), .tuple (r.map PyData.str)] := by
    show (match toPy (.int (r.length : Int)), toPy.toPyL [encT r] with
      | some p, some q => some (p :: q)
      | _, _ => none) = _
    have h2 : toPy.toPyL [encT r] = some [.tuple (r.map PyData.str)] := by
      show (match toPy (encT r), toPy.toPyL [] with
        | some p, some q => some (p :: q)
        | _, _ => none) = _
      rw [toPy_T]
      rfl
    rw [h2]
    rfl
  show (toPy.toPyL [.int (r.length : Int), encT r]).map PyData.tuple = _
  rw [h]
  rfl
theorem encD_R (r : List Str) : encD (encR r) = .tuple [.int (r.length : Int), .tuple (r.map PyData.str)] := by
  unfold encD
  rw [toPy_R]
  rfl
theorem toPyL_ex : ∀ l : List D, (∀ d ∈ l, ∃ p, toPy d = some p) → ∃ ps, toPy.toPyL l = some ps
  | [], _ => ⟨_, rfl⟩
  | d :: l, h => by
    obtain ⟨p, hp⟩ := h d List.mem_cons_self
    obtain ⟨ps, hl⟩ := toPyL_ex l fun x hx => h x (List.mem_cons_of_mem _ hx)
    refine ⟨p :: ps, ?_⟩
    show (match toPy d, toPy.toPyL l with
      | some p, some q => some (p :: q)
      | _, _ => none) = _
    rw [hp, hl]
theorem alike_ss : ∀ a b : List Str, PySem.W.alike (.tuple (a.map .str)) (.tuple (b.map .str)) = true := fun a b => by
  simp only [PySem.W.alike]
  exact alike_strs a b
theorem dp_ss : ∀ a : List Str, PyData.depthAll (a.map PyData.str) = 0
  | [] => by simp only [List.map_nil, PyData.depthAll]
  | x :: a => by simp only [List.map_cons, PyData.depthAll, PyData.depth, dp_ss a]; rfl
theorem sc_strs (l : List Str) : SortC (l.map .str) := by
  have e : (l.map D.str).map encD = l.map PyData.str := by rw [List.map_map]; rfl
  refine ⟨⟨_, toPy_strs l⟩, by rw [e]; exact PySem.W.AllAlike.of fun _ _ => by simp only [PySem.W.alike], ?_, fun d hd => ?_⟩
  · rw [e]
    exact .inl (PySem.W.Sortable.others fun b => ⟨fun z => (by cases z), fun xs z => (by cases z)⟩)
  · obtain ⟨x, _, rfl⟩ := List.mem_map.mp hd
    show (PyData.str x).depth ≤ 60
    simp only [PyData.depth]
    decide
theorem sc_rows (l : List (List Str)) : SortC (l.map encR) := by
  have e : (l.map encR).map encD = l.map fun r => PyData.tuple [.int (r.length : Int), .tuple (r.map PyData.str)] := by
    rw [List.map_map]
    exact List.map_congr_left fun r _ => encD_R r
  refine ⟨toPyL_ex _ fun d hd => ?_, ?_, ?_, fun d hd => ?_⟩
  · obtain ⟨r, _, rfl⟩ := List.mem_map.mp hd
    exact ⟨_, toPy_R r⟩
  · rw [e]
    refine PySem.W.AllAlike.of fun a b => ?_
    simp only [PySem.W.alike, PySem.W.alikeAll, alike_strs, Bool.and_self]
  · rw [e]
    exact .inl (PySem.W.Sortable.tuples fun b => ⟨_, _, rfl⟩)
  · obtain ⟨r, _, rfl⟩ := List.mem_map.mp hd
    rw [encD_R]
    simp only [PyData.depth, PyData.depthAll, dp_ss]
    decide
theorem sc_tups (l : List (List Str)) : SortC (([] :: l).map encT) := by
  have e : ([] :: l).map encT = encT [] :: l.map encT := rfl
  have e2 : (([] :: l).map encT).map encD = ([] :: l).map fun r => PyData.tuple (r.map PyData.str) := by
    rw [List.map_map]
    exact List.map_congr_left fun r _ => encD_T r
  refine ⟨toPyL_ex _ fun d hd => ?_, ?_, ?_, fun d hd => ?_⟩
  · obtain ⟨r, _, rfl⟩ := List.mem_map.mp hd
    exact ⟨_, toPy_T r⟩
  · rw [e2]
    exact PySem.W.AllAlike.of fun a b => alike_ss a b
  · rw [e2]
    refine .inr ⟨fun d hd => ?_, _, rfl⟩
    obtain ⟨r, _, rfl⟩ := List.mem_map.mp hd
    exact ⟨_, rfl⟩
  · obtain ⟨r, _, rfl⟩ := List.mem_map.mp hd
    rw [encD_T]
    simp only [PyData.depth, dp_ss]
    decide
/-! the order of the rows tells them apart -/
theorem listLt_anti : ∀ a b : List Str, PySem.W.listLt a b = false → PySem.W.listLt b a = false → a = b
  | [], [], _, _ => rfl
  | [], _ :: _, h, _ => by cases h
  | _ :: _, [], _, h => by cases h
  | x :: a, y :: b, h1, h2 => by
    unfold PySem.W.listLt at h1 h2
    by_cases e : x = y
    · rw [if_pos e] at h1
      rw [if_pos e.symm] at h2
      rw [e, listLt_anti a b h1 h2]
    · exfalso
      rw [if_neg e] at h1
      rw [if_neg fun z => e z.symm] at h2
      have k1 : ¬ x.cps.toList < y.cps.toList := of_decide_eq_false h1
      have k2 : ¬ y.cps.toList < x.cps.toList := of_decide_eq_false h2
      have := List.le_antisymm (List.not_lt.mp k2) (List.not_lt.mp k1)
      apply e
      cases x with
      | mk cx =>
        cases y with
        | mk cy =>
          congr
          exact Array.toList_inj.mp this
theorem lt_R (a b : List Str) : PySem.W.dataLt (encD (encR a)) (encD (encR b)) = if (a.length : Int) = b.length then PySem.W.listLt a b else decide ((a.length : Int) < b.length) := by
  rw [encD_R, encD_R]
  exact PySem.W.DatumOrd.lt_eq (α := Int × PySem.W.Tup Str) ((a.length : Int), ⟨a⟩) ((b.length : Int), ⟨b⟩)
theorem leR_anti (a b : List Str) (h1 : leD (encR a) (encR b) = true) (h2 : leD (encR b) (encR a) = true) : a = b := by
  have k1 : PySem.W.dataLt (encD (encR b)) (encD (encR a)) = false := by
    have : (!PySem.W.dataLt (encD (encR b)) (encD (encR a))) = true := h1
    simpa using this
  have k2 : PySem.W.dataLt (encD (encR a)) (encD (encR b)) = false := by
    have : (!PySem.W.dataLt (encD (encR a)) (encD (encR b))) = true := h2
    simpa using this
  rw [lt_R] at k1 k2
  by_cases e : (a.length : Int) = b.length
  · rw [if_pos e] at k2
    rw [if_pos e.symm] at k1
    exact listLt_anti a b k2 k1
  · rw [if_neg e] at k2
    rw [if_neg fun z => e z.symm] at k1
    have := of_decide_eq_false k1
    have := of_decide_eq_false k2
    omega
theorem perm_eq {α : Type} {le : α → α → Bool} (anti : ∀ a b, le a b = true → le b a = true → a = b) : ∀ l m : List α, l.Perm m → l.Pairwise (fun a b => le a b = true) → m.Pairwise (fun a b => le a b = true) → l = m
  | [], m, p, _, _ => (List.nil_perm.mp p).symm
  | a :: l, m, p, h1, h2 => by
    cases m with
    | nil => exact absurd p.length_eq (by simp)
    | cons b m =>
      have e : a = b := by
        have ha : a ∈ b :: m := p.subset List.mem_cons_self
        have hb : b ∈ a :: l := p.symm.subset List.mem_cons_self
        rcases List.mem_cons.mp ha with z | ha
        · exact z
        rcases List.mem_cons.mp hb with z | hb
        · exact z.symm
        exact anti a b ((List.pairwise_cons.mp h1).1 b hb) ((List.pairwise_cons.mp h2).1 a ha)
      subst e
      rw [perm_eq anti l m (List.Perm.cons_inv p) (List.pairwise_cons.mp h1).2 (List.pairwise_cons.mp h2).2]
theorem leR_total : PySem.W.TotalLe fun a b : List Str => leD (encR a) (encR b) := PySem.W.sortLe_total (PyProof.Rows.listOrd PyProof.Rows.itemOrd) false fun r : List Str => PySem.W.keyToks (encD (encR r))
theorem sR_sT (l : List (List Str)) : sR (sT l) = sR l := by
  refine perm_eq leR_anti _ _ ?_ (PySem.W.sort_pairwise leR_total _) (PySem.W.sort_pairwise leR_total _)
  exact (List.mergeSort_perm _ _).trans ((List.mergeSort_perm _ _).trans (List.mergeSort_perm _ _).symm)

def missing : Exn := ⟨"Missing", none⟩
theorem wk_of {α : Type} (f : α → D) (l : List α) (hl : l.length ≤ 5000) : (l.map f).length ≤ wkL := by
  rw [List.length_map]
  unfold wkL
  omega
theorem repr_tup {w n : Nat} {l : List D} (hn : n + 1 ≤ 60) (hw : wt w (n + 1) ≤ 1048576) (h : okN w (n + 1) (.tup l) = true) : ∃ s : Str, ∀ Q : DK, Q (.str s) → bfD .repr [.tup l] Q := by
  obtain ⟨p, e, g⟩ := okN_py (n + 1) _ h
  have e : (toPy.toPyL l).map PyData.tuple = some p := e
  cases e2 : toPy.toPyL l with
  | none => rw [e2] at e; cases e
  | some ps =>
    rw [e2] at e
    cases e
    obtain ⟨g1, g2, g3, g4⟩ := g.repr hn hw
    exact ⟨_, fun Q q => ⟨ps, e2, g1, g2, g3, g4, q⟩⟩
def ltS (a b : Str) : Prop := a.cps.toList < b.cps.toList
theorem pw_ris {l : List Str} (h : l.Pairwise ltS) : risB (l.map .str) = true := by
  unfold risB
  rw [List.all_eq_true]
  intro k hk
  rw [List.mem_range, List.length_map] at hk
  rw [List.pairwise_iff_getElem] at h
  have e1 : (l.map D.str)[k]? = some (.str (l[k]'(by omega))) := by rw [List.getElem?_map, List.getElem?_eq_getElem (by omega)]; rfl
  have e2 : (l.map D.str)[k + 1]? = some (.str (l[k + 1]'(by omega))) := by rw [List.getElem?_map, List.getElem?_eq_getElem (by omega)]; rfl
  rw [e1, e2]
  exact decide_eq_true (h k (k + 1) (by omega) (by omega) (by omega))
def addO (rows : List (List Str)) (o : Str) : List (List Str) := rows ++ rows.map fun r => r ++ [o]
def subs (left : List Str) : List (List Str) := left.foldl addO [[]]
theorem subs_snoc (l : List Str) (o : Str) : subs (l ++ [o]) = addO (subs l) o := by
  unfold subs
  rw [List.foldl_append]
  rfl
theorem subs_len : ∀ n (l : List Str), l.length = n → (subs l).length = 2 ^ n
  | 0, l, h => by rw [List.eq_nil_of_length_eq_zero h]; rfl
  | n + 1, l, h => by
    have hne : l ≠ [] := fun z => by rw [z] at h; cases h
    have e := List.dropLast_concat_getLast hne
    rw [← e, subs_snoc]
    unfold addO
    have k : (subs l.dropLast).length = 2 ^ n := subs_len n _ (by rw [List.length_dropLast, h]; rfl)
    rw [List.length_append, List.length_map, k, Nat.pow_succ]
    omega
theorem subs_head : ∀ l : List Str, ∃ r, subs l = [] :: r := by
  have go : ∀ (l : List Str) (acc : List (List Str)), ∃ r, l.foldl addO ([] :: acc) = [] :: r := fun l => by
    induction l with
    | nil => exact fun acc => ⟨acc, rfl⟩
    | cons o l ih => exact fun acc => ih (acc ++ ([] :: acc).map fun r => r ++ [o])
  exact fun l => go l []
theorem subs_sub : ∀ (l : List Str) (acc : List (List Str)) (base : List Str), (∀ r ∈ acc, r.Sublist base) → ∀ r ∈ l.foldl addO acc, r.Sublist (base ++ l)
  | [], acc, base, h, r, hr => by rw [List.append_nil]; exact h r hr
  | o :: l, acc, base, h, r, hr => by
    have e : base ++ o :: l = (base ++ [o]) ++ l := by simp
    rw [e]
    refine subs_sub l (addO acc o) (base ++ [o]) (fun r hr => ?_) r hr
    rcases List.mem_append.mp hr with z | z
    · exact (h r z).trans (List.sublist_append_left _ _)
    · obtain ⟨r', h', rfl⟩ := List.mem_map.mp z
      exact (h r' h').append (List.Sublist.refl _)
theorem subs_sublist {l r : List Str} (h : r ∈ subs l) : r.Sublist l := by
  have := subs_sub l [[]] [] (fun r hr => by rw [List.mem_singleton.mp hr]; exact List.Sublist.refl _) r h
  simpa using this
def mSubsets : DSp := fun ds Q _ => ∃ l : List Str, ds = [.lst (l.map .str)] ∧ l.length ≤ 12 ∧ Q (.lst ((sT (subs l)).map encT))
theorem repr_raw {w n : Nat} {l : List D} (hn : n + 1 ≤ 60) (hw : wt w (n + 1) ≤ 1048576) (h : okN w (n + 1) (.tup l) = true) : ∃ p, toPy.toPyL l = some p ∧ (PyData.tuple p).showable = true ∧ (PyData.tuple p).hasDict = false ∧ (PyData.tuple p).depth ≤ 60 ∧ (PyData.tuple p).shown.length ≤ sizeLine := by
  obtain ⟨p, e, g⟩ := okN_py (n + 1) _ h
  have e : (toPy.toPyL l).map PyData.tuple = some p := e
  cases e2 : toPy.toPyL l with
  | none => rw [e2] at e; cases e
  | some ps =>
    rw [e2] at e
    cases e
    exact ⟨ps, rfl, g.repr hn hw⟩
theorem rl_wk {f : Nat → D} {n : Nat} (h : n ≤ 100) : ((List.range n).map f).length ≤ wkL := by
  rw [List.length_map, List.length_range]
  unfold wkL
  omega
end DL

/-! G1: plain data by widths, level by level -/
namespace DL
open PySem
open L2 (Key)

def okW : List Nat → D → Bool
  | _, .non => true
  | _, .bl _ => true
  | _, .int i => decide (i.natAbs ≤ 1000)
  | _, .str x => okS x
  | w :: ws, .tup l => decide (l.length ≤ w) && l.all fun d => okW ws d
  | w :: ws, .lst l => decide (l.length ≤ w) && l.all fun d => okW ws d
  | w :: ws, .kt l => decide (l.length ≤ w) && l.all fun d => okW ws d
  | _, _ => false
def wtW : List Nat → Nat
  | [] => 12
  | w :: ws => w * (wtW ws + 1) + 12
theorem wtW_le {ws : List Nat} : 12 ≤ wtW ws := by
  cases ws with
  | nil => exact Nat.le_refl _
  | cons w ws => unfold wtW; omega
mutual
theorem okW_py : ∀ (ws : List Nat) (d : D), okW ws d = true → ∃ p, toPy d = some p ∧ GoodP ws.length (wtW ws) p
  | ws, .non, _ => ⟨.none, rfl, rfl, Nat.zero_le _, by simp [PyData.weight], rfl, rfl⟩
  | ws, .bl b, _ => ⟨.bool b, rfl, rfl, Nat.zero_le _, by simp [PyData.weight], rfl, rfl⟩
  | ws, .int i, h => by
    have h : i.natAbs ≤ 1000 := by
      cases ws <;> exact of_decide_eq_true h
    exact ⟨.int i, rfl, rfl, Nat.zero_le _, Nat.le_trans (weight_int h) wtW_le, short_int h, show_int h⟩
  | ws, .str x, h => by
    have h : okS x = true := by
      cases ws <;> exact h
    obtain ⟨h1, h2⟩ := and2 h
    exact ⟨.str x, rfl, h1, Nat.zero_le _, by
      have := of_decide_eq_true h2
      have : x.cps.size ≤ 12 := this
      simp only [PyData.weight]
      exact Nat.le_trans this wtW_le, rfl, rfl⟩
  | w :: ws, .tup l, h => by
    obtain ⟨h1, h2⟩ := and2 (show (decide (l.length ≤ w) && l.all fun d => okW ws d) = true from h)
    obtain ⟨ps, e, g1, g2, g3, g4, g5⟩ := okW_pys ws l fun d hd => List.all_eq_true.mp h2 d hd
    refine ⟨.tuple ps, by show (toPy.toPyL l).map PyData.tuple = _; rw [e]; rfl, ?_, ?_, ?_, ?_, ?_⟩
    · simpa only [PyData.canLay0] using g1
    · simp only [PyData.depth, List.length_cons]; omega
    · simp only [PyData.weight]
      have := of_decide_eq_true h1
      have : l.length * (wtW ws + 1) ≤ w * (wtW ws + 1) := Nat.mul_le_mul_right _ this
      unfold wtW
      omega
    · simpa only [PyData.intsShort] using g4
    · simpa only [PyData.showable] using g5
  | w :: ws, .lst l, h => by
    obtain ⟨h1, h2⟩ := and2 (show (decide (l.length ≤ w) && l.all fun d => okW ws d) = true from h)
    obtain ⟨ps, e, g1, g2, g3, g4, g5⟩ := okW_pys ws l fun d hd => List.all_eq_true.mp h2 d hd
    refine ⟨.list ps, by show (toPy.toPyL l).map PyData.list = _; rw [e]; rfl, ?_, ?_, ?_, ?_, ?_⟩
    · simpa only [PyData.canLay0] using g1
    · simp only [PyData.depth, List.length_cons]; omega
    · simp only [PyData.weight]
      have := of_decide_eq_true h1
      have : l.length * (wtW ws + 1) ≤ w * (wtW ws + 1) := Nat.mul_le_mul_right _ this
      unfold wtW
      omega
    · simpa only [PyData.intsShort] using g4
    · simpa only [PyData.showable] using g5
  | w :: ws, .kt l, h => by
    obtain ⟨h1, h2⟩ := and2 (show (decide (l.length ≤ w) && l.all fun d => okW ws d) = true from h)
    obtain ⟨ps, e, g1, g2, g3, g4, g5⟩ := okW_pys ws l fun d hd => List.all_eq_true.mp h2 d hd
    refine ⟨.tuple ps, by show (toPy.toPyL l).map PyData.tuple = _; rw [e]; rfl, ?_, ?_, ?_, ?_, ?_⟩
    · simpa only [PyData.canLay0] using g1
    · simp only [PyData.depth, List.length_cons]; omega
    · simp only [PyData.weight]
      have := of_decide_eq_true h1
      have : l.length * (wtW ws + 1) ≤ w * (wtW ws + 1) := Nat.mul_le_mul_right _ this
      unfold wtW
      omega
    · simpa only [PyData.intsShort] using g4
    · simpa only [PyData.showable] using g5
  | [], .tup _, h => by cases h
  | [], .lst _, h => by cases h
  | [], .kt _, h => by cases h
  | ws, .dic _, h => by cases ws <;> cases h
  | ws, .dit _, h => by cases ws <;> cases h
  | ws, .obj _ _, h => by cases ws <;> cases h
  | ws, .fn _, h => by cases ws <;> cases h
  | ws, .st, h => by cases ws <;> cases h
  | ws, .scr _, h => by cases ws <;> cases h
theorem okW_pys (ws : List Nat) : ∀ (l : List D), (∀ d ∈ l, okW ws d = true) → ∃ ps, toPy.toPyL l = some ps ∧ PyData.canLayAll0 ps = true ∧ PyData.depthAll ps ≤ ws.length ∧ PyData.weightAll ps ≤ l.length * (wtW ws + 1) ∧ PyData.intsShortAll 13 ps = true ∧ PyData.showableAll ps = true
  | [], _ => ⟨[], rfl, rfl, Nat.zero_le _, by simp [PyData.weightAll], rfl, rfl⟩
  | d :: l, h => by
    obtain ⟨p, e, g1, g2, g3, g4, g5⟩ := okW_py ws d (h d List.mem_cons_self)
    obtain ⟨ps, e', k1, k2, k3, k4, k5⟩ := okW_pys ws l fun d hd => h d (List.mem_cons_of_mem _ hd)
    refine ⟨p :: ps, ?_, ?_, ?_, ?_, ?_, ?_⟩
    · show (match toPy d, toPy.toPyL l with
        | some p, some q => some (p :: q)
        | _, _ => none) = _
      rw [e, e']
    · simp only [PyData.canLayAll0, g1, k1]; rfl
    · simp only [PyData.depthAll]; omega
    · simp only [PyData.weightAll, List.length_cons, Nat.succ_mul]; omega
    · simp only [PyData.intsShortAll, g4, k4]; rfl
    · simp only [PyData.showableAll, g5, k5]; rfl
end
theorem okW_str {ws : List Nat} {x : Str} (h : okS x = true) : okW ws (.str x) = true := by cases ws <;> exact h
theorem okW_bl {ws : List Nat} {b : Bool} : okW ws (.bl b) = true := by cases ws <;> rfl
theorem okW_tup {w : Nat} {ws : List Nat} {l : List D} (h : l.length ≤ w) (h2 : ∀ d ∈ l, okW ws d = true) : okW (w :: ws) (.tup l) = true := by
  show (decide (l.length ≤ w) && l.all fun d => okW ws d) = true
  rw [decide_eq_true h, Bool.true_and, List.all_eq_true]
  exact h2
theorem okW_lst {w : Nat} {ws : List Nat} {l : List D} (h : l.length ≤ w) (h2 : ∀ d ∈ l, okW ws d = true) : okW (w :: ws) (.lst l) = true := by
  show (decide (l.length ≤ w) && l.all fun d => okW ws d) = true
  rw [decide_eq_true h, Bool.true_and, List.all_eq_true]
  exact h2
theorem okW_strs {w : Nat} {ws : List Nat} {l : List Str} (h : l.length ≤ w) (h2 : ∀ x ∈ l, okS x = true) : okW (w :: ws) (.tup (l.map .str)) = true :=
  okW_tup (by rw [List.length_map]; exact h) fun d hd => by
    obtain ⟨x, hx, rfl⟩ := List.mem_map.mp hd
    exact okW_str (h2 x hx)
theorem mem2 {α : Type} {P : α → Prop} {a b : α} (ha : P a) (hb : P b) : ∀ x ∈ [a, b], P x := fun x hx => by
  rcases List.mem_cons.mp hx with rfl | hx
  · exact ha
  · rw [List.mem_singleton.mp hx]; exact hb
theorem mem1 {α : Type} {P : α → Prop} {a : α} (ha : P a) : ∀ x ∈ [a], P x := fun x hx => by rw [List.mem_singleton.mp hx]; exact ha
section
variable {Q : DK}
theorem repr_lst {ws : List Nat} {l : List D} (hn : ws.length ≤ 60) (hw : wtW ws ≤ 1048576) (h : okW ws (.lst l) = true) : ∃ p, toPy.toPyL l = some p ∧ (PyData.list p).showable = true ∧ (PyData.list p).hasDict = false ∧ (PyData.list p).depth ≤ 60 ∧ (PyData.list p).shown.length ≤ sizeLine := by
  obtain ⟨p, e, g⟩ := okW_py ws _ h
  have e : (toPy.toPyL l).map PyData.list = some p := e
  cases e2 : toPy.toPyL l with
  | none => rw [e2] at e; cases e
  | some ps =>
    rw [e2] at e
    cases e
    obtain ⟨g1, g2, g3, g4⟩ := g.repr hn hw
    exact ⟨ps, rfl, g1, g2, g3, g4⟩
theorem repr_tupW {ws : List Nat} {l : List D} (hn : ws.length ≤ 60) (hw : wtW ws ≤ 1048576) (h : okW ws (.tup l) = true) : ∃ p, toPy.toPyL l = some p ∧ (PyData.tuple p).showable = true ∧ (PyData.tuple p).hasDict = false ∧ (PyData.tuple p).depth ≤ 60 ∧ (PyData.tuple p).shown.length ≤ sizeLine := by
  obtain ⟨p, e, g⟩ := okW_py ws _ h
  have e : (toPy.toPyL l).map PyData.tuple = some p := e
  cases e2 : toPy.toPyL l with
  | none => rw [e2] at e; cases e
  | some ps =>
    rw [e2] at e
    cases e
    obtain ⟨g1, g2, g3, g4⟩ := g.repr hn hw
    exact ⟨ps, rfl, g1, g2, g3, g4⟩
theorem eq_selfW {ws : List Nat} {x : D} (hn : ws.length ≤ 60) (h : okW ws x = true) (q : Q (.bl true)) : cmpD .Eq x x Q := by
  obtain ⟨p, e, g⟩ := okW_py ws x h
  have : cmpD .Eq x x Q = ∃ p q, toPy x = some p ∧ toPy x = some q ∧ shEq p q = true ∧ shEq q p = true ∧ Q (.bl (PyData.eqv p q)) := by
    cases x <;> first | rfl | (cases ws <;> cases h)
  rw [this]
  exact ⟨p, p, e, e, shEq_of (g.shaped (by omega)), shEq_of (g.shaped (by omega)), by rw [SeqAt.eqv_refl p g.cl]; exact q⟩
theorem ne_selfW {ws : List Nat} {x : D} (hn : ws.length ≤ 60) (h : okW ws x = true) (q : Q (.bl false)) : cmpD .NotEq x x Q := by
  obtain ⟨p, e, g⟩ := okW_py ws x h
  have : cmpD .NotEq x x Q = ∃ p q, toPy x = some p ∧ toPy x = some q ∧ shEq p q = true ∧ shEq q p = true ∧ Q (.bl (!PyData.eqv p q)) := by
    cases x <;> rfl
  rw [this]
  exact ⟨p, p, e, e, shEq_of (g.shaped (by omega)), shEq_of (g.shaped (by omega)), by rw [SeqAt.eqv_refl p g.cl]; exact q⟩
/-! tuples of texts -/
theorem eqv_all : ∀ a b : List Str, PyData.eqvAll (a.map .str) (b.map .str) = decide (a = b)
  | [], [] => rfl
  | [], _ :: _ => rfl
  | _ :: _, [] => rfl
  | x :: a, y :: b => by
    simp only [List.map_cons, PyData.eqvAll, eqv_all a b, eqv_str]
    rw [Bool.eq_iff_iff]
    simp
theorem eqv_T (a b : List Str) : PyData.eqv (.tuple (a.map .str)) (.tuple (b.map .str)) = decide (a = b) := by
  simp only [PyData.eqv]
  exact eqv_all a b
theorem sh_T {a : List Str} (h : ∀ x ∈ a, okS x = true) : SeqAt.shaped (.tuple (a.map PyData.str)) = true := by
  obtain ⟨p, e, g⟩ := okW_py [a.length] _ (okW_strs (Nat.le_refl _) h)
  have e2 : toPy (.tup (a.map .str)) = some (.tuple (a.map PyData.str)) := toPy_T a
  rw [e2] at e
  cases e
  exact g.shaped (show 1 ≤ 64 by decide)
theorem eq_T {a b : List Str} (ha : ∀ x ∈ a, okS x = true) (hb : ∀ x ∈ b, okS x = true) (q : Q (.bl (decide (a = b)))) : cmpD .Eq (encT a) (encT b) Q :=
  ⟨_, _, toPy_T a, toPy_T b, shEq_of (sh_T ha), shEq_of (sh_T hb), by rw [eqv_T]; exact q⟩
theorem ne_T {a b : List Str} (ha : ∀ x ∈ a, okS x = true) (hb : ∀ x ∈ b, okS x = true) (q : Q (.bl (!decide (a = b)))) : cmpD .NotEq (encT a) (encT b) Q :=
  ⟨_, _, toPy_T a, toPy_T b, shEq_of (sh_T ha), shEq_of (sh_T hb), by rw [eqv_T]; exact q⟩
theorem toPy_Ts : ∀ l : List (List Str), toPy.toPyL (l.map encT) = some (l.map fun r => PyData.tuple (r.map .str))
  | [] => rfl
  | r :: l => by
    show (match toPy (encT r), toPy.toPyL (l.map encT) with
      | some p, some q => some (p :: q)
      | _, _ => none) = _
    rw [toPy_T, toPy_Ts l]
    rfl
theorem inn_T {neg : Bool} {a : List Str} {l : List (List Str)} (ha : ∀ x ∈ a, okS x = true) (hl : ∀ r ∈ l, ∀ x ∈ r, okS x = true) (hw : ∀ r ∈ l, r.length ≤ 1000) (q : Q (.bl (negB neg (decide (a ∈ l))))) : innD neg (encT a) (.lst (l.map encT)) Q := by
  have sh : SeqAt.shaped (.list (l.map fun r => PyData.tuple (r.map .str))) = true := by
    obtain ⟨p, e, g⟩ := okW_py [l.length, 1000] (.lst (l.map encT)) (okW_lst (by rw [List.length_map]; exact Nat.le_refl _) fun d hd => by
      obtain ⟨r, hr, rfl⟩ := List.mem_map.mp hd
      exact okW_strs (hw r hr) (hl r hr))
    have e : (toPy.toPyL (l.map encT)).map PyData.list = some p := e
    rw [toPy_Ts] at e
    cases e
    exact g.shaped (show 2 ≤ 64 by decide)
  refine ⟨_, _, toPy_T a, toPy_Ts l, sh_T ha, sh, ?_⟩
  have : ((l.map fun r => PyData.tuple (r.map .str)).any fun z => PyData.eqv z (.tuple (a.map .str))) = decide (a ∈ l) := by
    rw [List.any_map, Bool.eq_iff_iff, List.any_eq_true]
    simp only [Function.comp, eqv_T, decide_eq_true_eq]
    constructor
    · rintro ⟨r, hr, rfl⟩
      exact hr
    · exact fun h => ⟨a, h, rfl⟩
  rw [this]
  exact q
end
section
variable {T : Tb}
def mSame : DSp := fun ds Q _ => ∃ d ws, ds = [d, d] ∧ okW ws d = true ∧ ws.length ≤ 50 ∧ wtW ws ≤ 1000000 ∧ Q (.bl true)
theorem pl_same (ds : List D) (Q : DK) (X : EK) (h : mSame ds Q X) : wpF T n__law_same.length b__law_same ds Q X := by
  obtain ⟨d, ws, rfl, ok, hn, hw, q⟩ := h
  obtain ⟨ps, e2, g1, g2, g3, g4⟩ := repr_lst (ws := 1 :: ws) (l := [d]) (by rw [List.length_cons]; omega) (by unfold wtW; omega) (okW_lst (Nat.le_refl 1) (mem1 ok))
  refine ⟨_, rfl, szl, ps, e2, g1, g2, g3, g4, _, rfl, szl, ps, e2, g1, g2, g3, g4, _, _, rfl, rfl, rfl, rfl, ?_⟩
  rw [eqv_str, decide_eq_true rfl]
  exact q
end
end DL

/-! A1: formulas; their parts; what is measured -/
namespace DL
open PySem
open L2 (Key)

/-- a formula, well built or not: a word and texts; "not" and formulas; "and" or "or" and a tuple of formulas -/
inductive Fm where
  | lf (w : Str) (xs : List Str) | nt (fs : List Fm) | jn (w : Str) (fs : List Fm)
namespace Fm
mutual
def d : Fm → D
  | lf w xs => .tup (.str w :: xs.map .str)
  | nt fs => .tup (.str "not" :: dl fs)
  | jn w fs => .tup [.str w, .tup (dl fs)]
def dl : List Fm → List D
  | [] => []
  | f :: fs => d f :: dl fs
end
theorem dl_map : ∀ fs : List Fm, dl fs = fs.map d
  | [] => rfl
  | f :: fs => by
    show d f :: dl fs = _
    rw [dl_map fs]
    rfl
def inn : Fm → List Fm
  | lf _ _ => []
  | nt fs => fs
  | jn _ fs => fs
mutual
def pt : Fm → Nat
  | lf _ _ => 1
  | nt fs => 1 + ptl fs
  | jn _ fs => 1 + ptl fs
def ptl : List Fm → Nat
  | [] => 0
  | f :: fs => pt f + ptl fs
end
mutual
def dp : Fm → Nat
  | lf _ _ => 0
  | nt fs => dpl fs
  | jn _ fs => dpl fs
def dpl : List Fm → Nat
  | [] => 0
  | f :: fs => max (dp f + 1) (dpl fs)
end
def junB (w : Str) : Bool := decide (w = "and") || decide (w = "or")
mutual
def ok : Fm → Bool
  | lf w xs => okS w && (!junB w && (xs.all okS && (decide (xs.length ≤ 100) && (!decide (w = "not") || decide (xs = [])))))
  | nt fs => decide (fs.length ≤ 100) && okl fs
  | jn w fs => junB w && (decide (fs.length ≤ 100) && okl fs)
def okl : List Fm → Bool
  | [] => true
  | f :: fs => ok f && okl fs
end
theorem okl_all : ∀ fs : List Fm, okl fs = fs.all ok
  | [] => rfl
  | f :: fs => by
    show (ok f && okl fs) = _
    rw [okl_all fs]
    rfl
theorem ptl_map : ∀ fs : List Fm, ptl fs = (fs.map pt).sum
  | [] => rfl
  | f :: fs => by
    show pt f + ptl fs = _
    rw [ptl_map fs, List.map_cons, List.sum_cons]
theorem dpl_le : ∀ {fs : List Fm} {f : Fm}, f ∈ fs → dp f + 1 ≤ dpl fs
  | g :: fs, f, h => by
    show dp f + 1 ≤ max (dp g + 1) (dpl fs)
    rcases List.mem_cons.mp h with rfl | h
    · exact Nat.le_max_left _ _
    · exact Nat.le_trans (dpl_le h) (Nat.le_max_right _ _)
theorem pt_inn (f : Fm) : pt f = 1 + ptl f.inn := by cases f <;> rfl
theorem dp_inn (f : Fm) : dp f = dpl f.inn := by cases f <;> rfl
theorem ok_inn {f : Fm} (h : ok f = true) : f.inn.length ≤ 100 ∧ ∀ g ∈ f.inn, ok g = true := by
  cases f with
  | lf w xs => exact ⟨Nat.zero_le _, fun g hg => absurd hg List.not_mem_nil⟩
  | nt fs =>
    obtain ⟨h1, h2⟩ := and2 (show (decide (fs.length ≤ 100) && okl fs) = true from h)
    rw [okl_all] at h2
    exact ⟨of_decide_eq_true h1, List.all_eq_true.mp h2⟩
  | jn w fs =>
    obtain ⟨_, h⟩ := and2 (show (junB w && (decide (fs.length ≤ 100) && okl fs)) = true from h)
    obtain ⟨h1, h2⟩ := and2 h
    rw [okl_all] at h2
    exact ⟨of_decide_eq_true h1, List.all_eq_true.mp h2⟩
theorem ptl_snoc : ∀ (fs : List Fm) (f : Fm), ptl (fs ++ [f]) = ptl fs + pt f
  | [], f => by show pt f + 0 = 0 + pt f; omega
  | g :: fs, f => by
    show pt g + ptl (fs ++ [f]) = pt g + ptl fs + pt f
    rw [ptl_snoc fs]
    omega
theorem dpl_snoc : ∀ (fs : List Fm) (f : Fm), dpl (fs ++ [f]) = max (dpl fs) (dp f + 1)
  | [], f => by show max (dp f + 1) 0 = max 0 (dp f + 1); omega
  | g :: fs, f => by
    show max (dp g + 1) (dpl (fs ++ [f])) = max (max (dp g + 1) (dpl fs)) (dp f + 1)
    rw [dpl_snoc fs]
    omega
theorem jun_not : junB "not" = false := by decide +kernel
/-- the word -/
def wd : Fm → Str
  | lf w _ => w
  | nt _ => "not"
  | jn w _ => w
/-- the length of the tuple -/
def ln : Fm → Nat
  | lf _ xs => 1 + xs.length
  | nt fs => 1 + fs.length
  | jn _ _ => 2
def dt : Fm → List D
  | lf w xs => .str w :: xs.map .str
  | nt fs => .str "not" :: dl fs
  | jn w fs => [.str w, .tup (dl fs)]
theorem d_eq (f : Fm) : d f = .tup f.dt := by cases f <;> rfl
theorem dt_head (f : Fm) : f.dt[0]? = some (.str f.wd) := by cases f <;> rfl
theorem dt_len (f : Fm) : f.dt.length = f.ln := by
  cases f with
  | lf w xs => show (xs.map D.str).length + 1 = 1 + xs.length; rw [List.length_map]; omega
  | nt fs => show (dl fs).length + 1 = 1 + fs.length; rw [dl_map, List.length_map]; omega
  | jn w fs => rfl
theorem wd_ok {f : Fm} (h : ok f = true) : okS f.wd = true := by
  cases f with
  | lf w xs => exact (and2 h).1
  | nt fs => exact (show okS "not" = true from okS_lit)
  | jn w fs =>
    have h1 := (and2 (show (junB w && (decide (fs.length ≤ 100) && okl fs)) = true from h)).1
    unfold junB at h1
    rcases Bool.or_eq_true_iff.mp h1 with z | z
    · have z := of_decide_eq_true z; subst z; exact (show okS "and" = true from okS_lit)
    · have z := of_decide_eq_true z; subst z; exact (show okS "or" = true from okS_lit)
theorem jun_wd {f : Fm} (h : ok f = true) : junB f.wd = true → ∃ w fs, f = jn w fs := by
  cases f with
  | lf w xs =>
    intro z
    have h := (and2 (and2 (show (okS w && (!junB w && (xs.all okS && (decide (xs.length ≤ 100) && (!decide (w = "not") || decide (xs = [])))))) = true from h)).2).1
    have z : junB w = true := z
    rw [z] at h
    cases h
  | nt fs =>
    intro z
    have z : junB "not" = true := z
    rw [jun_not] at z
    cases z
  | jn w fs => exact fun _ => ⟨w, fs, rfl⟩
theorem mem_jun (w : Str) : decide (w ∈ (["and", "or"] : List Str)) = junB w := by
  unfold junB
  rw [Bool.eq_iff_iff]
  simp
end Fm
theorem cut_from1 {α : Type} (x : α) (l : List α) : cutL (x :: l) (some 1) none = l := by
  unfold cutL
  rw [show (1 : Int) = ((1 : Nat) : Int) from rfl, HT.sIx_nat, HT.sIx_none, List.length_cons]
  rw [Nat.min_eq_left (by omega)]
  show ((x :: l).drop 1).take (l.length + 1 - 1) = l
  simp
theorem ok_ao : ∀ y ∈ (["and", "or"] : List Str), okS y = true := by decide +kernel
theorem ok_tf : ∀ y ∈ (["true", "false"] : List Str), okS y = true := by decide +kernel
section
variable {T : Tb}
def mInner : DSp := fun ds Q _ => ∃ f : Fm, ds = [f.d] ∧ f.ok = true ∧ Q (.tup (f.inn.map Fm.d))
theorem pl_inner (ds : List D) (Q : DK) (X : EK) (h : mInner ds Q X) : wpF T n_inner_formulas.length b_inner_formulas ds Q X := by
  obtain ⟨f, rfl, ok, q⟩ := h
  rw [Fm.d_eq]
  refine ⟨_, rfl, _, at_lit 0 rfl f.dt_head, szl, inn_tup (l := ["and", "or"]) (Fm.wd_ok ok) ok_ao ⟨_, rfl, ?_⟩⟩
  have e : negB false (decide (f.wd ∈ (["and", "or"] : List Str))) = Fm.junB f.wd := Fm.mem_jun _
  rw [e]
  have rest : Fm.junB f.wd = false → wpSs T [.ret (.ite (.cmp .Eq (.sub (.var 0) (.con (.int 0))) (.con (.str "not"))) (.slice (.var 0) (some (.con (.int 1))) none) (.tup []))] [some (.tup f.dt)] { nx := fun _ => Q .non, rt := Q, bk := fun _ => False, ct := fun _ => False, xc := X } := by
    intro hj
    refine ⟨_, rfl, _, at_lit 0 rfl f.dt_head, _, _, rfl, rfl, rfl, rfl, _, rfl, iteB (fun e => ?_) fun e => ?_⟩
    · rw [eqv_str] at e
      have e := of_decide_eq_true e
      cases f with
      | lf w xs =>
        have e : w = "not" := e
        subst e
        have k := (and2 (and2 (and2 (and2 (show (okS "not" && (!Fm.junB "not" && (xs.all okS && (decide (xs.length ≤ 100) && (!decide (("not" : Str) = "not") || decide (xs = [])))))) = true from ok)).2).2).2).2
        rw [decide_eq_true rfl] at k
        have k : xs = [] := of_decide_eq_true k
        subst k
        exact ⟨_, rfl, _, rfl, q⟩
      | nt fs =>
        refine ⟨_, rfl, _, rfl, ?_⟩
        have : cutL (Fm.nt fs).dt (some 1) none = fs.map Fm.d := by
          show cutL (.str "not" :: Fm.dl fs) (some 1) none = _
          rw [cut_from1, Fm.dl_map]
        show Q (.tup (cutL (Fm.nt fs).dt (some 1) none))
        rw [this]
        exact q
      | jn w fs =>
        have e : w = "not" := e
        subst e
        have := (and2 (show (Fm.junB "not" && (decide (fs.length ≤ 100) && Fm.okl fs)) = true from ok)).1
        rw [Fm.jun_not] at this
        cases this
    · rw [eqv_str] at e
      refine ⟨szl, ?_⟩
      cases f with
      | lf w xs => exact q
      | nt fs => exact absurd (show decide (("not" : Str) = "not") = false from e) (by rw [decide_eq_true rfl]; exact Bool.noConfusion)
      | jn w fs =>
        have := (and2 (show (Fm.junB w && (decide (fs.length ≤ 100) && Fm.okl fs)) = true from ok)).1
        have hj : Fm.junB w = false := hj
        rw [this] at hj
        cases hj
  refine iteB (fun hj => ?_) fun hj => ⟨_, rfl, iteF rfl (rest hj)⟩
  obtain ⟨w, fs, rfl⟩ := Fm.jun_wd ok hj
  refine ⟨_, rfl, _, _, rfl, rfl, rfl, rfl, _, rfl, iteT (by rfl) ⟨_, rfl, _, at_lit 1 rfl rfl, ?_⟩⟩
  show Q (.tup (Fm.dl fs))
  rw [Fm.dl_map]
  exact q
end
end DL

/-! A2: measured, is_formula, the book checked -/
namespace DL
open PySem
open L2 (Key)
theorem sizes_look (w : Str) : (([("true", 1), ("false", 1), ("claim", 2), ("not", 2), ("and", 2), ("or", 2)] : List (Str × Int)).lookup w).getD 0 = if w = "true" then 1 else if w = "false" then 1 else if w = "claim" ∨ w = "not" ∨ w = "and" ∨ w = "or" then 2 else 0 := by
  simp only [List.lookup_cons, List.lookup_nil]
  by_cases h1 : w = "true"
  · subst h1; rfl
  by_cases h2 : w = "false"
  · subst h2; rfl
  by_cases h3 : w = "claim"
  · subst h3; rfl
  by_cases h4 : w = "not"
  · subst h4; rfl
  by_cases h5 : w = "and"
  · subst h5; rfl
  by_cases h6 : w = "or"
  · subst h6; rfl
  rw [beq_eq_false_iff_ne.mpr h1, beq_eq_false_iff_ne.mpr h2, beq_eq_false_iff_ne.mpr h3, beq_eq_false_iff_ne.mpr h4, beq_eq_false_iff_ne.mpr h5, beq_eq_false_iff_ne.mpr h6]
  simp [h1, h2, h3, h4, h5, h6]
section
variable {T : Tb}
def mMeas (n : Nat) : DSp := fun ds Q _ => ∃ f : Fm, ds = [f.d] ∧ f.ok = true ∧ f.dp < n ∧ Q (.tup [.int (f.pt : Nat), .int (f.dp : Nat)])
theorem pl_meas {n : Nat} (h1 : Has T "inner_formulas" 1 mInner) (h2 : Has T "measured" 1 (mMeas n)) (ds : List D) (Q : DK) (X : EK) (h : mMeas (n + 1) ds Q X) : wpF T n_measured.length b_measured ds Q X := by
  obtain ⟨f, rfl, ok, hn, q⟩ := h
  obtain ⟨li, oi⟩ := Fm.ok_inn ok
  refine ⟨szl, _, rfl, rfl, _, rfl, call_ok h1 rfl rfl ⟨f, rfl, ok, _, rfl, .inr (wk_of _ _ (by omega)), ?_⟩⟩
  refine forL_t Fm.d (fun i ρ => ∃ x1 x4 x5, ρ = [some f.d, x1, some (.int ((1 + Fm.ptl (f.inn.take i) : Nat) : Int)), some (.int ((Fm.dpl (f.inn.take i) : Nat) : Int)), x4, x5]) f.inn 0 _ ⟨none, none, none, rfl⟩ (fun j g ρ N hg hi hN => ?_) fun ρ hi => ?_
  · obtain ⟨x1, x4, x5, rfl⟩ := hi
    rw [Nat.zero_add] at hN ⊢
    have hm := List.mem_of_getElem? hg
    have hd : g.dp < n := by
      have := Fm.dpl_le hm
      rw [← Fm.dp_inn] at this
      omega
    have tk : f.inn.take (j + 1) = f.inn.take j ++ [g] := by
      rw [List.take_succ, hg]
      rfl
    refine ⟨_, rfl, call_ok h2 rfl rfl ⟨g, rfl, oi g hm, hd, _, rfl, rfl, _, rfl, _, rfl, _, rfl, _, rfl, hN _ ?_⟩⟩
    refine ⟨some g.d, some (.int (g.pt : Nat)), some (.int (g.dp : Nat)), ?_⟩
    rw [tk, Fm.ptl_snoc, Fm.dpl_snoc]
    have e1 : ((1 + Fm.ptl (f.inn.take j) : Nat) : Int) + (g.pt : Nat) = ((1 + (Fm.ptl (f.inn.take j) + g.pt) : Nat) : Int) := by omega
    have e2 : (if ((g.dp : Nat) : Int) + 1 > ((Fm.dpl (f.inn.take j) : Nat) : Int) then ((g.dp : Nat) : Int) + 1 else ((Fm.dpl (f.inn.take j) : Nat) : Int)) = ((max (Fm.dpl (f.inn.take j)) (g.dp + 1) : Nat) : Int) := by
      split <;> omega
    rw [← e1, ← e2]
    rfl
  · obtain ⟨x1, x4, x5, rfl⟩ := hi
    rw [Nat.zero_add, List.take_length, ← Fm.pt_inn, ← Fm.dp_inn]
    exact ⟨_, rfl, _, rfl, szl, q⟩
def claim1 (cl : List Str) : List Str → Bool
  | [x] => decide (x ∈ cl)
  | _ => false
namespace Fm
mutual
def wf (cl : List Str) : Fm → Bool
  | lf w xs => ((decide (w = "true") || decide (w = "false")) && decide (xs = [])) || (decide (w = "claim") && claim1 cl xs)
  | nt fs => decide (fs.length = 1) && wfl cl fs
  | jn _ fs => decide (2 ≤ fs.length) && wfl cl fs
def wfl (cl : List Str) : List Fm → Bool
  | [] => true
  | f :: fs => wf cl f && wfl cl fs
end
theorem wfl_all (cl : List Str) : ∀ fs : List Fm, wfl cl fs = fs.all (wf cl)
  | [] => rfl
  | f :: fs => by
    show (wf cl f && wfl cl fs) = _
    rw [wfl_all cl fs]
    rfl
end Fm

theorem wf_inn (cl : List Str) (f : Fm) : Fm.wfl cl f.inn = f.inn.all (Fm.wf cl) := Fm.wfl_all cl _
def sizesL : List (Str × Int) := [("true", 1), ("false", 1), ("claim", 2), ("not", 2), ("and", 2), ("or", 2)]
def labL : List Str := ["in", "open", "out"]
def wayL : List Str := ["admissible", "complete", "grounded", "preferred", "model", "stable"]
structure Glc (T : Tb) : Prop where
  first : T.glob "FIRST" = some (.str "abcdefghijklmnopqrstuvwxyz")
  signs : T.glob "SIGNS" = some (.str "abcdefghijklmnopqrstuvwxyz0123456789")
  mco : T.glob "MAX_CONDITIONS" = some (.int 6)
  mfo : T.glob "MAX_FORMULA" = some (.int 60)
  mne : T.glob "MAX_NESTED" = some (.int 10)
  way : T.glob "CONDITION_WAYS" = some (.kt (wayL.map .str))
  pla : T.glob "PLAIN" = some (.kt ((["true", "false"] : List Str).map .str))
  lab : T.glob "LABELS" = some (.kt (labL.map .str))
  siz : T.tab "SIZES" = some sizesL
def sizeOf (w : Str) : Int := if w = "true" then 1 else if w = "false" then 1 else if w = "claim" ∨ w = "not" ∨ w = "and" ∨ w = "or" then 2 else 0
theorem size_at (w : Str) : ((sizesL.lookup w).map D.int).getD (.int 0) = .int (sizeOf w) := by
  have := sizes_look w
  unfold sizeOf
  rw [← this]
  show ((sizesL.lookup w).map D.int).getD (.int 0) = .int ((sizesL.lookup w).getD 0)
  cases sizesL.lookup w <;> rfl
def mIsF (n : Nat) : DSp := fun ds Q _ => ∃ (f : Fm) (cl : List Str), ds = [f.d, .tup (cl.map .str)] ∧ f.ok = true ∧ (∀ x ∈ cl, okS x = true) ∧ f.dp < n ∧ Q (.bl (f.wf cl))
theorem pl_isf {n : Nat} (g : Glc T) (h1 : Has T "inner_formulas" 1 mInner) (h2 : Has T "is_formula" 2 (mIsF n)) (ds : List D) (Q : DK) (X : EK) (h : mIsF (n + 1) ds Q X) : wpF T n_is_formula.length b_is_formula ds Q X := by
  obtain ⟨f, cl, rfl, ok, ocl, hn, q⟩ := h
  obtain ⟨li, oi⟩ := Fm.ok_inn ok
  have ow := Fm.wd_ok ok
  -- the end
  have rest : ∀ {ρ3 : Option D}, Q (.bl (f.inn.all (Fm.wf cl))) → wpSs T [.ret (.blt .all [(.lc [("inner", 3)] (.one 3) (.call "inner_formulas" [(.var 0)]) [] (.call "is_formula" [(.var 3), (.var 1)]))])] [some f.d, some (.tup (cl.map .str)), some (.str f.wd), ρ3] { nx := fun _ => Q .non, rt := Q, bk := fun _ => False, ct := fun _ => False, xc := X } := by
    intro ρ3 q
    refine ⟨_, rfl, call_ok h1 rfl rfl ⟨f, rfl, ok, _, rfl, .inr (wk_of _ _ (by omega)), lcW_m Fm.d (fun g => .bl (g.wf cl)) f.inn (by omega) (fun x hx R r => ?_) (bf_all q)⟩⟩
    refine ⟨_, rfl, _, rfl, call_ok h2 rfl rfl ⟨x, cl, rfl, oi x hx, ocl, ?_, r⟩⟩
    have := Fm.dpl_le hx
    rw [← Fm.dp_inn] at this
    omega
  rw [Fm.d_eq] at rest ⊢
  refine ⟨_, rfl, _, at_lit 0 rfl f.dt_head, ?_⟩
  refine ⟨_, rfl, sizesL, f.wd, g.siz, rfl, ?_⟩
  rw [size_at]
  refine ⟨_, rfl, _, _, rfl, rfl, rfl, rfl, _, rfl, ?_⟩
  rw [eqv_int, Fm.dt_len]
  refine iteB (fun e => ?_) fun e => ?_
  · -- another length
    have e : ¬ (sizeOf f.wd = (f.ln : Int)) := by simpa using e
    have : f.wf cl = false := by
      cases f with
      | lf w xs =>
        have e : ¬ (sizeOf w = ((1 + xs.length : Nat) : Int)) := e
        show (((decide (w = "true") || decide (w = "false")) && decide (xs = [])) || (decide (w = "claim") && claim1 cl xs)) = false
        unfold sizeOf at e
        by_cases h1 : w = "true"
        · subst h1
          rw [if_pos rfl] at e
          cases xs with
          | nil => exact absurd rfl e
          | cons x xs => rfl
        by_cases h2 : w = "false"
        · subst h2
          rw [if_neg (by decide +kernel), if_pos rfl] at e
          cases xs with
          | nil => exact absurd rfl e
          | cons x xs => rfl
        rw [if_neg h1, if_neg h2] at e
        rw [decide_eq_false h1, decide_eq_false h2]
        by_cases h3 : w = "claim"
        · subst h3
          rw [if_pos (.inl rfl)] at e
          match xs, e with
          | [], _ => rfl
          | [x], e => exact absurd rfl e
          | _ :: _ :: _, _ => rfl
        · rw [decide_eq_false h3]
          rfl
      | nt fs =>
        have e : ¬ ((2 : Int) = ((1 + fs.length : Nat) : Int)) := e
        show (decide (fs.length = 1) && Fm.wfl cl fs) = false
        rw [decide_eq_false (by omega)]
        rfl
      | jn w fs =>
        exfalso
        have hj := (and2 (show (Fm.junB w && (decide (fs.length ≤ 100) && Fm.okl fs)) = true from ok)).1
        unfold Fm.junB at hj
        rcases Bool.or_eq_true_iff.mp hj with z | z
        · have z := of_decide_eq_true z; subst z; exact e (by rfl)
        · have z := of_decide_eq_true z; subst z; exact e (by rfl)
    rw [this] at q
    exact q
  · have e : sizeOf f.wd = (f.ln : Int) := by simpa using e
    refine ⟨_, rfl, _, _, rfl, rfl, rfl, rfl, _, rfl, ?_⟩
    rw [eqv_str]
    refine iteB (fun hc => ?_) fun hc => ?_
    · -- a claim
      have hc := of_decide_eq_true hc
      cases f with
      | lf w xs =>
        have hc : w = "claim" := hc
        subst hc
        have e : (2 : Int) = ((1 + xs.length : Nat) : Int) := e
        match xs, e, ok, q with
        | [x], _, ok, q =>
          have ox : okS x = true := by
            have := (and2 (and2 (and2 (show (okS "claim" && (!Fm.junB "claim" && (([x] : List Str).all okS && (decide (([x] : List Str).length ≤ 100) && (!decide (("claim" : Str) = "not") || decide (([x] : List Str) = [])))))) = true from ok)).2).2).1
            simpa using this
          refine ⟨_, rfl, _, at_lit 1 rfl rfl, _, rfl, inn_tup ox ocl ?_⟩
          have q : Q (.bl (decide (x ∈ cl))) := q
          exact q
        | [], e, _, _ => exact absurd e (by decide)
        | x :: y :: l, e, _, _ =>
          exfalso
          rw [List.length_cons, List.length_cons] at e
          omega
      | nt fs => exact absurd (show ("not" : Str) = "claim" from hc) (by decide +kernel)
      | jn w fs =>
        exfalso
        have hc : w = "claim" := hc
        subst hc
        have hj := (and2 (show (Fm.junB "claim" && (decide (fs.length ≤ 100) && Fm.okl fs)) = true from ok)).1
        revert hj
        decide +kernel
    · have hc := of_decide_eq_false hc
      refine ⟨_, rfl, szl, inn_tup (l := ["and", "or"]) ow ok_ao ⟨_, rfl, ?_⟩⟩
      have ej : negB false (decide (f.wd ∈ (["and", "or"] : List Str))) = Fm.junB f.wd := Fm.mem_jun _
      rw [ej]
      refine iteB (fun hj => ?_) fun hj => ?_
      · obtain ⟨w, fs, rfl⟩ := Fm.jun_wd ok hj
        refine ⟨_, rfl, _, at_lit 1 rfl rfl, ?_⟩
        have q : Q (.bl (decide (2 ≤ fs.length) && Fm.wfl cl fs)) := q
        have el : ((Fm.dl fs).length : Int) = (fs.length : Int) := by rw [Fm.dl_map, List.length_map]
        show ∃ k, D.bl (decide (((Fm.dl fs).length : Int) < 2)) = .bl k ∧ _
        rw [el]
        refine ⟨_, rfl, iteB (fun h => ?_) fun h => ?_⟩
        · have h := of_decide_eq_true h
          rw [decide_eq_false (show ¬ 2 ≤ fs.length by omega)] at q
          exact q
        · have h := of_decide_eq_false h
          rw [decide_eq_true (show 2 ≤ fs.length by omega), Bool.true_and, Fm.wfl_all] at q
          exact rest q
      · refine ⟨_, rfl, iteF rfl ?_⟩
        refine rest ?_
        cases f with
        | lf w xs =>
          have e : sizeOf w = ((1 + xs.length : Nat) : Int) := e
          have hc : ¬ w = "claim" := hc
          have q : Q (.bl (((decide (w = "true") || decide (w = "false")) && decide (xs = [])) || (decide (w = "claim") && claim1 cl xs))) := q
          have h5 := (and2 (and2 (and2 (and2 (show (okS w && (!Fm.junB w && (xs.all okS && (decide (xs.length ≤ 100) && (!decide (w = "not") || decide (xs = [])))))) = true from ok)).2).2).2).2
          have hj : Fm.junB w = false := hj
          unfold Fm.junB at hj
          rw [Bool.or_eq_false_iff] at hj
          have j1 := of_decide_eq_false hj.1
          have j2 := of_decide_eq_false hj.2
          unfold sizeOf at e
          by_cases h1 : w = "true"
          · subst h1
            rw [if_pos rfl] at e
            have : xs = [] := List.eq_nil_of_length_eq_zero (by omega)
            subst this
            exact q
          by_cases h2 : w = "false"
          · subst h2
            rw [if_neg (by decide +kernel), if_pos rfl] at e
            have : xs = [] := List.eq_nil_of_length_eq_zero (by omega)
            subst this
            exact q
          rw [if_neg h1, if_neg h2] at e
          by_cases h3 : w = "not"
          · rw [decide_eq_true h3] at h5
            have : xs = [] := of_decide_eq_true h5
            subst this
            rw [if_pos (.inr (.inl h3))] at e
            exact absurd e (by decide)
          · rw [if_neg (fun z => z.elim hc fun z => z.elim h3 fun z => z.elim j1 j2)] at e
            omega
        | nt fs =>
          have e : (2 : Int) = ((1 + fs.length : Nat) : Int) := e
          have q : Q (.bl (decide (fs.length = 1) && Fm.wfl cl fs)) := q
          rw [decide_eq_true (show fs.length = 1 by omega), Bool.true_and, Fm.wfl_all] at q
          exact q
        | jn w fs =>
          have := (and2 (show (Fm.junB w && (decide (fs.length ≤ 100) && Fm.okl fs)) = true from ok)).1
          have hj : Fm.junB w = false := hj
          rw [this] at hj
          cases hj
end
end DL

/-! A3: the book checked -/
namespace DL
open PySem
open L2 (Key)
structure Bk where
  cl : List Str
  fs : List Fm
namespace Bk
def d (b : Bk) : D := .tup [.tup (b.cl.map .str), .tup (b.fs.map Fm.d)]
structure Ok (b : Bk) : Prop where
  cl : ∀ x ∈ b.cl, okS x = true
  fs : ∀ f ∈ b.fs, f.ok = true ∧ f.dp < 12
  l1 : b.cl.length ≤ 12
  l2 : b.fs.length ≤ 12
def bigF (f : Fm) : Bool := decide (60 < f.pt) || decide (10 < f.dp)
def kindB (b : Bk) : Bool := b.cl.all claimB && (risB (b.cl.map .str) && decide (b.fs.length = b.cl.length))
def err (b : Bk) : Option Exn := if decide (6 < b.cl.length) = true then some tooLarge else if b.fs.any bigF = true then some tooLarge else if b.kindB = true then (if b.fs.all (Fm.wf b.cl) = true then none else some refused) else some refused
end Bk
section
variable {T : Tb}
def mCheck : DSp := fun ds Q X => ∃ b : Bk, ds = [b.d] ∧ b.Ok ∧ (∀ x, b.err = some x → X x) ∧ (b.err = none → Q .non)
theorem pl_check (g : Glc T) (h1 : Has T "is_claim" 1 mClaim) (h2 : Has T "rising" 1 mRising) (h3 : Has T "measured" 1 (mMeas 12)) (h4 : Has T "is_formula" 2 (mIsF 12)) (ds : List D) (Q : DK) (X : EK) (h : mCheck ds Q X) : wpF T n_check_conditions.length b_check_conditions ds Q X := by
  obtain ⟨b, rfl, ob, qx, qn⟩ := h
  obtain ⟨cl, fs⟩ := b
  obtain ⟨ocl, ofs, l1, l2⟩ := ob
  simp only at ocl ofs l1 l2
  unfold Bk.err at qx qn
  simp only at qx qn
  refine ⟨_, rfl, _, rfl, rfl, _, rfl, _, g.mco, _, rfl, ?_⟩
  show if decide ((6 : Int) < ((cl.map D.str).length : Int)) = true then _ else _
  have e1 : decide ((6 : Int) < ((cl.map D.str).length : Int)) = decide (6 < cl.length) := by
    rw [List.length_map, Bool.eq_iff_iff, decide_eq_true_iff, decide_eq_true_iff]
    omega
  rw [e1]
  refine iteB (fun e => qx _ (by rw [if_pos e]; rfl)) fun e => ?_
  rw [if_neg (by rw [e]; exact Bool.false_ne_true)] at qx qn
  refine ⟨_, rfl, _, rfl, .inr (wk_of Fm.d fs (by omega)), ?_⟩
  refine forL_t Fm.d (fun i ρ => (∃ x1 x4 x5, ρ = [some (Bk.d ⟨cl, fs⟩), x1, some (.tup (cl.map .str)), some (.tup (fs.map Fm.d)), x4, x5, none]) ∧ (fs.take i).any Bk.bigF = false) fs 0 _ ⟨⟨none, none, none, rfl⟩, rfl⟩ (fun j f ρ N hf hi hN => ?_) fun ρ hi => ?_
  · obtain ⟨⟨x1, x4, x5, rfl⟩, hs⟩ := hi
    rw [Nat.zero_add] at hN hs
    have hm := List.mem_of_getElem? hf
    have tk : fs.take (j + 1) = fs.take j ++ [f] := by
      rw [List.take_succ, hf]
      rfl
    refine ⟨_, rfl, call_ok h3 rfl rfl ⟨f, rfl, (ofs f hm).1, (ofs f hm).2, _, rfl, rfl, ?_⟩⟩
    have e2 : Bk.bigF f = (decide ((60 : Int) < ((f.pt : Nat) : Int)) || decide ((10 : Int) < ((f.dp : Nat) : Int))) := by
      unfold Bk.bigF
      congr 1 <;> rw [Bool.eq_iff_iff, decide_eq_true_iff, decide_eq_true_iff] <;> omega
    have big : Bk.bigF f = true → X tooLarge := fun z => qx _ (if_pos (List.any_eq_true.mpr ⟨f, hm, z⟩))
    have sm : Bk.bigF f = false → N [some (Bk.d ⟨cl, fs⟩), some f.d, some (.tup (cl.map .str)), some (.tup (fs.map Fm.d)), some (.int (f.pt : Nat)), some (.int (f.dp : Nat)), none] := fun z => hN _ ⟨⟨_, _, _, rfl⟩, by
      rw [tk, List.any_append, hs, List.any_cons, z]
      rfl⟩
    refine ⟨_, rfl, _, g.mfo, _, rfl, iteB (fun z => ⟨true, rfl, iteT rfl (big (by rw [e2, z]; rfl))⟩) fun z => ⟨_, rfl, _, g.mne, _, rfl, iteB (fun z2 => big (by rw [e2, z2, Bool.or_true])) fun z2 => sm (by rw [e2, z, z2]; rfl)⟩⟩
  · obtain ⟨⟨x1, x4, x5, rfl⟩, hs⟩ := hi
    rw [Nat.zero_add, List.take_length] at hs
    rw [if_neg (by rw [hs]; exact Bool.false_ne_true)] at qx qn
    unfold Bk.kindB at qx qn
    simp only at qx qn
    refine ⟨_, rfl, _, rfl, .inr (wk_of _ _ (by omega)), lcW_m D.str (fun x => .bl (claimB x)) cl (by omega) (fun x hx R r => ⟨_, rfl, call_ok h1 rfl rfl ⟨x, rfl, ocl x hx, r⟩⟩) ⟨_, bl_map claimB cl, _, rfl, _, rfl, ?_⟩⟩
    rw [all_id]
    have bad : ∀ {P : Prop}, (cl.all claimB && (risB (cl.map .str) && decide (fs.length = cl.length))) = false → X refused := fun z => qx _ (by rw [z]; rfl)
    refine iteB (fun z => ⟨_, rfl, iteT rfl (bad (P := True) (by rw [show cl.all claimB = false by simpa using z]; rfl))⟩) fun z => ?_
    have z1 : cl.all claimB = true := by
      rw [Bool.not_eq_false'] at z
      exact z
    refine ⟨_, rfl, call_ok h2 rfl rfl ⟨_, rfl, by rw [List.length_map]; omega, lt_strs cl, _, rfl, _, rfl, ?_⟩⟩
    refine iteB (fun z => ⟨_, rfl, iteT rfl (bad (P := True) (by rw [show risB (cl.map .str) = false by simpa using z]; simp))⟩) fun z => ?_
    have z2 : risB (cl.map .str) = true := by
      rw [Bool.not_eq_false'] at z
      exact z
    refine ⟨_, rfl, _, rfl, _, _, rfl, rfl, rfl, rfl, _, rfl, ?_⟩
    rw [eqv_int, List.length_map, List.length_map]
    rw [z1, z2, Bool.true_and, Bool.true_and] at qx qn bad
    have ei : decide ((fs.length : Int) = (cl.length : Int)) = decide (fs.length = cl.length) := by
      rw [Bool.eq_iff_iff, decide_eq_true_iff, decide_eq_true_iff]
      omega
    rw [ei]
    refine iteB (fun z => bad (P := True) (by simpa using z)) fun z => ?_
    have z3 : decide (fs.length = cl.length) = true := by
      rw [Bool.not_eq_false'] at z
      exact z
    rw [if_pos z3] at qx qn
    refine ⟨_, rfl, _, rfl, .inr (wk_of _ _ (by omega)), lcW_m Fm.d (fun f => .bl (f.wf cl)) fs (by omega) (fun f hf R r => ⟨_, rfl, _, rfl, call_ok h4 rfl rfl ⟨f, cl, rfl, (ofs f hf).1, ocl, (ofs f hf).2, r⟩⟩) ⟨_, bl_map (fun f => Fm.wf cl f) fs, _, rfl, _, rfl, ?_⟩⟩
    rw [all_id]
    refine iteB (fun z => qx _ (by rw [if_neg (by simpa using z)]; rfl)) fun z => qn (by rw [if_pos (by simpa using z)])
/-! a way; labels -/
theorem ok_way : ∀ y ∈ wayL, okS y = true := by decide +kernel
theorem ok_lab : ∀ y ∈ labL, okS y = true := by decide +kernel
def mWay : DSp := fun ds Q X => ∃ w : Str, ds = [.str w] ∧ okS w = true ∧ (w ∈ wayL → Q .non) ∧ (w ∉ wayL → X refused)
theorem pl_way (g : Glc T) (ds : List D) (Q : DK) (X : EK) (h : mWay ds Q X) : wpF T n_check_condition_way.length b_check_condition_way ds Q X := by
  obtain ⟨w, rfl, ow, qn, qx⟩ := h
  refine ⟨_, rfl, _, g.way, inn_kt ow ok_way ⟨_, rfl, iteB (fun e => qx ?_) fun e => qn ?_⟩⟩
  · exact of_decide_eq_false ((Bool.not_eq_true' _).mp e)
  · exact of_decide_eq_true ((Bool.not_eq_false' _).mp e)
def labB (n : Nat) (l : List Str) : Bool := decide (l.length = n) && l.all fun x => decide (x ∈ labL)
def mLabs : DSp := fun ds Q X => ∃ (b : Bk) (l : List Str), ds = [b.d, .tup (l.map .str)] ∧ (∀ x ∈ l, okS x = true) ∧ l.length ≤ 12 ∧ (labB b.cl.length l = true → Q .non) ∧ (labB b.cl.length l = false → X refused)
theorem pl_labs (g : Glc T) (ds : List D) (Q : DK) (X : EK) (h : mLabs ds Q X) : wpF T n_check_book_labels.length b_check_book_labels ds Q X := by
  obtain ⟨b, l, rfl, ol, hl, qn, qx⟩ := h
  unfold labB at qn qx
  refine ⟨_, rfl, _, rfl, _, at_lit 0 rfl rfl, _, _, rfl, rfl, rfl, rfl, _, rfl, ?_⟩
  rw [eqv_int, List.length_map, List.length_map]
  have ei : decide ((l.length : Int) = (b.cl.length : Int)) = decide (l.length = b.cl.length) := by
    rw [Bool.eq_iff_iff, decide_eq_true_iff, decide_eq_true_iff]
    omega
  rw [ei]
  refine iteB (fun z => ⟨_, rfl, iteT rfl (qx (by rw [show decide (l.length = b.cl.length) = false by simpa using z]; rfl))⟩) fun z => ?_
  rw [Bool.not_eq_false'] at z
  rw [z, Bool.true_and] at qn qx
  refine ⟨_, rfl, _, rfl, .inr (wk_of _ _ (by omega)), lcW_m D.str (fun x => .bl (decide (x ∈ labL))) l (by omega) (fun x hx R r => ⟨_, rfl, _, g.lab, inn_kt (ol x hx) ok_lab r⟩) ⟨_, bl_map (fun x => decide (x ∈ labL)) l, _, rfl, _, rfl, ?_⟩⟩
  rw [all_id]
  exact iteB (fun z => qx (by simpa using z)) fun z => qn (by simpa using z)
end
end DL

/-! A4: what a formula is worth; labels, and what they come to -/
namespace DL
open PySem
open L2 (Key)
namespace Fm
mutual
def ev (S : Str → Bool) : Fm → Bool
  | lf w xs => decide (w = "true") || (decide (w = "claim") && xs.any S)
  | nt fs => !evY S fs
  | jn w fs => if decide (w = "and") = true then evL S fs else evY S fs
def evL (S : Str → Bool) : List Fm → Bool
  | [] => true
  | f :: fs => ev S f && evL S fs
def evY (S : Str → Bool) : List Fm → Bool
  | [] => false
  | f :: fs => ev S f || evY S fs
end
theorem evL_all (S : Str → Bool) : ∀ fs : List Fm, evL S fs = fs.all (ev S)
  | [] => rfl
  | f :: fs => by
    show (ev S f && evL S fs) = _
    rw [evL_all S fs]
    rfl
theorem evY_any (S : Str → Bool) : ∀ fs : List Fm, evY S fs = fs.any (ev S)
  | [] => rfl
  | f :: fs => by
    show (ev S f || evY S fs) = _
    rw [evY_any S fs]
    rfl
mutual
theorem ev_congr {S S' : Str → Bool} {cl : List Str} (h : ∀ x ∈ cl, S x = S' x) : ∀ f : Fm, wf cl f = true → ev S f = ev S' f
  | lf w xs, hw => by
    have hw : (((decide (w = "true") || decide (w = "false")) && decide (xs = [])) || (decide (w = "claim") && claim1 cl xs)) = true := hw
    show (decide (w = "true") || (decide (w = "claim") && xs.any S)) = (decide (w = "true") || (decide (w = "claim") && xs.any S'))
    rcases Bool.or_eq_true_iff.mp hw with z | z
    · have := of_decide_eq_true (and2 z).2
      subst this
      rfl
    · have z := (and2 z).2
      match xs, z with
      | [x], z =>
        have := h x (of_decide_eq_true z)
        simp [this]
      | [], z => cases z
      | _ :: _ :: _, z => cases z
  | nt fs, hw => by
    have hw := (and2 (show (decide (fs.length = 1) && wfl cl fs) = true from hw)).2
    show (!evY S fs) = !evY S' fs
    rw [(evl_congr h fs hw).2]
  | jn w fs, hw => by
    have hw := (and2 (show (decide (2 ≤ fs.length) && wfl cl fs) = true from hw)).2
    obtain ⟨h1, h2⟩ := evl_congr h fs hw
    show (if decide (w = "and") = true then evL S fs else evY S fs) = (if decide (w = "and") = true then evL S' fs else evY S' fs)
    rw [h1, h2]
theorem evl_congr {S S' : Str → Bool} {cl : List Str} (h : ∀ x ∈ cl, S x = S' x) : ∀ fs : List Fm, wfl cl fs = true → evL S fs = evL S' fs ∧ evY S fs = evY S' fs
  | [], _ => ⟨rfl, rfl⟩
  | f :: fs, hw => by
    obtain ⟨h1, h2⟩ := and2 (show (wf cl f && wfl cl fs) = true from hw)
    obtain ⟨h3, h4⟩ := evl_congr h fs h2
    constructor
    · show (ev S f && evL S fs) = (ev S' f && evL S' fs)
      rw [ev_congr h f h1, h3]
    · show (ev S f || evY S fs) = (ev S' f || evY S' fs)
      rw [ev_congr h f h1, h4]
end
end Fm
/-! ### labels -/
/-- S agrees with labels -/
def Agr (cl labels : List Str) (S : Str → Bool) : Prop := ∀ (k : Nat) (x lb : Str), cl[k]? = some x → labels[k]? = some lb → (lb = "in" → S x = true) ∧ (lb = "out" → S x = false)
open Classical in
noncomputable def lab1 (cl labels : List Str) (f : Fm) : Str := if ∀ S, Agr cl labels S → f.ev S = true then "in" else if ∃ S, Agr cl labels S ∧ f.ev S = true then "open" else "out"
noncomputable def nxt (b : Bk) (labels : List Str) : List Str := b.fs.map (lab1 b.cl labels)
/-- what all of some choices tell, what one of them does -/
theorem lab1_of {cl labels : List Str} {f : Fm} {a y : Bool} (ha : a = true ↔ ∀ S, Agr cl labels S → f.ev S = true) (hy : y = true ↔ ∃ S, Agr cl labels S ∧ f.ev S = true) : lab1 cl labels f = if a = true then "in" else if y = true then "open" else "out" := by
  unfold lab1
  by_cases h1 : a = true
  · rw [if_pos h1, if_pos (ha.mp h1)]
  · rw [if_neg h1, if_neg fun z => h1 (ha.mpr z)]
    by_cases h2 : y = true
    · rw [if_pos h2, if_pos (hy.mp h2)]
    · rw [if_neg h2, if_neg fun z => h2 (hy.mpr z)]
theorem lab1_mem (cl labels : List Str) (f : Fm) : lab1 cl labels f ∈ labL := by
  unfold lab1
  split
  · exact List.mem_cons_self
  · split
    · exact List.mem_cons_of_mem _ List.mem_cons_self
    · exact List.mem_cons_of_mem _ (List.mem_cons_of_mem _ List.mem_cons_self)
/-- there is always a choice -/
theorem agr_some (cl labels : List Str) (nd : cl.Nodup) : ∃ S, Agr cl labels S := by
  refine ⟨fun x => decide (labels[cl.idxOf x]? = some ("in" : Str)), fun k x lb h1 h2 => ?_⟩
  have hk : cl.idxOf x = k := by
    have hlt := (List.getElem?_eq_some_iff.mp h1).1
    have e := (List.getElem?_eq_some_iff.mp h1).2
    rw [← e]
    exact nd.idxOf_getElem k hlt
  show (lb = "in" → decide (labels[cl.idxOf x]? = some ("in" : Str)) = true) ∧ (lb = "out" → decide (labels[cl.idxOf x]? = some ("in" : Str)) = false)
  rw [hk, h2]
  constructor
  · rintro rfl
    exact decide_eq_true rfl
  · rintro rfl
    exact decide_eq_false (by decide +kernel)
/-- bit by bit -/
def agrN : List Str → Nat → Bool
  | [], c => decide (c = 0)
  | x :: l, c => (if x = "in" then decide (c % 2 = 1) else if x = "out" then decide (c % 2 = 0) else true) && agrN l (c / 2)
theorem agrN_iff : ∀ (l : List Str) (c : Nat), agrN l c = true ↔ c < 2 ^ l.length ∧ ∀ (k : Nat) (lb : Str), l[k]? = some lb → (lb = "in" → c.testBit k = true) ∧ (lb = "out" → c.testBit k = false)
  | [], c => by
    show decide (c = 0) = true ↔ _
    simp
  | x :: l, c => by
    show ((if x = "in" then decide (c % 2 = 1) else if x = "out" then decide (c % 2 = 0) else true) && agrN l (c / 2)) = true ↔ _
    rw [Bool.and_eq_true, agrN_iff l]
    have hp : (2 : Nat) ^ (x :: l).length = 2 * 2 ^ l.length := by rw [List.length_cons, Nat.pow_succ, Nat.mul_comm]
    have hb : ∀ k, (c / 2).testBit k = c.testBit (k + 1) := fun k => (Nat.testBit_succ c k).symm
    have h0 : c.testBit 0 = decide (c % 2 = 1) := Nat.testBit_zero c
    constructor
    · rintro ⟨h1, h2, h3⟩
      refine ⟨by omega, fun k lb hk => ?_⟩
      cases k with
      | zero =>
        have : x = lb := by simpa using hk
        subst this
        rw [h0]
        constructor
        · rintro rfl
          rw [if_pos rfl] at h1
          exact h1
        · rintro rfl
          rw [if_neg (by decide +kernel), if_pos rfl] at h1
          have := of_decide_eq_true h1
          exact decide_eq_false (by omega)
      | succ k =>
        rw [← hb]
        exact h3 k lb (by simpa using hk)
    · rintro ⟨h1, h2⟩
      refine ⟨?_, by omega, fun k lb hk => ?_⟩
      · obtain ⟨z1, z2⟩ := h2 0 x rfl
        rw [h0] at z1 z2
        split
        · rename_i e
          exact z1 e
        · split
          · rename_i e
            have := of_decide_eq_false (z2 e)
            exact decide_eq_true (by omega)
          · rfl
      · rw [hb]
        exact h2 (k + 1) lb (by simpa using hk)
/-- the choice of a number -/
def chN (cl : List Str) (c : Nat) (x : Str) : Bool := c.testBit (cl.idxOf x)
theorem idx_at {cl : List Str} (nd : cl.Nodup) {k : Nat} {x : Str} (h : cl[k]? = some x) : cl.idxOf x = k := by
  have hlt := (List.getElem?_eq_some_iff.mp h).1
  have e := (List.getElem?_eq_some_iff.mp h).2
  rw [← e]
  exact nd.idxOf_getElem k hlt
theorem agr_of_num {cl labels : List Str} (nd : cl.Nodup) {c : Nat} (h : agrN labels c = true) : Agr cl labels (chN cl c) := fun k x lb h1 h2 => by
  unfold chN
  rw [idx_at nd h1]
  exact ((agrN_iff labels c).mp h).2 k lb h2
/-- a number of each choice -/
theorem num_of {S : Str → Bool} : ∀ cl : List Str, ∃ c, c < 2 ^ cl.length ∧ ∀ (k : Nat) (x : Str), cl[k]? = some x → c.testBit k = S x
  | [] => ⟨0, by simp, fun k x h => by simp at h⟩
  | y :: cl => by
    obtain ⟨c, h1, h2⟩ := num_of (S := S) cl
    refine ⟨2 * c + (if S y = true then 1 else 0), ?_, fun k x hk => ?_⟩
    · rw [List.length_cons, Nat.pow_succ]
      split <;> omega
    · cases k with
      | zero =>
        have : y = x := by simpa using hk
        subst this
        rw [Nat.testBit_zero]
        cases hS : S y with
        | true => simp
        | false => simp
      | succ k =>
        rw [Nat.testBit_succ]
        have : (2 * c + (if S y = true then 1 else 0)) / 2 = c := by split <;> omega
        rw [this]
        exact h2 k x (by simpa using hk)
theorem num_agr {cl labels : List Str} (nd : cl.Nodup) (hl : labels.length = cl.length) {S : Str → Bool} (h : Agr cl labels S) : ∃ c, agrN labels c = true ∧ ∀ x ∈ cl, chN cl c x = S x := by
  obtain ⟨c, h1, h2⟩ := num_of (S := S) cl
  refine ⟨c, (agrN_iff labels c).mpr ⟨by rw [hl]; exact h1, fun k lb hk => ?_⟩, fun x hx => ?_⟩
  · have hk' : k < cl.length := by
      have := (List.getElem?_eq_some_iff.mp hk).1
      omega
    rw [h2 k cl[k] (List.getElem?_eq_getElem hk')]
    exact h k _ lb (List.getElem?_eq_getElem hk') hk
  · obtain ⟨k, hk, rfl⟩ := List.getElem_of_mem hx
    unfold chN
    rw [nd.idxOf_getElem k hk]
    exact h2 k _ (List.getElem?_eq_getElem hk)
/-- all numbers that agree -/
theorem lab1_num {cl labels : List Str} (nd : cl.Nodup) (hl : labels.length = cl.length) {f : Fm} (hw : f.wf cl = true) : lab1 cl labels f =
    if ((List.range (2 ^ cl.length)).filter (agrN labels)).all (fun c => f.ev (chN cl c)) = true then "in" else if ((List.range (2 ^ cl.length)).filter (agrN labels)).any (fun c => f.ev (chN cl c)) = true then "open" else "out" := by
  have rng : ∀ {c}, agrN labels c = true → c ∈ List.range (2 ^ cl.length) := fun h => List.mem_range.mpr (by rw [← hl]; exact ((agrN_iff labels _).mp h).1)
  refine lab1_of ?_ ?_
  · rw [List.all_eq_true]
    constructor
    · intro h S hS
      obtain ⟨c, h1, h2⟩ := num_agr nd hl hS
      rw [← Fm.ev_congr h2 f hw]
      exact h c (List.mem_filter.mpr ⟨rng h1, h1⟩)
    · exact fun h c hc => h _ (agr_of_num nd (List.mem_filter.mp hc).2)
  · rw [List.any_eq_true]
    constructor
    · rintro ⟨c, hc, h⟩
      exact ⟨_, agr_of_num nd (List.mem_filter.mp hc).2, h⟩
    · rintro ⟨S, hS, h⟩
      obtain ⟨c, h1, h2⟩ := num_agr nd hl hS
      exact ⟨c, List.mem_filter.mpr ⟨rng h1, h1⟩, by rw [Fm.ev_congr h2 f hw]; exact h⟩
/-! sums of bits -/
def bitsN (w : Str) : List Str → Nat
  | [] => 0
  | x :: l => (if x = w then 1 else 0) + 2 * bitsN w l
theorem agr_bits : ∀ (l : List Str) (c : Nat), (∀ x ∈ l, x ∈ labL) → (decide (Builtin.bitAnd (c : Int) (Builtin.bitNot ((bitsN "open" l : Nat) : Int)) = ((bitsN "in" l : Nat) : Int)) = agrN l c)
  | [], c, _ => by
    have : Builtin.bitAnd (c : Int) (Builtin.bitNot ((0 : Nat) : Int)) = (c : Int) := by
      have h1 : (decide (0 ≤ (c : Int))) = true := decide_eq_true (by omega)
      have h2 : (decide (0 ≤ Builtin.bitNot ((0 : Nat) : Int))) = false := by decide
      unfold Builtin.bitAnd
      rw [h1, h2]
      show (c : Int) - (((c : Int).toNat &&& (Builtin.bitNot (Builtin.bitNot ((0 : Nat) : Int))).toNat : Nat) : Int) = c
      rw [show (Builtin.bitNot (Builtin.bitNot ((0 : Nat) : Int))).toNat = 0 by decide, Nat.and_zero]
      simp
    show decide (Builtin.bitAnd (c : Int) (Builtin.bitNot ((0 : Nat) : Int)) = ((0 : Nat) : Int)) = decide (c = 0)
    rw [this, Bool.eq_iff_iff, decide_eq_true_iff, decide_eq_true_iff]
    omega
  | x :: l, c, hl => by
    have ih := agr_bits l (c / 2) fun y hy => hl y (List.mem_cons_of_mem _ hy)
    have hx := hl x List.mem_cons_self
    generalize hs : bitsN "open" l = so at ih
    generalize hi : bitsN "in" l = si at ih
    have eso : bitsN "open" (x :: l) = (if x = "open" then 1 else 0) + 2 * so := by rw [← hs]; rfl
    have esi : bitsN "in" (x :: l) = (if x = "in" then 1 else 0) + 2 * si := by rw [← hi]; rfl
    have ea : agrN (x :: l) c = ((if x = "in" then decide (c % 2 = 1) else if x = "out" then decide (c % 2 = 0) else true) && agrN l (c / 2)) := rfl
    rw [eso, esi, ea, ← ih, PySem.W.kbt_halves]
    have hn : Builtin.bitNot ((((if x = "open" then 1 else 0) + 2 * so : Nat)) : Int) / 2 = Builtin.bitNot ((so : Nat) : Int) := by
      show (-((((if x = "open" then 1 else 0) + 2 * so : Nat)) : Int) - 1) / 2 = -((so : Nat) : Int) - 1
      split <;> omega
    have hm : Builtin.bitNot ((((if x = "open" then 1 else 0) + 2 * so : Nat)) : Int) % 2 = (if x = "open" then 0 else 1) := by
      show (-((((if x = "open" then 1 else 0) + 2 * so : Nat)) : Int) - 1) % 2 = _
      split <;> omega
    have hc : ((c : Nat) : Int) / 2 = ((c / 2 : Nat) : Int) := by omega
    rw [hn, hm, hc]
    generalize Builtin.bitAnd ((c / 2 : Nat) : Int) (Builtin.bitNot ((so : Nat) : Int)) = A
    rw [Bool.eq_iff_iff, Bool.and_eq_true, decide_eq_true_iff, decide_eq_true_iff]
    have ho : ("open" : Str) ≠ "in" := by decide +kernel
    have ho2 : ("open" : Str) ≠ "out" := by decide +kernel
    have ho3 : ("in" : Str) ≠ "open" := by decide +kernel
    have ho4 : ("out" : Str) ≠ "open" := by decide +kernel
    have ho5 : ("out" : Str) ≠ "in" := by decide +kernel
    simp only [labL, List.mem_cons, List.not_mem_nil, or_false] at hx
    rcases hx with h | h | h
    · have n1 : ¬ x = "open" := by rw [h]; exact ho3
      have e2 : (if x = "open" then 0 else 1 : Int) = 1 := if_neg n1
      have e3 : (if x = "in" then 1 else 0 : Nat) = 1 := if_pos h
      have e4 : (if x = "in" then decide (c % 2 = 1) else if x = "out" then decide (c % 2 = 0) else true) = decide (c % 2 = 1) := if_pos h
      rw [e2, e3, e4, decide_eq_true_iff]
      split <;> omega
    · have n1 : ¬ x = "in" := by rw [h]; exact ho
      have n2 : ¬ x = "out" := by rw [h]; exact ho2
      have e2 : (if x = "open" then 0 else 1 : Int) = 0 := if_pos h
      have e3 : (if x = "in" then 1 else 0 : Nat) = 0 := if_neg n1
      have e4 : (if x = "in" then decide (c % 2 = 1) else if x = "out" then decide (c % 2 = 0) else true) = true := by rw [if_neg n1, if_neg n2]
      rw [e2, e3, e4]
      rw [show ((true = true) ∧ A = ((si : Nat) : Int)) = (A = ((si : Nat) : Int)) by simp]
      split <;> omega
    · have n1 : ¬ x = "in" := by rw [h]; exact ho5
      have n2 : ¬ x = "open" := by rw [h]; exact ho4
      have e2 : (if x = "open" then 0 else 1 : Int) = 1 := if_neg n2
      have e3 : (if x = "in" then 1 else 0 : Nat) = 0 := if_neg n1
      have e4 : (if x = "in" then decide (c % 2 = 1) else if x = "out" then decide (c % 2 = 0) else true) = decide (c % 2 = 0) := by rw [if_neg n1, if_pos h]
      rw [e2, e3, e4, decide_eq_true_iff]
      split <;> omega
end DL

/-! A5: the class Conditions -/
namespace DL
open PySem
open L2 (Key)
/-! ### the object -/
def plc (cl : List Str) : List (Key × D) := cl.zipIdx.map fun p => (.inr p.1, .int (p.2 : Int))
def rngD (n : Nat) : List D := (List.range n).map fun (k : Nat) => .int (0 + (k : Int))
def truD (cl : List Str) (f : Fm) : D := .lst ((List.range (2 ^ cl.length)).map fun c => .bl (f.ev (chN cl c)))
def fld4 (b : Bk) : List (Str × D) := [("order", .tup (b.cl.map .str)), ("many", .int (b.cl.length : Int)), ("choices", .lst (rngD (2 ^ b.cl.length))), ("places", .dic (plc b.cl))]
def fld5 (b : Bk) : List (Str × D) := fld4 b ++ [(("truths" : Str), .lst (b.fs.map (truD b.cl)))]
def objD (b : Bk) : D := .obj "Conditions" (fld5 b)
/-- what is known of a book that was checked -/
structure Bk.Fine (b : Bk) : Prop where
  ok : b.Ok
  nd : b.cl.Nodup
  wf : ∀ f ∈ b.fs, f.wf b.cl = true
  le : b.fs.length = b.cl.length
  l6 : b.cl.length ≤ 6
theorem plc_at {x : Str} : ∀ {cl : List Str} (i : Nat), x ∈ cl → valD ((cl.zipIdx i).map fun p => ((.inr p.1 : Key), D.int (p.2 : Int))) (.inr x) = some (.int ((i + cl.idxOf x : Nat) : Int))
  | y :: cl, i, h => by
    rw [List.zipIdx_cons, List.map_cons]
    unfold valD
    rw [List.find?_cons]
    by_cases e : y = x
    · subst e
      simp
    · have h' : x ∈ cl := by
        rcases List.mem_cons.mp h with z | z
        · exact absurd z.symm e
        · exact z
      have ih := plc_at (i + 1) h'
      unfold valD at ih
      have ne : ¬ ((.inr y : Key) = .inr x) := fun z => e (Sum.inr.inj z)
      simp only [ne, decide_false]
      rw [ih, List.idxOf_cons]
      have : (y == x) = false := beq_eq_false_iff_ne.mpr e
      rw [this]
      simp only [cond_false]
      congr 2
      omega
theorem bit_at (c k : Nat) : decide (Builtin.bitAnd ((c : Int) / 2 ^ k) 1 = 1) = c.testBit k := by
  have e : ((c : Int) / 2 ^ k) = ((c / 2 ^ k : Nat) : Int) := by
    rw [Int.natCast_ediv, Int.natCast_pow]
    rfl
  have m := PySem.W.kbt_mask ((c : Int) / 2 ^ k) 1
  rw [show ((2 : Int) ^ 1 - 1) = 1 by decide, show ((2 : Int) ^ 1) = 2 by decide] at m
  rw [m, e, Nat.testBit_eq_decide_div_mod_eq, Bool.eq_iff_iff, decide_eq_true_iff, decide_eq_true_iff]
  omega
section
variable {T : Tb}
def HasM (T : Tb) (c m : Str) (n : Nat) (sp : DSp) : Prop := ∃ k cc, T.meth c m = some ⟨k, n, cc, sp⟩
theorem meth_ok {c m : Str} {n : Nat} {sp : DSp} {l : List (Str × D)} {ds : List D} {o : E} {es : List E} {Q : DK} {X : EK} (h : HasM T c m n sp) (hn : ds.length + 1 = n) (ho : es.any ownB = false) (q : sp (.obj c l :: ds) (fun d => (ownB o = true → noB d = true) ∧ Q d) X) :
    ∃ e, T.meth c m = some e ∧ ds.length + 1 = e.n ∧ e.m (.obj c l :: ds) (fun d => ((es.any ownB = true → flatD d = true) ∧ (ownB o = true → noB d = true)) ∧ Q d) X := by
  obtain ⟨k, cc, e⟩ := h
  refine ⟨_, e, hn, ?_⟩
  have : (fun d => ((es.any ownB = true → flatD d = true) ∧ (ownB o = true → noB d = true)) ∧ Q d) = fun d => (ownB o = true → noB d = true) ∧ Q d := by
    funext d
    rw [ho]
    simp
  rw [this]
  exact q
theorem meth_okV {c m : Str} {n : Nat} {sp : DSp} {l : List (Str × D)} {ds : List D} {o : E} {es : List E} {Q : DK} {X : EK} (h : HasM T c m n sp) (hn : ds.length + 1 = n) (ho : es.any ownB = false) (hoo : ownB o = false) (q : sp (.obj c l :: ds) Q X) :
    ∃ e, T.meth c m = some e ∧ ds.length + 1 = e.n ∧ e.m (.obj c l :: ds) (fun d => ((es.any ownB = true → flatD d = true) ∧ (ownB o = true → noB d = true)) ∧ Q d) X := by
  refine meth_ok h hn ho ?_
  have : (fun d => (ownB o = true → noB d = true) ∧ Q d) = Q := by
    funext d
    rw [hoo]
    simp
  rw [this]
  exact q
def mHolds (n : Nat) : DSp := fun ds Q _ => ∃ (l : List (Str × D)) (f : Fm) (cl : List Str) (c : Nat), ds = [.obj "Conditions" l, f.d, .int (0 + (c : Int))] ∧ f.ok = true ∧ f.wf cl = true ∧ f.dp < n ∧ l.lookup ("places" : Str) = some (.dic (plc cl)) ∧ l.lookup ("holds" : Str) = none ∧ Q (.bl (f.ev (chN cl c)))
theorem pl_holds {n : Nat} (g : Glc T) (h1 : Has T "inner_formulas" 1 mInner) (h2 : HasM T "Conditions" "holds" 3 (mHolds n)) (ds : List D) (Q : DK) (X : EK) (h : mHolds (n + 1) ds Q X) : wpF T n_Conditions_holds.length b_Conditions_holds ds Q X := by
  obtain ⟨l, f, cl, c, rfl, ok, wf, hn, hp, hh, q⟩ := h
  obtain ⟨li, oi⟩ := Fm.ok_inn ok
  have ow := Fm.wd_ok ok
  have wi : ∀ g ∈ f.inn, g.wf cl = true := by
    cases f with
    | lf w xs => exact fun g hg => absurd hg List.not_mem_nil
    | nt fs =>
      have := (and2 (show (decide (fs.length = 1) && Fm.wfl cl fs) = true from wf)).2
      rw [Fm.wfl_all] at this
      exact List.all_eq_true.mp this
    | jn w fs =>
      have := (and2 (show (decide (2 ≤ fs.length) && Fm.wfl cl fs) = true from wf)).2
      rw [Fm.wfl_all] at this
      exact List.all_eq_true.mp this
  refine ⟨_, rfl, ?_⟩
  rw [Fm.d_eq]
  refine ⟨_, at_lit 0 rfl f.dt_head, ?_⟩
  refine ⟨_, rfl, _, g.pla, inn_kt ow ok_tf ⟨_, rfl, ?_⟩⟩
  show if decide (f.wd ∈ (["true", "false"] : List Str)) = true then _ else _
  refine iteB (fun e => ?_) fun e => ?_
  · -- true, false
    have e := of_decide_eq_true e
    refine ⟨_, rfl, _, _, rfl, rfl, rfl, rfl, ?_⟩
    rw [eqv_str]
    have : f.ev (chN cl c) = decide (f.wd = "true") := by
      cases f with
      | lf w xs =>
        have e : w ∈ (["true", "false"] : List Str) := e
        show (decide (w = "true") || (decide (w = "claim") && xs.any _)) = decide (w = "true")
        have : ¬ w = "claim" := by
          rintro rfl
          revert e
          decide +kernel
        rw [decide_eq_false this]
        simp
      | nt fs =>
        exfalso
        have e : ("not" : Str) ∈ (["true", "false"] : List Str) := e
        revert e
        decide +kernel
      | jn w fs =>
        exfalso
        have e : w ∈ (["true", "false"] : List Str) := e
        have hj := (and2 (show (Fm.junB w && (decide (fs.length ≤ 100) && Fm.okl fs)) = true from ok)).1
        unfold Fm.junB at hj
        rcases Bool.or_eq_true_iff.mp hj with z | z
        · have z := of_decide_eq_true z; subst z; revert e; decide +kernel
        · have z := of_decide_eq_true z; subst z; revert e; decide +kernel
    rw [this] at q
    exact q
  have e0 := of_decide_eq_false e
  refine ⟨_, rfl, _, _, rfl, rfl, rfl, rfl, _, rfl, ?_⟩
  rw [eqv_str]
  refine iteB (fun e => ?_) fun e => ?_
  · -- a claim
    have e := of_decide_eq_true e
    cases f with
    | nt fs =>
      have e : ("not" : Str) = "claim" := e
      exact absurd e (by decide +kernel)
    | jn w fs =>
      exfalso
      have e : w = "claim" := e
      subst e
      have hj := (and2 (show (Fm.junB "claim" && (decide (fs.length ≤ 100) && Fm.okl fs)) = true from ok)).1
      revert hj
      decide +kernel
    | lf w xs =>
      have e : w = "claim" := e
      subst e
      have hw : (((decide (("claim" : Str) = "true") || decide (("claim" : Str) = "false")) && decide (xs = [])) || (decide (("claim" : Str) = "claim") && claim1 cl xs)) = true := wf
      rw [show decide (("claim" : Str) = "true") = false by decide +kernel, show decide (("claim" : Str) = "false") = false by decide +kernel, decide_eq_true rfl] at hw
      have hw : claim1 cl xs = true := hw
      match xs, hw, q with
      | [x], hw, q =>
        have hx : x ∈ cl := of_decide_eq_true hw
        have q : Q (.bl ((false && true) || (true && (chN cl c x || false)))) := by
          have e1 : decide (("claim" : Str) = "true") = false := by decide +kernel
          have q : Q (.bl (decide (("claim" : Str) = "true") || (decide (("claim" : Str) = "claim") && (chN cl c x || false)))) := q
          rw [e1, decide_eq_true rfl] at q
          exact q
        have q : Q (.bl (chN cl c x)) := by simpa using q
        refine ⟨_, rfl, _, rfl, rfl, _, hp, _, rfl, _, at_lit 1 rfl rfl, .inr x, _, rfl, plc_at 0 hx, ?_⟩
        rw [Nat.zero_add]
        refine ⟨by omega, _, _, rfl, rfl, rfl, rfl, ?_⟩
        rw [eqv_int, Int.zero_add, Int.toNat_natCast, bit_at]
        exact q
      | [], hw, _ => cases hw
      | _ :: _ :: _, hw, _ => cases hw
  have e1 := of_decide_eq_false e
  rw [← Fm.d_eq]
  refine ⟨_, rfl, call_ok h1 rfl rfl ⟨f, rfl, ok, _, rfl, .inr (wk_of Fm.d f.inn (by omega)), lcW_m Fm.d (fun g => .bl (g.ev (chN cl c))) f.inn (by omega) (fun x hx R r => ?_) ?_⟩⟩
  · refine ⟨_, rfl, l, rfl, hh, _, rfl, _, rfl, meth_okV h2 rfl rfl rfl ⟨l, x, cl, c, rfl, oi x hx, wi x hx, ?_, hp, hh, r⟩⟩
    have := Fm.dpl_le hx
    rw [← Fm.dp_inn] at this
    omega
  have er : (f.inn.map fun g => D.bl (g.ev (chN cl c))) = (f.inn.map fun g => g.ev (chN cl c)).map .bl := bl_map _ _
  rw [er]
  refine ⟨_, rfl, _, _, rfl, rfl, rfl, rfl, _, rfl, ?_⟩
  rw [eqv_str]
  refine iteB (fun e => ?_) fun e => ?_
  · have e := of_decide_eq_true e
    cases f with
    | lf w xs =>
      exfalso
      have e : w = "not" := e
      subst e
      have hw : (((decide (("not" : Str) = "true") || decide (("not" : Str) = "false")) && decide (xs = [])) || (decide (("not" : Str) = "claim") && claim1 cl xs)) = true := wf
      rw [show decide (("not" : Str) = "true") = false by decide +kernel, show decide (("not" : Str) = "false") = false by decide +kernel, show decide (("not" : Str) = "claim") = false by decide +kernel] at hw
      cases hw
    | jn w fs =>
      exfalso
      have e : w = "not" := e
      subst e
      have hj := (and2 (show (Fm.junB "not" && (decide (fs.length ≤ 100) && Fm.okl fs)) = true from ok)).1
      rw [Fm.jun_not] at hj
      cases hj
    | nt fs =>
      have hl := of_decide_eq_true (and2 (show (decide (fs.length = 1) && Fm.wfl cl fs) = true from wf)).1
      match fs, hl, q with
      | [g1], _, q =>
        have q : Q (.bl (!(g1.ev (chN cl c) || false))) := q
        rw [Bool.or_false] at q
        exact ⟨_, rfl, _, at_lit 0 rfl rfl, _, rfl, q⟩
  · have e2 := of_decide_eq_false e
    have ej : ∃ w fs, f = .jn w fs := by
      cases f with
      | lf w xs =>
        exfalso
        have hw : (((decide (w = "true") || decide (w = "false")) && decide (xs = [])) || (decide (w = "claim") && claim1 cl xs)) = true := wf
        have e0 : w ∉ (["true", "false"] : List Str) := e0
        have e1 : ¬ w = "claim" := e1
        simp only [List.mem_cons, List.not_mem_nil, or_false, not_or] at e0
        rw [decide_eq_false e0.1, decide_eq_false e0.2, decide_eq_false e1] at hw
        cases hw
      | nt fs => exact absurd rfl e2
      | jn w fs => exact ⟨w, fs, rfl⟩
    obtain ⟨w, fs, rfl⟩ := ej
    have q : Q (.bl (if decide (w = "and") = true then Fm.evL (chN cl c) fs else Fm.evY (chN cl c) fs)) := q
    refine ⟨_, rfl, _, _, rfl, rfl, rfl, rfl, _, rfl, ?_⟩
    rw [eqv_str]
    refine iteB (fun e => ?_) fun e => ?_
    · have e : decide (w = "and") = true := e
      rw [if_pos e, Fm.evL_all] at q
      refine ⟨_, rfl, _, rfl, ?_⟩
      rw [all_id]
      exact q
    · have e : decide (w = "and") = false := e
      rw [if_neg (by rw [e]; exact Bool.false_ne_true), Fm.evY_any] at q
      refine ⟨_, rfl, _, rfl, ?_⟩
      rw [any_id]
      exact q
end
end DL

/-! A6: Conditions made; allowed, after -/
namespace DL
open PySem
open L2 (Key)
theorem ok_labs {l : List Str} (h : ∀ x ∈ l, x ∈ labL) : ∀ x ∈ l, okS x = true := fun x hx => ok_lab x (h x hx)
/-- the sum of the bits of a word -/
theorem bits_sum (w : Str) : ∀ (l : List Str) (i : Nat), (((l.zipIdx i).filter fun p => decide (p.1 = w)).map fun p => (2 : Int) ^ p.2).sum = 2 ^ i * ((bitsN w l : Nat) : Int)
  | [], i => by simp [bitsN]
  | x :: l, i => by
    have ih := bits_sum w l (i + 1)
    have e : ((bitsN w (x :: l) : Nat) : Int) = (if x = w then 1 else 0) + 2 * ((bitsN w l : Nat) : Int) := by
      show (((if x = w then 1 else 0) + 2 * bitsN w l : Nat) : Int) = _
      split <;> simp
    rw [List.zipIdx_cons, e, Int.mul_add]
    have p : (2 : Int) ^ (i + 1) * ((bitsN w l : Nat) : Int) = 2 ^ i * (2 * ((bitsN w l : Nat) : Int)) := by rw [Int.pow_succ, Int.mul_assoc]
    by_cases h : x = w
    · rw [List.filter_cons_of_pos (by simpa using h), List.map_cons, List.sum_cons, ih, p, if_pos h, Int.mul_one]
    · rw [List.filter_cons_of_neg (by simpa using h), ih, p, if_neg h, Int.mul_zero, Int.zero_add]
theorem rng_map (n : Nat) (f : Nat → D) : (List.range n).map f = (List.range n).map f := rfl
section
variable {T : Tb}
/-! ### allowed -/
def mAllowed : DSp := fun ds Q _ => ∃ (l : List (Str × D)) (n : Nat) (labels : List Str), ds = [.obj "Conditions" l, .tup (labels.map .str)] ∧ n ≤ 6 ∧ labels.length = n ∧ (∀ x ∈ labels, x ∈ labL) ∧ l.lookup ("choices" : Str) = some (.lst (rngD (2 ^ n))) ∧ Q (.lst (((List.range (2 ^ n)).filter (agrN labels)).map fun (c : Nat) => .int (0 + (c : Int))))
theorem enc_enum (l : List Str) : ((l.map D.str).zipIdx.map fun p => D.tup [.int (p.2 : Int), p.1]) = l.zipIdx.map fun p => D.tup [.int (p.2 : Int), .str p.1] := by
  rw [List.zipIdx_map, List.map_map]
  rfl
theorem one_word (g : Glc T) {w : Str} {X : EK} {l : List Str} (ow : okS w = true) (ol : ∀ x ∈ l, okS x = true) (hl : l.length ≤ 6) {ρ : DE} (h1 : ρ[1]? = some (some (.tup (l.map .str)))) (h7 : ρ.length = 7) {Q : DK} (q : Q (.int ((bitsN w l : Nat) : Int))) :
    wpE T X (.blt .sum [(.lc [("at", 5), ("label", 6)] (.many [5, 6]) (.enum (.var 1)) [(.cmp .Eq (.var 6) (.con (.str w)))] (.bin .LShift (.con (.int 1)) (.var 5)))]) ρ Q := by
  refine ⟨_, h1, _, rfl, .inr ?_, ?_⟩
  · rw [List.length_map, List.length_zipIdx, List.length_map]
    unfold wkL
    omega
  rw [enc_enum]
  refine lcW_f (fun p : Str × Nat => D.tup [.int (p.2 : Int), .str p.1]) (fun p => decide (p.1 = w)) (fun p => .int ((2 : Int) ^ p.2)) l.zipIdx (by rw [List.length_zipIdx]; omega) (fun p hp R r => ?_) ?_
  · have hm := List.mem_zipIdx hp
    have op : okS p.1 = true := by
      rw [hm.2.2]
      exact ol _ (List.getElem_mem _)
    have hlt : p.2 < 6 := by
      have := hm.2.1
      omega
    refine ⟨_, rfl, rfl, ?_⟩
    match ρ, h7 with
    | [a0, a1, a2, a3, a4, a5, a6], _ =>
      refine ⟨_, rfl, _, _, rfl, rfl, rfl, rfl, _, rfl, ?_⟩
      rw [eqv_str]
      refine iteB (fun e => ?_) fun e => ?_
      · rw [if_pos e] at r
        refine ⟨_, rfl, ⟨by omega, by omega, by decide⟩, ?_⟩
        rw [Int.toNat_natCast, Int.one_mul]
        exact r
      · rw [if_neg (by rw [e]; exact Bool.false_ne_true)] at r
        exact r
  · refine ⟨(l.zipIdx.filter fun p => decide (p.1 = w)).map fun p => (2 : Int) ^ p.2, by rw [List.map_map]; rfl, ?_⟩
    rw [bits_sum, Int.pow_zero, Int.one_mul]
    exact q
theorem lcW_f' {α : Type} {Q : List D → Prop} (enc : α → D) (p : α → Bool) (f : α → D) {step : D → (Option D → Prop) → Prop} (xs : List α) (hl : xs.length ≤ 5000) (hs : ∀ x ∈ xs, ∀ R : Option D → Prop, R (if p x = true then some (f x) else none) → step (enc x) R) (q : Q ((xs.filter p).map f)) : lcW step (xs.map enc) [] Q :=
  lcW_t enc p f xs [] (by rw [sizeLine_eq]; simp only [List.length_nil]; omega) hs (by simpa using q)
theorem pow6 {n : Nat} (h : n ≤ 6) : 2 ^ n ≤ 64 := Nat.pow_le_pow_right (n := 2) (by decide) h
theorem pl_allowed (g : Glc T) (ds : List D) (Q : DK) (X : EK) (h : mAllowed ds Q X) : wpF T n_Conditions_allowed.length b_Conditions_allowed ds Q X := by
  obtain ⟨l, n, labels, rfl, h6, hl, ol, hc, q⟩ := h
  have os := ok_labs ol
  have p6 := pow6 h6
  refine one_word g (w := "in") okS_lit os (by omega) rfl rfl ?_
  refine one_word g (w := "open") okS_lit os (by omega) rfl rfl ?_
  refine ⟨_, rfl, rfl, _, hc, _, rfl, .inr (rl_wk (by omega)), ?_⟩
  refine lcW_f (fun c : Nat => D.int (0 + (c : Int))) (agrN labels) (fun c : Nat => D.int (0 + (c : Int))) (List.range (2 ^ n)) (by rw [List.length_range]; omega) (fun c hcr R r => ?_) q
  refine ⟨_, rfl, _, rfl, _, rfl, _, rfl, _, _, rfl, rfl, rfl, rfl, _, rfl, ?_⟩
  rw [eqv_int, Int.zero_add, agr_bits labels c ol]
  rw [Int.zero_add] at r
  refine iteB (fun e => ?_) fun e => ?_
  · rw [e] at r
    exact ⟨_, rfl, r⟩
  · rw [e] at r
    exact r
/-! ### after -/
def mAfter : DSp := fun ds Q _ => ∃ (b : Bk) (labels : List Str), ds = [objD b, .tup (labels.map .str)] ∧ b.Fine ∧ labels.length = b.cl.length ∧ (∀ x ∈ labels, x ∈ labL) ∧ Q (encT (nxt b labels))
theorem pl_after (g : Glc T) (h1 : HasM T "Conditions" "allowed" 2 mAllowed) (ds : List D) (Q : DK) (X : EK) (h : mAfter ds Q X) : wpF T n_Conditions_after.length b_Conditions_after ds Q X := by
  obtain ⟨b, labels, rfl, fb, hl, ol, q⟩ := h
  have p6 := pow6 fb.l6
  have l6 := fb.l6
  have le := fb.le
  refine ⟨_, rfl, _, rfl, rfl, _, rfl, meth_okV h1 rfl rfl rfl ⟨fld5 b, b.cl.length, labels, rfl, fb.l6, hl, ol, rfl, ?_⟩⟩
  refine ⟨szl, ?_⟩
  refine ⟨_, rfl, rfl, _, rfl, _, rfl, .inr (wk_of (truD b.cl) b.fs (by omega)), ?_⟩
  refine forL_t (truD b.cl) (fun i ρ => ∃ x4 x5, ρ = [some (objD b), some (.tup (labels.map .str)), some (.lst (((List.range (2 ^ b.cl.length)).filter (agrN labels)).map fun (c : Nat) => .int (0 + (c : Int)))), some (.lst (((b.fs.take i).map (lab1 b.cl labels)).map .str)), x4, x5, none]) b.fs 0 _ ⟨none, none, rfl⟩ (fun j f ρ N hf hi hN => ?_) fun ρ hi => ?_
  · obtain ⟨x4, x5, rfl⟩ := hi
    rw [Nat.zero_add] at hN ⊢
    have hm := List.mem_of_getElem? hf
    have tk : b.fs.take (j + 1) = b.fs.take j ++ [f] := by
      rw [List.take_succ, hf]
      rfl
    have lr : ((List.range (2 ^ b.cl.length)).filter (agrN labels)).length ≤ 64 := Nat.le_trans (List.length_filter_le _ _) (by rw [List.length_range]; exact p6)
    refine ⟨_, rfl, _, rfl, .inr (wk_of _ _ (by omega)), ?_⟩
    refine lcW_m (fun c : Nat => D.int (0 + (c : Int))) (fun c => .bl (f.ev (chN b.cl c))) ((List.range (2 ^ b.cl.length)).filter (agrN labels)) (by omega) (fun c hc R r => ?_) ?_
    · have hlt := List.mem_range.mp (List.mem_filter.mp hc).1
      refine ⟨_, rfl, _, rfl, _, at_lit c (by omega) ?_, r⟩
      rw [List.getElem?_map, List.getElem?_range hlt]
      rfl
    · refine ⟨_, rfl, _, rfl, ?_⟩
      have fin : ∀ w : Str, lab1 b.cl labels f = w → (((b.fs.take j).map (lab1 b.cl labels)).map D.str).length < sizeLine ∧ N [some (objD b), some (.tup (labels.map .str)), some (.lst (((List.range (2 ^ b.cl.length)).filter (agrN labels)).map fun (c : Nat) => .int (0 + (c : Int)))), some (.lst ((((b.fs.take j).map (lab1 b.cl labels)).map .str) ++ [.str w])), some (truD b.cl f), some (.lst (((List.range (2 ^ b.cl.length)).filter (agrN labels)).map fun c => .bl (f.ev (chN b.cl c)))), none] := fun w hw => by
        refine ⟨?_, hN _ ⟨some (truD b.cl f), some (.lst (((List.range (2 ^ b.cl.length)).filter (agrN labels)).map fun c => .bl (f.ev (chN b.cl c)))), ?_⟩⟩
        · rw [List.length_map, List.length_map, List.length_take, sizeLine_eq]
          omega
        · rw [tk, List.map_append, List.map_append, ← hw]
          rfl
      have ln := lab1_num fb.nd hl (fb.wf f hm)
      refine ⟨_, bl_map (fun c => f.ev (chN b.cl c)) _, _, rfl, ?_⟩
      rw [all_id]
      refine iteB (fun e => fin _ (by rw [ln, if_pos e])) fun e => ?_
      rw [if_neg (by rw [e]; exact Bool.false_ne_true)] at ln
      refine ⟨_, rfl, _, bl_map (fun c => f.ev (chN b.cl c)) _, _, rfl, ?_⟩
      rw [any_id]
      exact iteB (fun e => fin _ (by rw [ln, if_pos e])) fun e => fin _ (by rw [ln, if_neg (by rw [e]; exact Bool.false_ne_true)])
  · obtain ⟨x4, x5, rfl⟩ := hi
    rw [Nat.zero_add, List.take_length]
    exact ⟨_, rfl, q⟩
/-! ### the object made -/
def mMake : DSp := fun ds Q _ => ∃ b : Bk, ds = [b.d] ∧ b.Fine ∧ Q (objD b)
theorem putD_new {kvs : List (Key × D)} {k : Key} {v : D} (h : ∀ p ∈ kvs, p.1 ≠ k) : putD kvs k v = kvs ++ [(k, v)] := by
  unfold putD
  rw [if_neg]
  rw [Bool.not_eq_true, List.any_eq_false]
  intro p hp
  simpa using h p hp
theorem dcW_new {α : Type} (enc : α → D) (key : α → Str) (val : α → D) {step : D → (Option (D × D) → Prop) → Prop} {Q : List (Key × D) → Prop} : ∀ (xs : List α) (acc : List (Key × D)), acc.length + xs.length ≤ sizeLine → (xs.map key).Nodup → (∀ p ∈ acc, ∀ x ∈ xs, p.1 ≠ .inr (key x)) → (∀ x ∈ xs, ∀ R : Option (D × D) → Prop, R (some (.str (key x), val x)) → step (enc x) R) →
    Q (acc ++ xs.map fun x => (.inr (key x), val x)) → dcW step (xs.map enc) acc Q
  | [], acc, _, _, _, _, q => by
    show Q acc
    simpa using q
  | x :: xs, acc, hl, nd, ha, hs, q => by
    rw [List.length_cons] at hl
    rw [List.map_cons, List.nodup_cons] at nd
    refine ⟨by omega, hs x List.mem_cons_self _ ⟨_, rfl, ?_⟩⟩
    rw [putD_new fun p hp => ha p hp x List.mem_cons_self]
    refine dcW_new enc key val xs _ (by rw [List.length_append]; simp only [List.length_cons, List.length_nil]; omega) nd.2 (fun p hp y hy => ?_) (fun y hy => hs y (List.mem_cons_of_mem _ hy)) ?_
    · rcases List.mem_append.mp hp with z | z
      · exact ha p z y (List.mem_cons_of_mem _ hy)
      · rw [List.mem_singleton.mp z]
        intro e
        have e := Sum.inr.inj e
        exact nd.1 (by rw [e]; exact List.mem_map.mpr ⟨y, hy, rfl⟩)
    · simpa using q
theorem zip_keys (l : List Str) (i : Nat) : (l.zipIdx i).map (fun p => p.1) = l := by
  induction l generalizing i with
  | nil => rfl
  | cons x l ih => rw [List.zipIdx_cons, List.map_cons, ih]
theorem k1000 {n : Nat} (h : Nat.ble (n + 1) 1000 = true := by rfl) : n < 1000 := Nat.lt_of_succ_le (Nat.le_of_ble_eq_true h)
theorem pl_make (g : Glc T) (h1 : HasM T "Conditions" "holds" 3 (mHolds 12)) (ds : List D) (Q : DK) (X : EK) (h : mMake ds Q X) :
    wpInit T "Conditions" X (ds.map some ++ List.replicate (n_Conditions___init__.length - (["self", "book"] : List Str).length) none) b_Conditions___init__ [] Q := by
  obtain ⟨b, rfl, fb, q⟩ := h
  have l6 := fb.l6
  have le := fb.le
  have p6 := pow6 l6
  have ob := fb.ok
  refine ⟨_, rfl, _, at_lit 0 rfl rfl, k1000, ?_⟩
  refine ⟨_, rfl, _, at_lit 0 rfl rfl, k1000, ?_⟩
  have elen : (((b.cl.map D.str).length : Nat) : Int) = ((b.cl.length : Nat) : Int) := by rw [List.length_map]
  rw [elen]
  have e2 : (1 : Int) * 2 ^ ((b.cl.length : Int)).toNat = ((2 ^ b.cl.length : Nat) : Int) := by
    rw [Int.toNat_natCast, Int.one_mul, Int.natCast_pow]
    rfl
  refine ⟨_, rfl, rfl, _, rfl, ⟨by omega, by omega, by decide⟩, ((2 ^ b.cl.length : Nat) : Int), congrArg D.int e2, Int.natCast_nonneg _, Int.ofNat_le.mpr (Nat.le_trans p6 (by decide)), k1000, ?_⟩
  rw [Int.toNat_natCast]
  refine ⟨_, rfl, _, at_lit 0 rfl rfl, _, rfl, .inr ?_, ?_⟩
  · rw [List.length_map, List.length_zipIdx, List.length_map]
    unfold wkL
    omega
  rw [enc_enum]
  refine dcW_new (fun p : Str × Nat => D.tup [.int (p.2 : Int), .str p.1]) (fun p => p.1) (fun p => .int (p.2 : Int)) b.cl.zipIdx [] (by rw [List.length_zipIdx, sizeLine_eq]; simp only [List.length_nil]; omega) (by rw [zip_keys]; exact fb.nd) (fun p hp => absurd hp List.not_mem_nil) (fun p hp R r => ?_) ?_
  · exact ⟨_, rfl, rfl, _, rfl, _, rfl, r⟩
  rw [List.nil_append]
  refine ⟨k1000, ?_⟩
  refine ⟨_, rfl, _, at_lit 1 rfl rfl, _, rfl, .inr (wk_of Fm.d b.fs (by omega)), ?_⟩
  refine lcW_m Fm.d (truD b.cl) b.fs (by omega) (fun f hf R r => ?_) ?_
  · refine ⟨_, rfl, rfl, _, rfl, _, rfl, .inr (rl_wk (by omega)), ?_⟩
    refine lcW_m (fun c : Nat => D.int (0 + (c : Int))) (fun c => .bl (f.ev (chN b.cl c))) (List.range (2 ^ b.cl.length)) (by rw [List.length_range]; omega) (fun c hc R r => ?_) r
    exact ⟨_, rfl, _, rfl, rfl, _, rfl, _, rfl, meth_ok h1 rfl rfl ⟨fld4 b, f, b.cl, c, rfl, (ob.fs f hf).1, fb.wf f hf, (ob.fs f hf).2, rfl, rfl, fun _ => rfl, r⟩⟩
  · exact ⟨k1000, q⟩
end
end DL

/-! A7: labels that tell more; what steps come to -/
namespace DL
open PySem
open L2 (Key)
def agB : List Str → List Str → Bool
  | [], [] => true
  | x :: a, y :: b => (decide (x = "open") || decide (x = y)) && agB a b
  | _, _ => false
def opens : List Str → Nat
  | [] => 0
  | x :: a => (if x = "open" then 1 else 0) + opens a
theorem opens_le : ∀ a : List Str, opens a ≤ a.length
  | [] => Nat.le_refl _
  | x :: a => by
    have := opens_le a
    show (if x = "open" then 1 else 0) + opens a ≤ a.length + 1
    split <;> omega
theorem ag_refl : ∀ a : List Str, agB a a = true
  | [] => rfl
  | x :: a => by
    show ((decide (x = "open") || decide (x = x)) && agB a a) = true
    rw [ag_refl a, decide_eq_true rfl]
    simp
theorem ag_len : ∀ {a b : List Str}, agB a b = true → a.length = b.length
  | [], [], _ => rfl
  | x :: a, y :: b, h => by
    have := ag_len (and2 (show ((decide (x = "open") || decide (x = y)) && agB a b) = true from h)).2
    rw [List.length_cons, List.length_cons, this]
  | [], _ :: _, h => by cases h
  | _ :: _, [], h => by cases h
theorem ag_at : ∀ {a b : List Str}, agB a b = true → ∀ (k : Nat) (x : Str), a[k]? = some x → x ≠ "open" → b[k]? = some x
  | x :: a, y :: b, h, 0, z, hz, hn => by
    obtain ⟨h1, _⟩ := and2 (show ((decide (x = "open") || decide (x = y)) && agB a b) = true from h)
    have : x = z := by simpa using hz
    subst this
    rcases Bool.or_eq_true_iff.mp h1 with q | q
    · exact absurd (of_decide_eq_true q) hn
    · simp [of_decide_eq_true q]
  | x :: a, y :: b, h, k + 1, z, hz, hn => by
    have h2 := (and2 (show ((decide (x = "open") || decide (x = y)) && agB a b) = true from h)).2
    have := ag_at h2 k z (by simpa using hz) hn
    simpa using this
  | [], _, _, k, z, hz, _ => by simp at hz
  | _ :: _, [], h, _, _, _, _ => by cases h
theorem ag_trans : ∀ {a b c : List Str}, agB a b = true → agB b c = true → agB a c = true
  | [], [], [], _, _ => rfl
  | x :: a, y :: b, z :: c, h1, h2 => by
    obtain ⟨p1, p2⟩ := and2 (show ((decide (x = "open") || decide (x = y)) && agB a b) = true from h1)
    obtain ⟨q1, q2⟩ := and2 (show ((decide (y = "open") || decide (y = z)) && agB b c) = true from h2)
    show ((decide (x = "open") || decide (x = z)) && agB a c) = true
    rw [ag_trans p2 q2, Bool.and_true]
    rcases Bool.or_eq_true_iff.mp p1 with e | e
    · rw [e]; rfl
    · have e := of_decide_eq_true e
      subst e
      exact q1
  | [], [], _ :: _, _, h => by cases h
  | [], _ :: _, _, h, _ => by cases h
  | _ :: _, [], _, h, _ => by cases h
  | _ :: _, _ :: _, [], _, h => by cases h
theorem ag_opens : ∀ {a b : List Str}, agB a b = true → opens b ≤ opens a ∧ (opens a ≤ opens b → a = b)
  | [], [], _ => ⟨Nat.le_refl _, fun _ => rfl⟩
  | x :: a, y :: b, h => by
    obtain ⟨h1, h2⟩ := and2 (show ((decide (x = "open") || decide (x = y)) && agB a b) = true from h)
    obtain ⟨i1, i2⟩ := ag_opens h2
    show (if y = "open" then 1 else 0) + opens b ≤ (if x = "open" then 1 else 0) + opens a ∧ ((if x = "open" then 1 else 0) + opens a ≤ (if y = "open" then 1 else 0) + opens b → x :: a = y :: b)
    rcases Bool.or_eq_true_iff.mp h1 with e | e
    · have e := of_decide_eq_true e
      subst e
      by_cases hy : y = "open"
      · subst hy
        refine ⟨by omega, fun q => ?_⟩
        rw [i2 (by omega)]
      · rw [if_pos rfl, if_neg hy]
        exact ⟨by omega, fun q => by omega⟩
    · have e := of_decide_eq_true e
      subst e
      exact ⟨by omega, fun q => by rw [i2 (by omega)]⟩
  | [], _ :: _, h => by cases h
  | _ :: _, [], h => by cases h
theorem ag_map {α : Type} {f g : α → Str} : ∀ {l : List α}, (∀ x ∈ l, f x = "open" ∨ f x = g x) → agB (l.map f) (l.map g) = true
  | [], _ => rfl
  | x :: l, h => by
    show ((decide (f x = "open") || decide (f x = g x)) && agB (l.map f) (l.map g)) = true
    rw [ag_map fun y hy => h y (List.mem_cons_of_mem _ hy), Bool.and_true]
    rcases h x List.mem_cons_self with e | e
    · rw [decide_eq_true e]; rfl
    · rw [decide_eq_true e]; simp
theorem ag_bot : ∀ {l : List Str}, agB (List.replicate l.length "open") l = true
  | [] => rfl
  | x :: l => by
    rw [List.length_cons, List.replicate_succ]
    show ((decide (("open" : Str) = "open") || decide (("open" : Str) = x)) && agB (List.replicate l.length "open") l) = true
    rw [ag_bot, decide_eq_true rfl]
    rfl
theorem ag_zip : ∀ {a b : List Str}, a.length = b.length → ((a.zip b).all fun p => decide (p.1 = "open") || decide (p.1 = p.2)) = agB a b
  | [], [], _ => rfl
  | x :: a, y :: b, h => by
    rw [List.zip_cons_cons, List.all_cons, ag_zip (by simpa using h)]
    rfl
/-! ### steps -/
def itr (g : List Str → List Str) : Nat → List Str → List Str
  | 0, x => x
  | k + 1, x => g (itr g k x)
theorem itr_fix {g : List Str → List Str} {x : List Str} {k : Nat} (h : g (itr g k x) = itr g k x) : ∀ j, k ≤ j → itr g j x = itr g k x := by
  intro j hj
  induction j with
  | zero => rw [Nat.le_zero.mp hj]
  | succ j ih =>
    rcases Nat.lt_or_ge k (j + 1) with q | q
    · show g (itr g j x) = _
      rw [ih (by omega), h]
    · rw [Nat.le_antisymm hj q]
/-- a chain ends -/
theorem chain_end {g : List Str → List Str} {x : List Str} {n : Nat} (hx : x.length = n) (up : ∀ j, agB (itr g j x) (itr g (j + 1) x) = true) : ∃ k, k ≤ n ∧ g (itr g k x) = itr g k x ∧ ∀ j, j < k → g (itr g j x) ≠ itr g j x := by
  have key : ∀ k, (∃ k', k' ≤ k ∧ g (itr g k' x) = itr g k' x ∧ ∀ j, j < k' → g (itr g j x) ≠ itr g j x) ∨ ((∀ j, j ≤ k → g (itr g j x) ≠ itr g j x) ∧ opens (itr g (k + 1) x) + (k + 1) ≤ n) := by
    intro k
    induction k with
    | zero =>
      by_cases h : g (itr g 0 x) = itr g 0 x
      · exact .inl ⟨0, Nat.le_refl _, h, fun j hj => absurd hj (Nat.not_lt_zero _)⟩
      · refine .inr ⟨fun j hj => by rw [Nat.le_zero.mp hj]; exact h, ?_⟩
        obtain ⟨o1, o2⟩ := ag_opens (up 0)
        have o3 := opens_le x
        have : ¬ opens (itr g 0 x) ≤ opens (itr g 1 x) := fun z => h (o2 z).symm
        have e : itr g 0 x = x := rfl
        rw [e] at this
        show opens (itr g 1 x) + 1 ≤ n
        omega
    | succ k ih =>
      rcases ih with ⟨k', h1, h2, h3⟩ | ⟨h1, h2⟩
      · exact .inl ⟨k', by omega, h2, h3⟩
      · by_cases h : g (itr g (k + 1) x) = itr g (k + 1) x
        · exact .inl ⟨k + 1, Nat.le_refl _, h, fun j hj => h1 j (by omega)⟩
        · refine .inr ⟨fun j hj => ?_, ?_⟩
          · rcases Nat.lt_or_ge j (k + 1) with q | q
            · exact h1 j (by omega)
            · rw [show j = k + 1 by omega]; exact h
          · obtain ⟨o1, o2⟩ := ag_opens (up (k + 1))
            have : ¬ opens (itr g (k + 1) x) ≤ opens (itr g (k + 1 + 1) x) := fun z => h (o2 z).symm
            omega
  rcases key n with ⟨k, h1, h2, h3⟩ | ⟨h1, h2⟩
  · exact ⟨k, h1, h2, h3⟩
  · omega
/-! ### what conditions give -/
theorem nxt_len (b : Bk) (l : List Str) : (nxt b l).length = b.fs.length := List.length_map _
theorem nxt_lab (b : Bk) (l : List Str) : ∀ x ∈ nxt b l, x ∈ labL := fun x hx => by
  obtain ⟨f, _, rfl⟩ := List.mem_map.mp hx
  exact lab1_mem _ _ _
theorem agr_less {cl a b : List Str} (h : agB a b = true) {S : Str → Bool} (hS : Agr cl b S) : Agr cl a S := fun k x lb h1 h2 => by
  constructor
  · rintro rfl
    exact (hS k x _ h1 (ag_at h k _ h2 (by decide +kernel))).1 rfl
  · rintro rfl
    exact (hS k x _ h1 (ag_at h k _ h2 (by decide +kernel))).2 rfl
theorem nxt_mono {b : Bk} (nd : b.cl.Nodup) {x y : List Str} (h : agB x y = true) : agB (nxt b x) (nxt b y) = true := by
  refine ag_map fun f hf => ?_
  unfold lab1
  by_cases h1 : ∀ S, Agr b.cl x S → f.ev S = true
  · rw [if_pos h1, if_pos fun S hS => h1 S (agr_less h hS)]
    exact .inr rfl
  · rw [if_neg h1]
    by_cases h2 : ∃ S, Agr b.cl x S ∧ f.ev S = true
    · rw [if_pos h2]
      exact .inl rfl
    · rw [if_neg h2]
      obtain ⟨S, hS⟩ := agr_some b.cl y nd
      rw [if_neg, if_neg]
      · exact .inr rfl
      · rintro ⟨S', hS', e⟩
        exact h2 ⟨S', agr_less h hS', e⟩
      · intro z
        exact h2 ⟨S, agr_less h hS, z S hS⟩
/-- the labels that come of open ones -/
noncomputable def lfp (b : Bk) : List Str := itr (nxt b) (b.cl.length + 1) (List.replicate b.cl.length "open")
theorem bot_lab (n : Nat) : ∀ x ∈ List.replicate n ("open" : Str), x ∈ labL := fun x hx => by
  rw [List.eq_of_mem_replicate hx]
  exact List.mem_cons_of_mem _ List.mem_cons_self
theorem lfp_up {b : Bk} (fb : b.Fine) : ∀ j, agB (itr (nxt b) j (List.replicate b.cl.length "open")) (itr (nxt b) (j + 1) (List.replicate b.cl.length "open")) = true
  | 0 => by
    have := @ag_bot (nxt b (List.replicate b.cl.length "open"))
    rw [nxt_len, fb.le] at this
    exact this
  | j + 1 => nxt_mono fb.nd (lfp_up fb j)
theorem lfp_end {b : Bk} (fb : b.Fine) : ∃ k, k ≤ b.cl.length ∧ (∀ j, j < k → nxt b (itr (nxt b) j (List.replicate b.cl.length "open")) ≠ itr (nxt b) j (List.replicate b.cl.length "open")) ∧ itr (nxt b) k (List.replicate b.cl.length "open") = lfp b ∧ nxt b (lfp b) = lfp b := by
  obtain ⟨k, h1, h2, h3⟩ := chain_end (n := b.cl.length) (List.length_replicate) (lfp_up fb)
  have e : lfp b = itr (nxt b) k (List.replicate b.cl.length "open") := itr_fix h2 _ (by omega)
  exact ⟨k, h1, h3, e.symm, by rw [e]; exact h2⟩
theorem itr_lab {b : Bk} (fb : b.Fine) : ∀ j, (itr (nxt b) j (List.replicate b.cl.length "open")).length = b.cl.length ∧ ∀ x ∈ itr (nxt b) j (List.replicate b.cl.length "open"), x ∈ labL
  | 0 => ⟨List.length_replicate, bot_lab _⟩
  | j + 1 => ⟨by rw [show itr (nxt b) (j + 1) _ = nxt b _ from rfl, nxt_len, fb.le], nxt_lab _ _⟩
theorem lfp_least {b : Bk} {l : List Str} (hl : l.length = b.cl.length) (nd : b.cl.Nodup) (h : nxt b l = l) : agB (lfp b) l = true := by
  have : ∀ j, agB (itr (nxt b) j (List.replicate b.cl.length "open")) l = true := by
    intro j
    induction j with
    | zero =>
      rw [← hl]
      exact ag_bot
    | succ j ih =>
      have := nxt_mono nd ih
      rw [h] at this
      exact this
  exact this _
/-! ### claims that come without leaning on one another -/
def holdO : List Str → List Str → List Str
  | x :: a, y :: b => (if x = "out" then ("out" : Str) else y) :: holdO a b
  | _, _ => []
theorem hold_len : ∀ {a b : List Str}, a.length = b.length → (holdO a b).length = a.length
  | [], [], _ => rfl
  | x :: a, y :: b, h => by
    show (holdO a b).length + 1 = a.length + 1
    rw [hold_len (by simpa using h)]
theorem hold_mono : ∀ {a x y : List Str}, a.length = x.length → agB x y = true → agB (holdO a x) (holdO a y) = true
  | [], [], [], _, _ => rfl
  | z :: a, x :: xs, y :: ys, hl, h => by
    obtain ⟨h1, h2⟩ := and2 (show ((decide (x = "open") || decide (x = y)) && agB xs ys) = true from h)
    have ih := hold_mono (a := a) (by simpa using hl) h2
    show ((decide ((if z = "out" then ("out" : Str) else x) = "open") || decide ((if z = "out" then ("out" : Str) else x) = (if z = "out" then ("out" : Str) else y))) && agB (holdO a xs) (holdO a ys)) = true
    rw [ih, Bool.and_true]
    split
    · rw [decide_eq_true (rfl : ("out" : Str) = "out"), Bool.or_true]
    · exact h1
  | [], [], _ :: _, _, h => by cases h
  | [], _ :: _, _, h, _ => by cases h
  | _ :: _, [], _, h, _ => by cases h
  | _ :: _, _ :: _, [], _, h => by cases h
def bot2 (a : List Str) : List Str := a.map fun (x : Str) => if x = "out" then ("out" : Str) else "open"
noncomputable def gS (b : Bk) (a x : List Str) : List Str := holdO a (nxt b x)
theorem bot2_le : ∀ {a y : List Str}, a.length = y.length → agB (bot2 a) (holdO a y) = true
  | [], [], _ => rfl
  | x :: a, y :: ys, h => by
    have ih := bot2_le (a := a) (y := ys) (by simpa using h)
    show ((decide ((if x = "out" then ("out" : Str) else "open") = "open") || decide ((if x = "out" then ("out" : Str) else "open") = (if x = "out" then ("out" : Str) else y))) && agB (bot2 a) (holdO a ys)) = true
    rw [ih, Bool.and_true]
    split
    · rw [decide_eq_true (rfl : ("out" : Str) = "out"), Bool.or_true]
    · rw [decide_eq_true (rfl : ("open" : Str) = "open")]; rfl
theorem gS_up {b : Bk} (fb : b.Fine) {a : List Str} (ha : a.length = b.cl.length) : ∀ j, agB (itr (gS b a) j (bot2 a)) (itr (gS b a) (j + 1) (bot2 a)) = true
  | 0 => bot2_le (by rw [nxt_len, fb.le, ha])
  | j + 1 => hold_mono (by rw [nxt_len, fb.le, ha]) (nxt_mono fb.nd (gS_up fb ha j))
noncomputable def stabB (b : Bk) (a : List Str) : Bool := !decide (("open" : Str) ∈ a) && (decide (nxt b a = a) && decide (itr (gS b a) (a.length + 1) (bot2 a) = a))
theorem gS_end {b : Bk} (fb : b.Fine) {a : List Str} (ha : a.length = b.cl.length) : ∃ k, k ≤ a.length ∧ (∀ j, j < k → gS b a (itr (gS b a) j (bot2 a)) ≠ itr (gS b a) j (bot2 a)) ∧ gS b a (itr (gS b a) k (bot2 a)) = itr (gS b a) k (bot2 a) ∧ itr (gS b a) k (bot2 a) = itr (gS b a) (a.length + 1) (bot2 a) := by
  obtain ⟨k, h1, h2, h3⟩ := chain_end (n := a.length) (show (bot2 a).length = a.length from List.length_map _) (gS_up fb ha)
  exact ⟨k, h1, h3, h2, (itr_fix h2 _ (by omega)).symm⟩
/-- the program's own step: what is out stays out -/
theorem hold_same : ∀ {a x t : List Str}, a.length = x.length → x.length = t.length → agB x (holdO a t) = true → (∀ (k : Nat), a[k]? = some "out" → x[k]? = some "out") → holdO x t = holdO a t
  | [], [], [], _, _, _, _ => rfl
  | z :: a, x :: xs, t :: ts, h1, h2, h3, h4 => by
    obtain ⟨p1, p2⟩ := and2 (show ((decide (x = "open") || decide (x = (if z = "out" then ("out" : Str) else t))) && agB xs (holdO a ts)) = true from h3)
    show (if x = "out" then ("out" : Str) else t) :: holdO xs ts = (if z = "out" then ("out" : Str) else t) :: holdO a ts
    rw [hold_same (a := a) (by simpa using h1) (by simpa using h2) p2 fun k hk => by have := h4 (k + 1) (by simpa using hk); simpa using this]
    congr 1
    by_cases hz : z = "out"
    · subst hz
      have : x = "out" := by simpa using h4 0 rfl
      rw [if_pos this, if_pos rfl]
    · rw [if_neg hz] at p1 ⊢
      by_cases hx : x = "out"
      · subst hx
        rw [if_pos rfl]
        rcases Bool.or_eq_true_iff.mp p1 with q | q
        · exact absurd (of_decide_eq_true q) (by decide +kernel)
        · exact of_decide_eq_true q
      · rw [if_neg hx]
  | [], _ :: _, _, h, _, _, _ => by cases h
  | _ :: _, [], _, h, _, _, _ => by cases h
  | [], [], _ :: _, _, h, _, _ => by cases h
  | _ :: _, _ :: _, [], _, h, _, _ => by cases h
theorem hold_out : ∀ {a y : List Str}, a.length = y.length → ∀ k : Nat, a[k]? = some "out" → (holdO a y)[k]? = some "out"
  | x :: a, y :: b, h, 0, hk => by
    have : x = "out" := by simpa using hk
    subst this
    rfl
  | x :: a, y :: b, h, k + 1, hk => by
    have := hold_out (a := a) (y := b) (by simpa using h) k (by simpa using hk)
    simpa [holdO] using this
  | [], _, _, k, hk => by simp at hk
  | _ :: _, [], h, _, _ => by cases h
theorem gS_out {b : Bk} (fb : b.Fine) {a : List Str} (ha : a.length = b.cl.length) : ∀ (j k : Nat), a[k]? = some "out" → (itr (gS b a) j (bot2 a))[k]? = some "out"
  | 0, k, hk => by
    show (bot2 a)[k]? = _
    unfold bot2
    rw [List.getElem?_map, hk]
    rfl
  | j + 1, k, hk => hold_out (by rw [nxt_len, fb.le, ha]) k hk
theorem gS_len {b : Bk} (fb : b.Fine) {a : List Str} (ha : a.length = b.cl.length) (j : Nat) : (itr (gS b a) j (bot2 a)).length = a.length := by
  cases j with
  | zero => exact List.length_map _
  | succ j => exact hold_len (by rw [nxt_len, fb.le, ha])
theorem hold_lab : ∀ {a y : List Str}, (∀ x ∈ y, x ∈ labL) → ∀ x ∈ holdO a y, x ∈ labL
  | z :: a, y :: b, h, x, hx => by
    rcases List.mem_cons.mp (show x ∈ (if z = "out" then ("out" : Str) else y) :: holdO a b from hx) with e | e
    · rw [e]
      split
      · decide +kernel
      · exact h y List.mem_cons_self
    · exact hold_lab (fun w hw => h w (List.mem_cons_of_mem _ hw)) x e
  | [], _, _, x, hx => by cases hx
  | _ :: _, [], _, x, hx => by cases hx
theorem gS_lab {b : Bk} {a : List Str} (j : Nat) : ∀ x ∈ itr (gS b a) j (bot2 a), x ∈ labL := by
  cases j with
  | zero =>
    intro x hx
    obtain ⟨y, _, rfl⟩ := List.mem_map.mp hx
    show (if y = "out" then ("out" : Str) else "open") ∈ labL
    split <;> decide +kernel
  | succ j => exact hold_lab (nxt_lab _ _)
/-- the program's step is the law's, on the way -/
theorem gS_step {b : Bk} (fb : b.Fine) {a : List Str} (ha : a.length = b.cl.length) (j : Nat) : holdO (itr (gS b a) j (bot2 a)) (nxt b (itr (gS b a) j (bot2 a))) = gS b a (itr (gS b a) j (bot2 a)) :=
  hold_same (gS_len fb ha j).symm (by rw [gS_len fb ha, nxt_len, fb.le, ha]) (gS_up fb ha j) (gS_out fb ha j)
end DL

/-! A8: the program's other defs -/
namespace DL
open PySem
open L2 (Key)
section
variable {T : Tb}
theorem encT_map (l : List Str) : D.tup (l.map .str) = encT l := rfl
/-! ### least -/
theorem rep_one {α : Type} (x : α) (n : Nat) : (List.replicate n [x]).flatten = List.replicate n x := by
  induction n with
  | zero => rfl
  | succ n ih => rw [List.replicate_succ, List.flatten_cons, ih, List.replicate_succ]; rfl
def mLeast : DSp := fun ds Q _ => ∃ b : Bk, ds = [objD b] ∧ b.Fine ∧ Q (encT (lfp b))
theorem pl_least (g : Glc T) (h1 : HasM T "Conditions" "after" 2 mAfter) (ds : List D) (Q : DK) (X : EK) (h : mLeast ds Q X) : wpF T n_Conditions_least.length b_Conditions_least ds Q X := by
  obtain ⟨b, rfl, fb, q⟩ := h
  have l6 := fb.l6
  obtain ⟨k, hk, hne, e1, e2⟩ := lfp_end fb
  have af : ∀ j {Q : DK} {X : EK}, Q (encT (itr (nxt b) (j + 1) (List.replicate b.cl.length "open"))) → ∃ e, T.meth "Conditions" "after" = some e ∧ ([encT (itr (nxt b) j (List.replicate b.cl.length "open"))] : List D).length + 1 = e.n ∧ e.m [objD b, encT (itr (nxt b) j (List.replicate b.cl.length "open"))] (fun d => ((([.var 1] : List E).any ownB = true → flatD d = true) ∧ (ownB (.var 0) = true → noB d = true)) ∧ Q d) X := fun j Q X q =>
    meth_okV h1 rfl rfl rfl ⟨b, _, rfl, fb, (itr_lab fb j).1, (itr_lab fb j).2, q⟩
  refine ⟨szl, _, rfl, rfl, _, rfl, by omega, by omega, by decide, ?_⟩
  have e0 : (List.replicate ((b.cl.length : Int)).toNat [D.str "open"]).flatten = (List.replicate b.cl.length ("open" : Str)).map .str := by
    rw [Int.toNat_natCast, rep_one, List.map_replicate]
  show wpSs T _ [some (objD b), some (.tup (List.replicate ((b.cl.length : Int)).toNat [D.str "open"]).flatten)] _
  rw [e0]
  show ∃ n, whileL _ _ _ n _
  refine ⟨k + 1, ?_⟩
  have go : ∀ m j, j + m = k → whileL (fun ρ Q' => wpE T X (.cmp .NotEq (.meth "Conditions" "after" (.var 0) [(.var 1)]) (.var 1)) ρ fun d => ∃ k, d = .bl k ∧ Q' k) (fun ρ K => wpSs T [.asg 1 (.meth "Conditions" "after" (.var 0) [(.var 1)])] ρ K)
      { nx := fun ρ' => wpSs T [.ret (.var 1)] ρ' { nx := fun _ => Q .non, rt := Q, bk := fun _ => False, ct := fun _ => False, xc := X }, rt := Q, bk := fun _ => False, ct := fun _ => False, xc := X } (m + 1) [some (objD b), some (encT (itr (nxt b) j (List.replicate b.cl.length "open")))] := by
    intro m
    induction m with
    | zero =>
      intro j hj
      have hj : j = k := by omega
      subst hj
      refine ⟨_, rfl, _, rfl, rfl, _, rfl, af j ⟨_, rfl, ne_T (ok_labs (itr_lab fb (j + 1)).2) (ok_labs (itr_lab fb j).2) ⟨_, rfl, ?_⟩⟩⟩
      have : itr (nxt b) (j + 1) (List.replicate b.cl.length "open") = itr (nxt b) j (List.replicate b.cl.length "open") := by
        show nxt b (itr (nxt b) j _) = _
        rw [e1, e2]
      rw [this, decide_eq_true rfl]
      refine iteF rfl ⟨_, rfl, ?_⟩
      rw [e1]
      exact q
    | succ m ih =>
      intro j hj
      refine ⟨_, rfl, _, rfl, rfl, _, rfl, af j ⟨_, rfl, ne_T (ok_labs (itr_lab fb (j + 1)).2) (ok_labs (itr_lab fb j).2) ⟨_, rfl, ?_⟩⟩⟩
      have : ¬ itr (nxt b) (j + 1) (List.replicate b.cl.length "open") = itr (nxt b) j (List.replicate b.cl.length "open") := hne j (by omega)
      rw [decide_eq_false this]
      exact iteT rfl ⟨_, rfl, _, rfl, rfl, _, rfl, af j (ih (j + 1) (by omega))⟩
  exact go k 0 (by omega)
/-! ### is_stable -/
theorem all_len {P : Prop} {a b : Nat} (h : a = b) : a = b := h
def mStab : DSp := fun ds Q _ => ∃ (b : Bk) (a : List Str), ds = [objD b, encT a] ∧ b.Fine ∧ a.length = b.cl.length ∧ (∀ x ∈ a, x ∈ labL) ∧ Q (.bl (stabB b a))
theorem ok_open : okS "open" = true := okS_lit
theorem hold_zip : ∀ (x t : List Str) (i : Nat), x.length = t.length → ((x.zipIdx i).map fun (p : Str × Nat) => if p.1 = "out" then p.1 else (((List.replicate i ("" : Str)) ++ t)[p.2]?).getD "") = holdO x t
  | [], [], i, _ => rfl
  | y :: x, z :: t, i, h => by
    rw [List.zipIdx_cons, List.map_cons]
    show _ = (if y = "out" then ("out" : Str) else z) :: holdO x t
    congr 1
    · simp only
      by_cases hy : y = "out"
      · rw [if_pos hy, if_pos hy, hy]
      · rw [if_neg hy, if_neg hy, List.getElem?_append_right (by rw [List.length_replicate]; exact Nat.le_refl _), List.length_replicate, Nat.sub_self]
        rfl
    · have ih := hold_zip x t (i + 1) (by simpa using h)
      rw [← ih]
      refine List.map_congr_left fun p hp => ?_
      have hm := List.le_snd_of_mem_zipIdx hp
      split
      · rfl
      · rw [List.getElem?_append_right (by rw [List.length_replicate]; omega), List.getElem?_append_right (by rw [List.length_replicate]; omega), List.length_replicate, List.length_replicate]
        rw [show p.2 - i = (p.2 - (i + 1)) + 1 by omega]
        rfl
  | [], _ :: _, _, h => by cases h
  | _ :: _, [], _, h => by cases h
def stabBody : List S := [.asg 3 (.meth "Conditions" "after" (.var 0) [(.var 2)]), .asg 4 (.blt .tuple [(.lc [("at", 6), ("label", 5)] (.many [6, 5]) (.enum (.var 2)) [] (.ite (.cmp .Eq (.var 5) (.con (.str "out"))) (.var 5) (.sub (.var 3) (.var 6))))]), .iff (.cmp .Eq (.var 4) (.var 2)) [.ret (.cmp .Eq (.var 2) (.var 1))] [], .asg 2 (.var 4)]
theorem stab_body (h1 : HasM T "Conditions" "after" 2 mAfter) {b : Bk} {a : List Str} (fb : b.Fine) (ha : a.length = b.cl.length) (ol : ∀ x ∈ a, x ∈ labL) (j : Nat) {K : KD} {x3 x4 x5 x6 : Option D} (h : (gS b a (itr (gS b a) j (bot2 a)) = itr (gS b a) j (bot2 a) → K.rt (.bl (decide (itr (gS b a) j (bot2 a) = a)))) ∧
    (gS b a (itr (gS b a) j (bot2 a)) ≠ itr (gS b a) j (bot2 a) → ∀ x3 x4 x5 x6, K.nx [some (objD b), some (encT a), some (encT (itr (gS b a) (j + 1) (bot2 a))), x3, x4, x5, x6])) :
    wpSs T stabBody [some (objD b), some (encT a), some (encT (itr (gS b a) j (bot2 a))), x3, x4, x5, x6] K := by
  have l6 := fb.l6
  have lx := gS_len fb ha j
  have step := gS_step fb ha j
  have olx := gS_lab (b := b) (a := a) j
  have oly := gS_lab (b := b) (a := a) (j + 1)
  have oly : ∀ x ∈ gS b a (itr (gS b a) j (bot2 a)), x ∈ labL := oly
  have enx : itr (gS b a) (j + 1) (bot2 a) = gS b a (itr (gS b a) j (bot2 a)) := rfl
  rw [enx] at h
  generalize itr (gS b a) j (bot2 a) = x at *
  have lt : (nxt b x).length = x.length := by rw [nxt_len, fb.le, lx, ha]
  refine ⟨_, rfl, _, rfl, rfl, _, rfl, meth_okV h1 rfl rfl rfl ⟨b, x, rfl, fb, by rw [lx, ha], olx, ?_⟩⟩
  refine ⟨_, rfl, _, rfl, .inr ?_, ?_⟩
  · rw [List.length_map, List.length_zipIdx, List.length_map]
    unfold wkL
    omega
  rw [enc_enum]
  refine lcW_m (fun p : Str × Nat => D.tup [.int (p.2 : Int), .str p.1]) (fun (p : Str × Nat) => D.str (if p.1 = "out" then p.1 else (((List.replicate 0 ("" : Str)) ++ nxt b x)[p.2]?).getD "")) x.zipIdx (by rw [List.length_zipIdx]; omega) (fun p hp R r => ?_) ?_
  · have hm := List.mem_zipIdx hp
    have hlt : p.2 < x.length := by have := hm.2.1; omega
    refine ⟨_, rfl, rfl, _, rfl, _, _, rfl, rfl, rfl, rfl, _, rfl, ?_⟩
    rw [eqv_str]
    refine iteB (fun e => ?_) fun e => ?_
    · rw [if_pos (of_decide_eq_true e)] at r
      exact ⟨_, rfl, r⟩
    · rw [if_neg (of_decide_eq_false e)] at r
      have hg : (nxt b x)[p.2]? = some (nxt b x)[p.2] := List.getElem?_eq_getElem (by rw [lt]; exact hlt)
      refine ⟨_, rfl, _, rfl, .str (nxt b x)[p.2], at_lit p.2 rfl ?_, ?_⟩
      · rw [List.getElem?_map, hg]
        rfl
      · rw [List.replicate_zero, List.nil_append, hg] at r
        exact r
  have em : (x.zipIdx.map fun (p : Str × Nat) => D.str (if p.1 = "out" then p.1 else (((List.replicate 0 ("" : Str)) ++ nxt b x)[p.2]?).getD "")) = (gS b a x).map .str := by
    rw [← step, ← hold_zip x (nxt b x) 0 lt.symm, List.map_map]
    rfl
  rw [em]
  refine ⟨_, rfl, _, rfl, eq_T (ok_labs oly) (ok_labs olx) ⟨_, rfl, iteB (fun e => ?_) fun e => ?_⟩⟩
  · exact ⟨_, rfl, _, rfl, eq_T (ok_labs olx) (ok_labs ol) (h.1 (of_decide_eq_true e))⟩
  · exact ⟨_, rfl, h.2 (of_decide_eq_false e) _ _ _ _⟩
theorem pl_stab (g : Glc T) (h1 : HasM T "Conditions" "after" 2 mAfter) (ds : List D) (Q : DK) (X : EK) (h : mStab ds Q X) : wpF T n_Conditions_is_stable.length b_Conditions_is_stable ds Q X := by
  obtain ⟨b, a, rfl, fb, ha, ol, q⟩ := h
  have l6 := fb.l6
  have oa := ok_labs ol
  unfold stabB at q
  refine ⟨_, rfl, inn_tup ok_open oa ⟨_, rfl, ?_⟩⟩
  have en : negB false (decide (("open" : Str) ∈ a)) = decide (("open" : Str) ∈ a) := rfl
  rw [en]
  refine iteB (fun e => ?_) fun e => ?_
  · rw [e] at q
    exact ⟨_, rfl, iteT rfl q⟩
  rw [e] at q
  refine ⟨_, rfl, _, rfl, rfl, _, rfl, meth_okV h1 rfl rfl rfl ⟨b, a, rfl, fb, ha, ol, _, rfl, ne_T (ok_labs (nxt_lab b a)) oa ⟨_, rfl, ?_⟩⟩⟩
  refine iteB (fun e => ?_) fun e => ?_
  · rw [Bool.not_eq_true'] at e
    rw [e] at q
    exact q
  rw [Bool.not_eq_false'] at e
  rw [e] at q
  have q : Q (.bl (decide (itr (gS b a) (a.length + 1) (bot2 a) = a))) := q
  refine ⟨_, rfl, _, rfl, .inr (wk_of D.str a (by omega)), ?_⟩
  refine lcW_m D.str (fun (x : Str) => D.str (if x = "out" then ("out" : Str) else "open")) a (by omega) (fun x hx R r => ?_) ?_
  · refine ⟨_, rfl, _, _, rfl, rfl, rfl, rfl, _, rfl, ?_⟩
    rw [eqv_str]
    refine iteB (fun e => ?_) fun e => ?_
    · rw [if_pos (of_decide_eq_true e)] at r
      exact r
    · rw [if_neg (of_decide_eq_false e)] at r
      exact r
  have eb : (a.map fun (x : Str) => D.str (if x = "out" then ("out" : Str) else "open")) = (bot2 a).map .str := by
    unfold bot2
    rw [List.map_map]
    rfl
  rw [eb]
  obtain ⟨k, hk, hne, hf, hfin⟩ := gS_end fb ha
  refine ⟨k + 1, ?_⟩
  have go : ∀ m j (x3 x4 x5 x6 : Option D), j + m = k → whileL (fun ρ Q' => wpE T X (.con (.bl true)) ρ fun d => ∃ k, d = .bl k ∧ Q' k) (fun ρ K => wpSs T stabBody ρ K)
      { nx := fun ρ' => wpSs T [] ρ' { nx := fun _ => Q .non, rt := Q, bk := fun _ => False, ct := fun _ => False, xc := X }, rt := Q, bk := fun _ => False, ct := fun _ => False, xc := X } (m + 1) [some (objD b), some (encT a), some (encT (itr (gS b a) j (bot2 a))), x3, x4, x5, x6] := by
    intro m
    induction m with
    | zero =>
      intro j x3 x4 x5 x6 hj
      have hj : j = k := by omega
      subst hj
      refine ⟨_, rfl, iteT rfl (stab_body h1 fb ha ol j ⟨fun _ => ?_, fun z => absurd hf z⟩)⟩
      rw [hfin]
      exact q
    | succ m ih =>
      intro j x3 x4 x5 x6 hj
      exact ⟨_, rfl, iteT rfl (stab_body h1 fb ha ol j ⟨fun z => absurd z (hne j (by omega)), fun _ x3 x4 x5 x6 => ih (j + 1) x3 x4 x5 x6 (by omega)⟩)⟩
  exact go k 0 none none none none (by omega)
end
end DL

/-! A9: the labels of a book that stand in a way -/
namespace DL
open PySem
open L2 (Key)
/-- all labels of a length -/
def allL : Nat → List (List Str)
  | 0 => [[]]
  | n + 1 => (allL n).flatMap fun r => labL.map fun x => r ++ [x]
theorem allL_mem : ∀ {n : Nat} {r : List Str}, r ∈ allL n → r.length = n ∧ ∀ x ∈ r, x ∈ labL
  | 0, r, h => by
    rw [List.mem_singleton.mp h]
    exact ⟨rfl, fun x hx => absurd hx List.not_mem_nil⟩
  | n + 1, r, h => by
    obtain ⟨s, hs, h⟩ := List.mem_flatMap.mp h
    obtain ⟨x, hx, rfl⟩ := List.mem_map.mp h
    obtain ⟨h1, h2⟩ := allL_mem hs
    refine ⟨by rw [List.length_append, h1]; rfl, fun y hy => ?_⟩
    rcases List.mem_append.mp hy with z | z
    · exact h2 y z
    · rw [List.mem_singleton.mp z]
      exact hx
theorem flat3 {α β : Type} (f : α → List β) : ∀ l : List α, (∀ x ∈ l, (f x).length = 3) → (l.flatMap f).length = 3 * l.length
  | [], _ => rfl
  | x :: l, h => by
    rw [List.flatMap_cons, List.length_append, h x List.mem_cons_self, flat3 f l fun y hy => h y (List.mem_cons_of_mem _ hy), List.length_cons]
    omega
theorem allL_len : ∀ n, (allL n).length = 3 ^ n
  | 0 => rfl
  | n + 1 => by
    show ((allL n).flatMap _).length = _
    rw [flat3 _ _ fun _ _ => by rw [List.length_map]; rfl, allL_len n, Nat.pow_succ, Nat.mul_comm]
theorem allL_le {n : Nat} (h : n ≤ 6) : (allL n).length ≤ 729 := by
  rw [allL_len]
  exact Nat.pow_le_pow_right (n := 3) (by decide) h
noncomputable def good (b : Bk) : List (List Str) := (allL b.cl.length).filter fun l => agB l (nxt b l)
noncomputable def done (b : Bk) : List (List Str) := (good b).filter fun l => decide (nxt b l = l)
noncomputable def pref (b : Bk) : List (List Str) := (good b).filter fun o => !(good b).any fun p => !decide (o = p) && agB o p
noncomputable def modl (b : Bk) : List (List Str) := (done b).filter fun l => !decide (("open" : Str) ∈ l)
noncomputable def stab (b : Bk) : List (List Str) := (done b).filter fun l => stabB b l
noncomputable def condL (b : Bk) (w : Str) : List (List Str) :=
  if w = "grounded" then [lfp b] else if w = "admissible" then good b else if w = "preferred" then pref b else if w = "complete" then done b else if w = "model" then modl b else stab b
/-- labels of a book -/
def Labs (b : Bk) (l : List Str) : Prop := l.length = b.cl.length ∧ ∀ x ∈ l, x ∈ labL
theorem good_labs {b : Bk} {l : List Str} (h : l ∈ good b) : Labs b l := allL_mem (List.mem_filter.mp h).1
theorem done_labs {b : Bk} {l : List Str} (h : l ∈ done b) : Labs b l := good_labs (List.mem_filter.mp h).1
theorem condL_labs {b : Bk} (fb : b.Fine) (w : Str) : ∀ l ∈ condL b w, Labs b l := by
  intro l h
  unfold condL at h
  split at h
  · rw [List.mem_singleton.mp h]
    exact itr_lab fb _
  split at h
  · exact good_labs h
  split at h
  · exact good_labs (List.mem_filter.mp h).1
  split at h
  · exact done_labs h
  split at h
  · exact done_labs (List.mem_filter.mp h).1
  · exact done_labs (List.mem_filter.mp h).1
theorem good_len {b : Bk} (h : b.cl.length ≤ 6) : (good b).length ≤ 729 := Nat.le_trans (List.length_filter_le _ _) (allL_le h)
theorem done_len {b : Bk} (h : b.cl.length ≤ 6) : (done b).length ≤ 729 := Nat.le_trans (List.length_filter_le _ _) (good_len h)
theorem condL_len {b : Bk} (h : b.cl.length ≤ 6) (w : Str) : (condL b w).length ≤ 729 := by
  unfold condL
  split
  · show 1 ≤ 729; decide
  split
  · exact good_len h
  split
  · exact Nat.le_trans (List.length_filter_le _ _) (good_len h)
  split
  · exact done_len h
  split
  · exact Nat.le_trans (List.length_filter_le _ _) (done_len h)
  · exact Nat.le_trans (List.length_filter_le _ _) (done_len h)
section
variable {T : Tb}
theorem lcW2_t {α β : Type} (enc : α → D) (F : α → List β) (g : β → D) {inner : D → List D → (List D → Prop) → Prop} {Q : List D → Prop} : ∀ (xs : List α) (acc : List D), (∀ x ∈ xs, ∀ acc (R : List D → Prop), acc.length + (F x).length ≤ acc.length + 1000 → R (acc ++ (F x).map g) → inner (enc x) acc R) → (∀ x ∈ xs, (F x).length ≤ 1000) →
    Q (acc ++ (xs.flatMap F).map g) → lcW2 inner (xs.map enc) acc Q
  | [], acc, _, _, q => by
    show Q acc
    simpa using q
  | x :: xs, acc, hs, hl, q => by
    refine hs x List.mem_cons_self acc _ (by have := hl x List.mem_cons_self; omega) (lcW2_t enc F g xs _ (fun y hy => hs y (List.mem_cons_of_mem _ hy)) (fun y hy => hl y (List.mem_cons_of_mem _ hy)) ?_)
    simpa using q
def mAll : DSp := fun ds Q _ => ∃ n : Nat, ds = [.int (n : Int)] ∧ n ≤ 6 ∧ Q (.lst ((allL n).map encT))
theorem enc_snoc (r : List Str) (x : Str) : D.tup (r.map D.str ++ [.str x]) = encT (r ++ [x]) := by
  unfold encT
  rw [List.map_append]
  rfl
/-- as lcW2, the length kept in sight -/
theorem lcW2_n {α β : Type} (enc : α → D) (F : α → List β) (g : β → D) {inner : D → List D → (List D → Prop) → Prop} {Q : List D → Prop} (m : Nat) : ∀ (xs : List α) (acc : List D), acc.length + (xs.flatMap F).length ≤ m → (∀ x ∈ xs, ∀ acc (R : List D → Prop), acc.length + (F x).length ≤ m → R (acc ++ (F x).map g) → inner (enc x) acc R) →
    Q (acc ++ (xs.flatMap F).map g) → lcW2 inner (xs.map enc) acc Q
  | [], acc, _, _, q => by
    show Q acc
    simpa using q
  | x :: xs, acc, hl, hs, q => by
    rw [List.flatMap_cons, List.length_append] at hl
    refine hs x List.mem_cons_self acc _ (by omega) (lcW2_n enc F g m xs _ (by rw [List.length_append, List.length_map]; omega) (fun y hy => hs y (List.mem_cons_of_mem _ hy)) ?_)
    simpa using q
theorem pl_all (g : Glc T) (ds : List D) (Q : DK) (X : EK) (h : mAll ds Q X) : wpF T n_all_labels.length b_all_labels ds Q X := by
  obtain ⟨n, rfl, h6, q⟩ := h
  refine ⟨szl, szl, ?_⟩
  refine ⟨_, rfl, _, rfl, by omega, by omega, _, rfl, .inr (rl_wk (by omega)), ?_⟩
  rw [Int.toNat_natCast]
  refine forL_t (fun k : Nat => D.int (0 + (k : Int))) (fun i ρ => ∃ x2, ρ = [some (.int (n : Int)), some (.lst ((allL i).map encT)), x2, none, none]) (List.range n) 0 _ ⟨none, rfl⟩ (fun j k ρ N hj hi hN => ?_) fun ρ hi => ?_
  · obtain ⟨x2, rfl⟩ := hi
    rw [Nat.zero_add] at hN ⊢
    have hj6 : j < n := (range_at hj).2
    have hal := allL_le (n := j) (by omega)
    have hal2 := allL_le (n := j + 1) (by omega)
    refine ⟨_, rfl, _, rfl, .inr (wk_of encT (allL j) (by omega)), ?_⟩
    refine lcW2_n encT (fun r => labL.map fun x => r ++ [x]) encT 1000 (allL j) [] (by simp only [List.length_nil, Nat.zero_add]; exact Nat.le_trans hal2 (by decide)) (fun r hr acc R hl hR => ?_) ?_
    · rw [List.length_map] at hl
      have hl : acc.length + 3 ≤ 1000 := hl
      refine ⟨_, g.lab, _, rfl, .inr (wk_of D.str labL (by decide)), ?_⟩
      refine lcW_t D.str (fun _ => true) (fun x => encT (r ++ [x])) labL acc (by rw [sizeLine_eq]; show acc.length + 3 ≤ _; omega) (fun x hx R2 r2 => ?_) ?_
      · rw [if_pos rfl] at r2
        refine ⟨_, rfl, r.map D.str, .inl rfl, _, rfl, ?_, ?_⟩
        · rw [List.length_append, List.length_map, (allL_mem hr).1, sizeLine_eq]
          show j + 1 ≤ _
          omega
        · rw [enc_snoc]
          exact r2
      · rw [List.filter_eq_self.mpr fun _ _ => rfl]
        rw [List.map_map] at hR
        exact hR
    · exact hN _ ⟨_, rfl⟩
  · obtain ⟨x2, rfl⟩ := hi
    rw [Nat.zero_add, List.length_range]
    exact ⟨_, rfl, q⟩
/-! ### agrees -/
def mAgrees : DSp := fun ds Q _ => ∃ a b : List Str, ds = [encT a, encT b] ∧ a.length = b.length ∧ a.length ≤ 12 ∧ (∀ x ∈ a, okS x = true) ∧ (∀ x ∈ b, okS x = true) ∧ Q (.bl (agB a b))
theorem zip_enc (a b : List Str) : ((a.map D.str).zip (b.map D.str)).map (fun p => D.tup [p.1, p.2]) = (a.zip b).map fun p => D.tup [.str p.1, .str p.2] := by
  rw [List.zip_map, List.map_map]
  rfl
theorem mem_two (x y z : Str) : decide (x ∈ [y, z]) = (decide (x = y) || decide (x = z)) := by
  rw [Bool.eq_iff_iff]
  simp
theorem pl_agrees (ds : List D) (Q : DK) (X : EK) (h : mAgrees ds Q X) : wpF T n_agrees.length b_agrees ds Q X := by
  obtain ⟨a, b, rfl, hl, h12, oa, ob, q⟩ := h
  refine ⟨_, rfl, _, rfl, _, rfl, .inr ?_, ?_⟩
  · rw [List.length_map, List.length_zip, List.length_map]
    unfold wkL
    omega
  rw [zip_enc]
  refine lcW_m (fun p : Str × Str => D.tup [.str p.1, .str p.2]) (fun p => .bl (decide (p.1 = "open") || decide (p.1 = p.2))) (a.zip b) (by rw [List.length_zip]; omega) (fun p hp R r => ?_) (bf_all ?_)
  · obtain ⟨h1, h2⟩ := List.of_mem_zip hp
    refine ⟨_, rfl, rfl, _, rfl, _, rfl, szl, inn_tup (l := ["open", p.2]) (oa _ h1) (mem2 ok_open (ob _ h2)) ?_⟩
    rw [mem_two]
    exact r
  · rw [ag_zip hl]
    exact q
end
end DL

/-! A10: known_condition_labels, condition_labels, labels_stand -/
namespace DL
open PySem
open L2 (Key)
theorem sc_len {n : Nat} {l : List (List Str)} (h : ∀ r ∈ l, r.length = n) : SortC (l.map encT) := by
  have e2 : (l.map encT).map encD = l.map fun r => PyData.tuple (r.map PyData.str) := by
    rw [List.map_map]
    exact List.map_congr_left fun r _ => encD_T r
  refine ⟨toPyL_ex _ fun d hd => ?_, ?_, ?_, fun d hd => ?_⟩
  · obtain ⟨r, _, rfl⟩ := List.mem_map.mp hd
    exact ⟨_, toPy_T r⟩
  · rw [e2]
    exact PySem.W.AllAlike.of fun a b => alike_ss a b
  · rw [e2]
    cases n with
    | succ n =>
      refine .inl (.inl fun d hd => ?_)
      obtain ⟨r, hr, rfl⟩ := List.mem_map.mp hd
      have := h r hr
      match r, this with
      | x :: r, _ => exact ⟨_, _, rfl⟩
    | zero =>
      cases l with
      | nil => exact .inl (.inl fun d hd => absurd hd List.not_mem_nil)
      | cons r l =>
        refine .inr ⟨fun d hd => ?_, l.map fun r => PyData.tuple (r.map .str), ?_⟩
        · obtain ⟨r, _, rfl⟩ := List.mem_map.mp hd
          exact ⟨_, rfl⟩
        · have : r = [] := List.eq_nil_of_length_eq_zero (h r List.mem_cons_self)
          subst this
          rfl
  · obtain ⟨r, _, rfl⟩ := List.mem_map.mp hd
    rw [encD_T]
    simp only [PyData.depth, dp_ss]
    decide
section
variable {T : Tb}
theorem any_bl {α : Type} {xs : List α} {p : α → Bool} {Q : DK} (q : Q (.bl (xs.any p))) : ∃ bs : List Bool, (xs.map fun x => D.bl (p x)) = bs.map .bl ∧ Q (.bl (bs.any id)) := ⟨xs.map p, bl_map p xs, by rw [any_id]; exact q⟩
theorem all_bl {α : Type} {xs : List α} {p : α → Bool} {Q : DK} (q : Q (.bl (xs.all p))) : ∃ bs : List Bool, (xs.map fun x => D.bl (p x)) = bs.map .bl ∧ Q (.bl (bs.all id)) := ⟨xs.map p, bl_map p xs, by rw [all_id]; exact q⟩
def mKnown : DSp := fun ds Q _ => ∃ (b : Bk) (w : Str), ds = [objD b, .str w] ∧ b.Fine ∧ w ∈ wayL ∧ Q (.lst ((condL b w).map encT))
theorem pl_known (g : Glc T) (h1 : HasM T "Conditions" "after" 2 mAfter) (h2 : HasM T "Conditions" "least" 1 mLeast) (h3 : HasM T "Conditions" "is_stable" 2 mStab) (h4 : Has T "all_labels" 1 mAll) (h5 : Has T "agrees" 2 mAgrees) (ds : List D) (Q : DK) (X : EK) (h : mKnown ds Q X) : wpF T n_known_condition_labels.length b_known_condition_labels ds Q X := by
  obtain ⟨b, w, rfl, fb, hw, q⟩ := h
  have l6 := fb.l6
  unfold condL at q
  refine ⟨_, rfl, _, _, rfl, rfl, rfl, rfl, _, rfl, ?_⟩
  rw [eqv_str]
  refine iteB (fun e => ?_) fun e => ?_
  · rw [if_pos (of_decide_eq_true e)] at q
    exact ⟨_, rfl, _, rfl, rfl, meth_okV h2 rfl rfl rfl ⟨b, rfl, fb, szl, q⟩⟩
  rw [if_neg (of_decide_eq_false e)] at q
  have hal := allL_le l6
  have hgl := good_len l6
  have hdl := done_len l6
  have okl : ∀ {l : List Str}, Labs b l → ∀ x ∈ l, okS x = true := fun h => ok_labs h.2
  refine ⟨_, rfl, rfl, _, rfl, call_ok h4 rfl rfl ⟨b.cl.length, rfl, l6, ?_⟩⟩
  refine ⟨_, rfl, _, rfl, .inr (wk_of encT _ (by omega)), ?_⟩
  refine lcW_f encT (fun l => agB l (nxt b l)) encT (allL b.cl.length) (by omega) (fun l hl R r => ?_) ?_
  · have la := allL_mem hl
    refine ⟨_, rfl, _, rfl, _, rfl, rfl, _, rfl, meth_okV h1 rfl rfl rfl ⟨b, l, rfl, fb, la.1, la.2, call_ok h5 rfl rfl ⟨l, nxt b l, rfl, by rw [nxt_len, fb.le, la.1], by omega, okl la, ok_labs (nxt_lab b l), _, rfl, ?_⟩⟩⟩
    refine iteB (fun e => ?_) fun e => ?_
    · rw [if_pos e] at r
      exact ⟨_, rfl, r⟩
    · rw [if_neg (by rw [e]; exact Bool.false_ne_true)] at r
      exact r
  refine ⟨_, rfl, _, _, rfl, rfl, rfl, rfl, _, rfl, ?_⟩
  rw [eqv_str]
  refine iteB (fun e => ?_) fun e => ?_
  · rw [if_pos (of_decide_eq_true e)] at q
    exact ⟨_, rfl, q⟩
  rw [if_neg (of_decide_eq_false e)] at q
  refine ⟨_, rfl, _, _, rfl, rfl, rfl, rfl, _, rfl, ?_⟩
  rw [eqv_str]
  refine iteB (fun e => ?_) fun e => ?_
  · rw [if_pos (of_decide_eq_true e)] at q
    refine ⟨_, rfl, _, rfl, .inr (wk_of encT (good b) (by omega)), ?_⟩
    refine lcW_f encT (fun o => !(good b).any fun p => !decide (o = p) && agB o p) encT (good b) (by omega) (fun o ho R r => ?_) q
    have lo := good_labs ho
    refine ⟨_, rfl, _, rfl, .inr (wk_of encT (good b) (by omega)), ?_⟩
    refine lcW_m encT (fun p => .bl (!decide (o = p) && agB o p)) (good b) (by omega) (fun p hp R2 r2 => ?_) ?_
    · have lp := good_labs hp
      refine ⟨_, rfl, _, rfl, ne_T (okl lo) (okl lp) ⟨_, rfl, iteB (fun e => ?_) fun e => ?_⟩⟩
      · rw [e, Bool.true_and] at r2
        exact ⟨_, rfl, _, rfl, call_ok h5 rfl rfl ⟨o, p, rfl, by rw [lo.1, lp.1], by rw [lo.1]; omega, okl lo, okl lp, r2⟩⟩
      · rw [e, Bool.false_and] at r2
        exact r2
    · refine ⟨_, bl_map (fun p => !decide (o = p) && agB o p) (good b), _, rfl, _, rfl, ?_⟩
      rw [any_id]
      refine iteB (fun e => ?_) fun e => ?_
      · rw [if_pos e] at r
        exact ⟨_, rfl, r⟩
      · rw [if_neg (by rw [e]; exact Bool.false_ne_true)] at r
        exact r
  rw [if_neg (of_decide_eq_false e)] at q
  refine ⟨_, rfl, _, rfl, .inr (wk_of encT (good b) (by omega)), ?_⟩
  refine lcW_f encT (fun l => decide (nxt b l = l)) encT (good b) (by omega) (fun l hl R r => ?_) ?_
  · have la := good_labs hl
    refine ⟨_, rfl, _, rfl, rfl, _, rfl, meth_okV h1 rfl rfl rfl ⟨b, l, rfl, fb, la.1, la.2, _, rfl, eq_T (ok_labs (nxt_lab b l)) (okl la) ⟨_, rfl, ?_⟩⟩⟩
    refine iteB (fun e => ?_) fun e => ?_
    · rw [if_pos e] at r
      exact ⟨_, rfl, r⟩
    · rw [if_neg (by rw [e]; exact Bool.false_ne_true)] at r
      exact r
  refine ⟨_, rfl, _, _, rfl, rfl, rfl, rfl, _, rfl, ?_⟩
  rw [eqv_str]
  refine iteB (fun e => ?_) fun e => ?_
  · rw [if_pos (of_decide_eq_true e)] at q
    exact ⟨_, rfl, q⟩
  rw [if_neg (of_decide_eq_false e)] at q
  refine ⟨_, rfl, _, _, rfl, rfl, rfl, rfl, _, rfl, ?_⟩
  rw [eqv_str]
  refine iteB (fun e => ?_) fun e => ?_
  · rw [if_pos (of_decide_eq_true e)] at q
    refine ⟨_, rfl, _, rfl, .inr (wk_of encT (done b) (by omega)), ?_⟩
    refine lcW_f encT (fun l => !decide (("open" : Str) ∈ l)) encT (done b) (by omega) (fun l hl R r => ?_) q
    have la := done_labs hl
    refine ⟨_, rfl, inn_tup ok_open (okl la) ⟨_, rfl, ?_⟩⟩
    refine iteB (fun e => ?_) fun e => ?_
    · have e : (!decide (("open" : Str) ∈ l)) = true := e
      rw [if_pos e] at r
      exact ⟨_, rfl, r⟩
    · have e : (!decide (("open" : Str) ∈ l)) = false := e
      rw [if_neg (by rw [e]; exact Bool.false_ne_true)] at r
      exact r
  rw [if_neg (of_decide_eq_false e)] at q
  refine ⟨_, rfl, _, rfl, .inr (wk_of encT (done b) (by omega)), ?_⟩
  refine lcW_f encT (fun l => stabB b l) encT (done b) (by omega) (fun l hl R r => ?_) q
  have la := done_labs hl
  refine ⟨_, rfl, _, rfl, rfl, _, rfl, meth_okV h3 rfl rfl rfl ⟨b, l, rfl, fb, la.1, la.2, _, rfl, ?_⟩⟩
  refine iteB (fun e => ?_) fun e => ?_
  · rw [if_pos e] at r
    exact ⟨_, rfl, r⟩
  · rw [if_neg (by rw [e]; exact Bool.false_ne_true)] at r
    exact r
/-! ### a book that passes -/
theorem fine_of {b : Bk} (ob : b.Ok) (h : b.err = none) : b.Fine := by
  unfold Bk.err at h
  split at h
  · cases h
  rename_i h1
  split at h
  · cases h
  split at h
  · rename_i h3
    split at h
    · rename_i h4
      unfold Bk.kindB at h3
      obtain ⟨_, k⟩ := and2 h3
      obtain ⟨k1, k2⟩ := and2 k
      exact ⟨ob, ris_nodup k1, List.all_eq_true.mp h4, of_decide_eq_true k2, by
        have := h1
        rw [decide_eq_true_iff] at this
        omega⟩
    · cases h
  · cases h
def HasN (T : Tb) (c : Str) (n : Nat) (sp : DSp) : Prop := ∃ k cc, T.new c = some ⟨k, n, cc, sp⟩
theorem mk_ok {c : Str} {n : Nat} {sp : DSp} {ds : List D} {Q : DK} {X : EK} (h : HasN T c n sp) (hn : ds.length = n) (q : sp ds Q X) : ∃ e, T.new c = some e ∧ ds.length = e.n ∧ e.m ds Q X := by
  obtain ⟨k, cc, e⟩ := h
  exact ⟨_, e, hn, q⟩
/-- the sorted tuple of the labels -/
def sortT (l : List (List Str)) : D := .tup (sortD (l.map encT))
def mCond : DSp := fun ds Q X => ∃ (b : Bk) (w : Str), ds = [b.d, .str w] ∧ b.Ok ∧ okS w = true ∧ (∀ x, b.err = some x → X x) ∧ (b.err = none → w ∉ wayL → X refused) ∧ (b.err = none → w ∈ wayL → b.Fine → Q (sortT (condL b w)))
theorem pl_cond (h1 : Has T "check_conditions" 1 mCheck) (h2 : Has T "check_condition_way" 1 mWay) (h3 : HasN T "Conditions" 1 mMake) (h4 : Has T "known_condition_labels" 2 mKnown) (ds : List D) (Q : DK) (X : EK) (h : mCond ds Q X) : wpF T n_condition_labels.length b_condition_labels ds Q X := by
  obtain ⟨b, w, rfl, ob, ow, qx, qr, q⟩ := h
  refine ⟨_, rfl, call_ok h1 rfl rfl ⟨b, rfl, ob, qx, fun hn => ?_⟩⟩
  refine ⟨_, rfl, call_ok h2 rfl rfl ⟨w, rfl, ow, fun hw => ?_, qr hn⟩⟩
  have fb := fine_of ob hn
  refine ⟨_, rfl, mk_ok h3 rfl ⟨b, rfl, fb, _, rfl, call_ok h4 rfl rfl ⟨b, w, rfl, fb, hw, ?_⟩⟩⟩
  exact ⟨sc_len fun r hr => (condL_labs fb w r hr).1, q hn hw fb⟩
def mStand : DSp := fun ds Q X => ∃ (b : Bk) (w : Str) (l : List Str), ds = [b.d, .str w, encT l] ∧ b.Ok ∧ okS w = true ∧ (∀ x ∈ l, okS x = true) ∧ l.length ≤ 12 ∧ (∀ x, b.err = some x → X x) ∧ (b.err = none → w ∉ wayL → X refused) ∧ (b.err = none → w ∈ wayL → labB b.cl.length l = false → X refused) ∧
  (b.err = none → w ∈ wayL → labB b.cl.length l = true → b.Fine → Q (.bl (decide (l ∈ condL b w))))
theorem pl_stand (h1 : Has T "check_conditions" 1 mCheck) (h2 : Has T "check_condition_way" 1 mWay) (h5 : Has T "check_book_labels" 2 mLabs) (h3 : HasN T "Conditions" 1 mMake) (h4 : Has T "known_condition_labels" 2 mKnown) (ds : List D) (Q : DK) (X : EK) (h : mStand ds Q X) : wpF T n_labels_stand.length b_labels_stand ds Q X := by
  obtain ⟨b, w, l, rfl, ob, ow, ol, hl, qx, qr, ql, q⟩ := h
  refine ⟨_, rfl, call_ok h1 rfl rfl ⟨b, rfl, ob, qx, fun hn => ?_⟩⟩
  refine ⟨_, rfl, call_ok h2 rfl rfl ⟨w, rfl, ow, fun hw => ?_, qr hn⟩⟩
  refine ⟨_, rfl, _, rfl, call_ok h5 rfl rfl ⟨b, l, rfl, ol, hl, fun hb => ?_, ql hn hw⟩⟩
  have fb := fine_of ob hn
  refine ⟨_, rfl, _, rfl, mk_ok h3 rfl ⟨b, rfl, fb, _, rfl, call_ok h4 rfl rfl ⟨b, w, rfl, fb, hw, ?_⟩⟩⟩
  have lb := condL_labs fb w
  exact inn_T ol (fun r hr x hx => ok_labs (lb r hr).2 x hx) (fun r hr => by rw [(lb r hr).1]; have := fb.l6; omega) (q hn hw hb fb)
end
end DL

/-! A11: the law's own reading: formulas, truths, what labels allow -/
namespace DL
open PySem
open L2 (Key)
section
variable {T : Tb}
/-! ### what stands in a formula -/
def mLInner : DSp := fun ds Q _ => ∃ f : Fm, ds = [f.d] ∧ f.ok = true ∧ Q (.lst (f.inn.map Fm.d))
theorem pl_linner (ds : List D) (Q : DK) (X : EK) (h : mLInner ds Q X) : wpF T n__law_inner.length b__law_inner ds Q X := by
  obtain ⟨f, rfl, ok, q⟩ := h
  rw [Fm.d_eq]
  refine ⟨_, rfl, _, at_lit 0 rfl f.dt_head, szl, inn_lst (l := ["and", "or"]) (Fm.wd_ok ok) ok_ao ⟨_, rfl, ?_⟩⟩
  have e : negB false (decide (f.wd ∈ (["and", "or"] : List Str))) = Fm.junB f.wd := Fm.mem_jun _
  rw [e]
  refine iteB (fun hj => ?_) fun hj => ⟨_, rfl, iteF rfl ?_⟩
  · obtain ⟨w, fs, rfl⟩ := Fm.jun_wd ok hj
    refine ⟨_, rfl, _, _, rfl, rfl, rfl, rfl, _, rfl, iteT (by rfl) ⟨_, rfl, _, at_lit 1 rfl rfl, ?_⟩⟩
    show Q (.lst (Fm.dl fs))
    rw [Fm.dl_map]
    exact q
  · refine ⟨_, rfl, _, rfl, _, rfl, _, at_lit 0 rfl f.dt_head, _, _, rfl, rfl, rfl, rfl, ?_⟩
    rw [eqv_str]
    have cut : ∀ x (l : List D), cutL (x :: l) (some 1) none = l := cut_from1
    cases f with
    | lf w xs =>
      have h := and2 (and2 (and2 (and2 (show (okS w && (!Fm.junB w && (xs.all okS && (decide (xs.length ≤ 100) && (!decide (w = "not") || decide (xs = [])))))) = true from ok)).2).2).2
      have e2 : (Fm.lf w xs).dt = .str w :: xs.map .str := rfl
      have e3 : (Fm.lf w xs).wd = w := rfl
      have hl := of_decide_eq_true h.1
      rw [e2, e3, cut]
      by_cases hw : w = "not"
      · have : xs = [] := by
          have := h.2
          rw [decide_eq_true hw] at this
          exact of_decide_eq_true this
        subst this
        rw [decide_eq_true hw]
        exact ⟨by decide, by decide, by decide, q⟩
      · rw [decide_eq_false hw]
        refine ⟨by decide, by decide, ?_, q⟩
        rw [List.length_map, sizeLine_eq]
        show xs.length * 0 ≤ _
        omega
    | nt fs =>
      have hl := of_decide_eq_true (and2 (show (decide (fs.length ≤ 100) && Fm.okl fs) = true from ok)).1
      have e2 : (Fm.nt fs).dt = .str "not" :: Fm.dl fs := rfl
      have e3 : (Fm.nt fs).wd = "not" := rfl
      rw [e2, e3, cut, decide_eq_true rfl, Fm.dl_map]
      refine ⟨by decide, by decide, ?_, ?_⟩
      · rw [List.length_map, sizeLine_eq]
        show fs.length * 1 ≤ _
        omega
      · show Q (.lst ((fs.map Fm.d) ++ []))
        rw [List.append_nil]
        exact q
    | jn w fs =>
      have := (and2 (show (Fm.junB w && (decide (fs.length ≤ 100) && Fm.okl fs)) = true from ok)).1
      have hj : Fm.junB w = false := hj
      rw [this] at hj
      cases hj
/-! ### parts, depth -/
def mLMeas (n : Nat) : DSp := fun ds Q _ => ∃ f : Fm, ds = [f.d] ∧ f.ok = true ∧ f.dp < n ∧ Q (.tup [.int (f.pt : Nat), .int (f.dp : Nat)])
theorem dpl_max : ∀ (fs : List Fm) (m : Int), m ∈ (0 : Int) :: fs.map (fun f => (1 : Int) + ((f.dp : Nat) : Int)) → (∀ y ∈ (0 : Int) :: fs.map (fun f => (1 : Int) + ((f.dp : Nat) : Int)), y ≤ m) → m = ((Fm.dpl fs : Nat) : Int) := by
  have le : ∀ fs : List Fm, ∀ y ∈ (0 : Int) :: fs.map (fun f => (1 : Int) + ((f.dp : Nat) : Int)), y ≤ ((Fm.dpl fs : Nat) : Int) := by
    intro fs y hy
    rcases List.mem_cons.mp hy with e | e
    · omega
    · obtain ⟨f, hf, rfl⟩ := List.mem_map.mp e
      have := Fm.dpl_le hf
      omega
  have mem : ∀ fs : List Fm, ((Fm.dpl fs : Nat) : Int) ∈ (0 : Int) :: fs.map (fun f => (1 : Int) + ((f.dp : Nat) : Int)) := by
    intro fs
    induction fs with
    | nil => exact List.mem_cons_self
    | cons f fs ih =>
      show ((max (f.dp + 1) (Fm.dpl fs) : Nat) : Int) ∈ _
      rw [List.map_cons]
      rcases Nat.le_total (f.dp + 1) (Fm.dpl fs) with h | h
      · rw [Nat.max_eq_right h]
        rcases List.mem_cons.mp ih with e | e
        · rw [e]; exact List.mem_cons_self
        · exact List.mem_cons_of_mem _ (List.mem_cons_of_mem _ e)
      · rw [Nat.max_eq_left h]
        refine List.mem_cons_of_mem _ ?_
        rw [show ((f.dp + 1 : Nat) : Int) = 1 + ((f.dp : Nat) : Int) by omega]
        exact List.mem_cons_self
  intro fs m hm hy
  have h1 := le fs m hm
  have h2 := hy _ (mem fs)
  omega
theorem pt_sum (fs : List Fm) : (fs.map fun f => ((f.pt : Nat) : Int)).sum = ((Fm.ptl fs : Nat) : Int) := by
  induction fs with
  | nil => rfl
  | cons f fs ih =>
    rw [List.map_cons, List.sum_cons, ih]
    show _ = ((f.pt + Fm.ptl fs : Nat) : Int)
    omega
theorem pl_lmeas {n : Nat} (h1 : Has T "_law_inner" 1 mLInner) (h2 : Has T "_law_measure" 1 (mLMeas n)) (ds : List D) (Q : DK) (X : EK) (h : mLMeas (n + 1) ds Q X) : wpF T n__law_measure.length b__law_measure ds Q X := by
  obtain ⟨f, rfl, ok, hn, q⟩ := h
  obtain ⟨li, oi⟩ := Fm.ok_inn ok
  let enc : Fm → D := fun g => .tup [.int (g.pt : Nat), .int (g.dp : Nat)]
  refine ⟨_, rfl, call_ok h1 rfl rfl ⟨f, rfl, ok, _, rfl, .inr (wk_of Fm.d f.inn (by omega)), ?_⟩⟩
  refine lcW_m Fm.d enc f.inn (by omega) (fun g hg R r => ?_) ?_
  · refine ⟨_, rfl, call_ok h2 rfl rfl ⟨g, rfl, oi g hg, ?_, r⟩⟩
    have := Fm.dpl_le hg
    rw [← Fm.dp_inn] at this
    omega
  refine ⟨_, rfl, _, rfl, .inr (wk_of enc f.inn (by omega)), ?_⟩
  refine lcW_m enc (fun g => .int (g.pt : Nat)) f.inn (by omega) (fun g hg R r => ⟨_, rfl, _, at_lit 0 rfl rfl, r⟩) ?_
  refine ⟨f.inn.map fun g => ((g.pt : Nat) : Int), by rw [List.map_map]; rfl, ?_⟩
  refine ⟨szl, _, rfl, _, rfl, .inr (wk_of enc f.inn (by omega)), ?_⟩
  refine lcW_m enc (fun g => .int (1 + ((g.dp : Nat) : Int))) f.inn (by omega) (fun g hg R r => ⟨_, rfl, _, at_lit 1 rfl rfl, r⟩) ?_
  refine ⟨by rw [List.length_map, sizeLine_eq]; show 1 + f.inn.length ≤ _; omega, (0 : Int) :: f.inn.map (fun f => (1 : Int) + ((f.dp : Nat) : Int)), ?_, ?_, fun m hm hy => ?_⟩
  · rw [List.map_cons, List.map_map]
    rfl
  · rw [List.length_cons]; omega
  · have := dpl_max f.inn m hm hy
    rw [this, pt_sum]
    refine ⟨szl, ?_⟩
    have e : (1 : Int) + ((Fm.ptl f.inn : Nat) : Int) = ((f.pt : Nat) : Int) := by rw [Fm.pt_inn]; omega
    rw [e, ← Fm.dp_inn]
    exact q
/-! ### whether a formula is true -/
def inS (r : List Str) (x : Str) : Bool := decide (x ∈ r)
def mLTrue (n : Nat) : DSp := fun ds Q _ => ∃ (f : Fm) (cl r : List Str), ds = [f.d, encT r] ∧ f.ok = true ∧ f.wf cl = true ∧ f.dp < n ∧ (∀ x ∈ r, okS x = true) ∧ Q (.bl (f.ev (inS r)))
theorem wf_cases {cl : List Str} {f : Fm} (ok : f.ok = true) (wf : f.wf cl = true) : (∃ w : Str, w ∈ (["true", "false"] : List Str) ∧ f = .lf w []) ∨ (∃ x, x ∈ cl ∧ okS x = true ∧ f = .lf "claim" [x]) ∨ (∃ g, f = .nt [g] ∧ g.wf cl = true) ∨ ∃ w fs, f = .jn w fs ∧ (w = "and" ∨ w = "or") ∧ (∀ g ∈ fs, g.wf cl = true) ∧ 2 ≤ fs.length := by
  cases f with
  | lf w xs =>
    have hw : (((decide (w = "true") || decide (w = "false")) && decide (xs = [])) || (decide (w = "claim") && claim1 cl xs)) = true := wf
    rcases Bool.or_eq_true_iff.mp hw with z | z
    · obtain ⟨z1, z2⟩ := and2 z
      have := of_decide_eq_true z2
      subst this
      refine .inl ⟨w, ?_, rfl⟩
      simp only [List.mem_cons, List.not_mem_nil, or_false]
      rcases Bool.or_eq_true_iff.mp z1 with z | z
      · exact .inl (of_decide_eq_true z)
      · exact .inr (of_decide_eq_true z)
    · obtain ⟨z1, z2⟩ := and2 z
      have z1 := of_decide_eq_true z1
      subst z1
      match xs, z2, ok with
      | [x], z2, ok =>
        have ox := (and2 (and2 (and2 (show (okS "claim" && (!Fm.junB "claim" && (([x] : List Str).all okS && (decide (([x] : List Str).length ≤ 100) && (!decide (("claim" : Str) = "not") || decide (([x] : List Str) = [])))))) = true from ok)).2).2).1
        exact .inr (.inl ⟨x, of_decide_eq_true z2, by simpa using ox, rfl⟩)
      | [], z2, _ => cases z2
      | _ :: _ :: _, z2, _ => cases z2
  | nt fs =>
    obtain ⟨h1, h2⟩ := and2 (show (decide (fs.length = 1) && Fm.wfl cl fs) = true from wf)
    have h1 := of_decide_eq_true h1
    match fs, h1, h2 with
    | [g], _, h2 => exact .inr (.inr (.inl ⟨g, rfl, (and2 (show (Fm.wf cl g && true) = true from h2)).1⟩))
  | jn w fs =>
    obtain ⟨h1, h2⟩ := and2 (show (decide (2 ≤ fs.length) && Fm.wfl cl fs) = true from wf)
    rw [Fm.wfl_all] at h2
    have hj := (and2 (show (Fm.junB w && (decide (fs.length ≤ 100) && Fm.okl fs)) = true from ok)).1
    unfold Fm.junB at hj
    refine .inr (.inr (.inr ⟨w, fs, rfl, ?_, List.all_eq_true.mp h2, of_decide_eq_true h1⟩))
    rcases Bool.or_eq_true_iff.mp hj with z | z
    · exact .inl (of_decide_eq_true z)
    · exact .inr (of_decide_eq_true z)
theorem pl_ltrue {n : Nat} (h1 : Has T "_law_inner" 1 mLInner) (h2 : Has T "_law_true" 2 (mLTrue n)) (ds : List D) (Q : DK) (X : EK) (h : mLTrue (n + 1) ds Q X) : wpF T n__law_true.length b__law_true ds Q X := by
  obtain ⟨f, cl, r, rfl, ok, wf, hn, or, q⟩ := h
  obtain ⟨li, oi⟩ := Fm.ok_inn ok
  have ow := Fm.wd_ok ok
  -- the inner ones
  have rows : ∀ {K : KD}, (∀ g ∈ f.inn, g.wf cl = true) → ∀ {x3 x4 : Option D}, K.nx [some f.d, some (encT r), some (.str f.wd), some (.lst (f.inn.map fun g => .bl (g.ev (inS r)))), x4] → wpS T (.asg 3 (.lc [("one", 4)] (.one 4) (.call "_law_inner" [(.var 0)]) [] (.call "_law_true" [(.var 4), (.var 1)]))) [some f.d, some (encT r), some (.str f.wd), x3, x4] K := by
    intro K wi x3 x4 k
    refine ⟨_, rfl, call_ok h1 rfl rfl ⟨f, rfl, ok, _, rfl, .inr (wk_of Fm.d f.inn (by omega)), ?_⟩⟩
    refine lcW_m Fm.d (fun g => .bl (g.ev (inS r))) f.inn (by omega) (fun g hg R rr => ?_) k
    refine ⟨_, rfl, _, rfl, call_ok h2 rfl rfl ⟨g, cl, r, rfl, oi g hg, wi g hg, ?_, or, rr⟩⟩
    have := Fm.dpl_le hg
    rw [← Fm.dp_inn] at this
    omega
  rw [Fm.d_eq] at rows ⊢
  refine ⟨_, rfl, _, at_lit 0 rfl f.dt_head, ?_⟩
  refine ⟨_, rfl, szl, inn_lst (l := ["true", "false"]) ow ok_tf ⟨_, rfl, ?_⟩⟩
  show if decide (f.wd ∈ (["true", "false"] : List Str)) = true then _ else _
  rcases wf_cases ok wf with ⟨w, ht, rfl⟩ | ⟨x, hx, ox, rfl⟩ | ⟨g, rfl, wg⟩ | ⟨w, fs, rfl, hw, wg, l2⟩
  · refine iteT (decide_eq_true ht) ⟨_, rfl, _, _, rfl, rfl, rfl, rfl, ?_⟩
    rw [eqv_str]
    have ew : (Fm.lf w []).wd = w := rfl
    rw [ew]
    have : (Fm.lf w []).ev (inS r) = decide (w = "true") := by
      show (decide (w = "true") || (decide (w = "claim") && ([] : List Str).any _)) = _
      simp
    rw [this] at q
    exact q
  · refine iteF (by kernel_rfl) ⟨_, rfl, _, _, rfl, rfl, rfl, rfl, _, rfl, ?_⟩
    rw [eqv_str]
    refine iteT (by kernel_rfl) ⟨_, rfl, _, at_lit 1 rfl rfl, _, rfl, inn_tup ox or ?_⟩
    have : (Fm.lf "claim" [x]).ev (inS r) = decide (x ∈ r) := by
      show (decide (("claim" : Str) = "true") || (decide (("claim" : Str) = "claim") && (inS r x || false))) = _
      rw [decide_eq_true rfl, show decide (("claim" : Str) = "true") = false by decide +kernel]
      simp [inS]
    rw [this] at q
    exact q
  · refine iteF (by kernel_rfl) ⟨_, rfl, _, _, rfl, rfl, rfl, rfl, _, rfl, ?_⟩
    rw [eqv_str]
    refine iteF (by kernel_rfl) (rows (mem1 wg) ?_)
    refine ⟨_, rfl, _, _, rfl, rfl, rfl, rfl, _, rfl, ?_⟩
    rw [eqv_str]
    refine iteT (by kernel_rfl) ⟨_, rfl, _, at_lit 0 rfl rfl, _, rfl, ?_⟩
    have : (Fm.nt [g]).ev (inS r) = !g.ev (inS r) := by
      show (!(g.ev (inS r) || false)) = _
      rw [Bool.or_false]
    rw [this] at q
    exact q
  · have eL : (Fm.jn w fs).ev (inS r) = if decide (w = "and") = true then fs.all (Fm.ev (inS r)) else fs.any (Fm.ev (inS r)) := by
      rw [← Fm.evL_all, ← Fm.evY_any]
      rfl
    rw [eL] at q
    have er : ((Fm.jn w fs).inn.map fun g => D.bl (g.ev (inS r))) = (fs.map fun g => g.ev (inS r)).map .bl := bl_map _ _
    rw [er] at rows
    rcases hw with rfl | rfl
    · refine iteF (by kernel_rfl) ⟨_, rfl, _, _, rfl, rfl, rfl, rfl, _, rfl, ?_⟩
      rw [eqv_str]
      refine iteF (by kernel_rfl) (rows wg ?_)
      refine ⟨_, rfl, _, _, rfl, rfl, rfl, rfl, _, rfl, ?_⟩
      rw [eqv_str]
      refine iteF (by kernel_rfl) ⟨_, rfl, _, rfl, ?_⟩
      rw [any_id]
      refine ⟨_, rfl, _, rfl, ?_⟩
      rw [all_id]
      rw [if_pos (decide_eq_true rfl)] at q
      refine ⟨szl, _, rfl, _, _, rfl, rfl, rfl, rfl, ?_⟩
      rw [eqv_str]
      exact ⟨_, at_lit 1 (by rw [show (Fm.jn "and" fs).wd = "and" from rfl, decide_eq_true rfl]; rfl) rfl, q⟩
    · refine iteF (by kernel_rfl) ⟨_, rfl, _, _, rfl, rfl, rfl, rfl, _, rfl, ?_⟩
      rw [eqv_str]
      refine iteF (by kernel_rfl) (rows wg ?_)
      refine ⟨_, rfl, _, _, rfl, rfl, rfl, rfl, _, rfl, ?_⟩
      rw [eqv_str]
      refine iteF (by kernel_rfl) ⟨_, rfl, _, rfl, ?_⟩
      rw [any_id]
      refine ⟨_, rfl, _, rfl, ?_⟩
      rw [all_id]
      rw [if_neg (by decide +kernel)] at q
      refine ⟨szl, _, rfl, _, _, rfl, rfl, rfl, rfl, ?_⟩
      rw [eqv_str]
      exact ⟨_, at_lit 0 (by rw [show (Fm.jn "or" fs).wd = "or" from rfl, show decide (("or" : Str) = "and") = false by decide +kernel]; rfl) rfl, q⟩
end
end DL

/-! A12: subsets, truths, what labels allow, as the law has it -/
namespace DL
open PySem
open L2 (Key)
theorem snoc_ind {α : Type} {P : List α → Prop} (h0 : P []) (hs : ∀ l a, P l → P (l ++ [a])) : ∀ l, P l := by
  have : ∀ l : List α, P l.reverse := by
    intro l
    induction l with
    | nil => exact h0
    | cons a l ih => rw [List.reverse_cons]; exact hs _ _ ih
  intro l
  have := this l.reverse
  rwa [List.reverse_reverse] at this
/-! what labels allow -/
def stepR (p : Str × Str) (r : List Str) : List (List Str) := (if p.2 = "in" then [] else [r]) ++ (if p.2 = "out" then [] else [r ++ [p.1]])
def alw (ps : List (Str × Str)) : List (List Str) := ps.foldl (fun found p => found.flatMap (stepR p)) [[]]
theorem alw_snoc (ps : List (Str × Str)) (p : Str × Str) : alw (ps ++ [p]) = (alw ps).flatMap (stepR p) := by
  unfold alw
  rw [List.foldl_append]
  rfl
theorem step_len (p : Str × Str) (r : List Str) : (stepR p r).length ≤ 2 := by
  unfold stepR
  rw [List.length_append]
  split <;> split <;> simp
theorem flat2 {α β : Type} (f : α → List β) : ∀ l : List α, (∀ x ∈ l, (f x).length ≤ 2) → (l.flatMap f).length ≤ 2 * l.length
  | [], _ => Nat.le_refl _
  | x :: l, h => by
    rw [List.flatMap_cons, List.length_append, List.length_cons]
    have := h x List.mem_cons_self
    have := flat2 f l fun y hy => h y (List.mem_cons_of_mem _ hy)
    omega
theorem alw_len : ∀ ps : List (Str × Str), (alw ps).length ≤ 2 ^ ps.length := by
  refine snoc_ind (Nat.le_refl _) fun ps p ih => ?_
  rw [alw_snoc, List.length_append, List.length_cons, List.length_nil, Nat.pow_succ]
  have := flat2 (stepR p) (alw ps) fun r _ => step_len p r
  omega
theorem mem_step {p : Str × Str} {r s : List Str} : s ∈ stepR p r ↔ (s = r ∧ p.2 ≠ "in") ∨ (s = r ++ [p.1] ∧ p.2 ≠ "out") := by
  unfold stepR
  rw [List.mem_append]
  constructor
  · rintro (h | h)
    · split at h
      · cases h
      · exact .inl ⟨List.mem_singleton.mp h, ‹_›⟩
    · split at h
      · cases h
      · exact .inr ⟨List.mem_singleton.mp h, ‹_›⟩
  · rintro (⟨rfl, h⟩ | ⟨rfl, h⟩)
    · rw [if_neg h]; exact .inl List.mem_cons_self
    · rw [if_neg h]; exact .inr List.mem_cons_self
theorem alw_in : ∀ ps : List (Str × Str), ∀ r ∈ alw ps, (∀ p ∈ ps, p.2 = "in" → p.1 ∈ r) ∧ (∀ x ∈ r, ∃ p ∈ ps, p.1 = x ∧ p.2 ≠ "out") ∧ r ∈ subs (ps.map (·.1)) ∧ r.length ≤ ps.length := by
  refine snoc_ind (fun r hr => ?_) fun ps p ih r hr => ?_
  · rw [List.mem_singleton.mp hr]
    exact ⟨fun p hp => absurd hp List.not_mem_nil, fun x hx => absurd hx List.not_mem_nil, List.mem_cons_self, Nat.le_refl _⟩
  · rw [alw_snoc] at hr
    obtain ⟨s, hs, hr⟩ := List.mem_flatMap.mp hr
    obtain ⟨i1, i2, i3, i4⟩ := ih s hs
    rw [List.map_append, List.length_append]
    show _ ∧ _ ∧ r ∈ subs (ps.map (·.1) ++ [p.1]) ∧ r.length ≤ ps.length + 1
    rw [subs_snoc]
    rcases mem_step.mp hr with ⟨rfl, h⟩ | ⟨rfl, h⟩
    · refine ⟨fun q hq e => ?_, fun x hx => ?_, List.mem_append_left _ i3, by omega⟩
      · rcases List.mem_append.mp hq with z | z
        · exact i1 q z e
        · rw [List.mem_singleton.mp z] at e
          exact absurd e h
      · obtain ⟨q, h1, h2⟩ := i2 x hx
        exact ⟨q, List.mem_append_left _ h1, h2⟩
    · refine ⟨fun q hq e => ?_, fun x hx => ?_, List.mem_append_right _ (List.mem_map.mpr ⟨s, i3, rfl⟩), by rw [List.length_append]; simp only [List.length_cons, List.length_nil]; omega⟩
      · rcases List.mem_append.mp hq with z | z
        · exact List.mem_append_left _ (i1 q z e)
        · rw [List.mem_singleton.mp z]
          exact List.mem_append_right _ List.mem_cons_self
      · rcases List.mem_append.mp hx with z | z
        · obtain ⟨q, h1, h2⟩ := i2 x z
          exact ⟨q, List.mem_append_left _ h1, h2⟩
        · rw [List.mem_singleton.mp z]
          exact ⟨p, List.mem_append_right _ List.mem_cons_self, rfl, h⟩
theorem alw_has (S : Str → Bool) : ∀ ps : List (Str × Str), (∀ p ∈ ps, (p.2 = "in" → S p.1 = true) ∧ (p.2 = "out" → S p.1 = false)) → (ps.map (·.1)).filter S ∈ alw ps := by
  refine snoc_ind (fun _ => List.mem_cons_self) fun ps p ih h => ?_
  rw [alw_snoc, List.map_append, List.filter_append]
  refine List.mem_flatMap.mpr ⟨_, ih fun q hq => h q (List.mem_append_left _ hq), mem_step.mpr ?_⟩
  obtain ⟨h1, h2⟩ := h p (List.mem_append_right _ List.mem_cons_self)
  cases hS : S p.1 with
  | true =>
    refine .inr ⟨?_, fun z => by rw [h2 z] at hS; cases hS⟩
    simp [hS]
  | false =>
    refine .inl ⟨?_, fun z => by rw [h1 z] at hS; cases hS⟩
    simp [hS]
theorem zip_at {cl labels : List Str} {p : Str × Str} (h : p ∈ cl.zip labels) : ∃ k : Nat, cl[k]? = some p.1 ∧ labels[k]? = some p.2 := by
  obtain ⟨k, hk, e⟩ := List.getElem_of_mem h
  have : (cl.zip labels)[k]? = some p := by rw [List.getElem?_eq_getElem hk, e]
  exact ⟨k, List.getElem?_zip_eq_some.mp this⟩
theorem alw_agr {cl labels : List Str} (nd : cl.Nodup) {r : List Str} (h : r ∈ alw (cl.zip labels)) : Agr cl labels (inS r) := fun k x lb h1 h2 => by
  obtain ⟨a1, a2, _, _⟩ := alw_in _ r h
  have hm : (x, lb) ∈ cl.zip labels := List.mem_of_getElem? (List.getElem?_zip_eq_some.mpr ⟨h1, h2⟩)
  constructor
  · intro e
    exact decide_eq_true (a1 _ hm e)
  · intro e
    refine decide_eq_false fun hx => ?_
    obtain ⟨p, hp, e1, e2⟩ := a2 x hx
    obtain ⟨k', k1, k2⟩ := zip_at hp
    rw [e1] at k1
    have : k' = k := by rw [← idx_at nd k1, idx_at nd h1]
    rw [this, h2] at k2
    exact e2 ((Option.some.inj k2).symm.trans e)
theorem lab1_alw {cl labels : List Str} (nd : cl.Nodup) (hl : labels.length = cl.length) {f : Fm} (hw : f.wf cl = true) : lab1 cl labels f =
    if (alw (cl.zip labels)).all (fun r => f.ev (inS r)) = true then "in" else if (alw (cl.zip labels)).any (fun r => f.ev (inS r)) = true then "open" else "out" := by
  have mp : (cl.zip labels).map (·.1) = cl := List.map_fst_zip (by omega)
  have to : ∀ S, Agr cl labels S → ∃ r ∈ alw (cl.zip labels), f.ev (inS r) = f.ev S := fun S hS => by
    have h := alw_has S (cl.zip labels) fun p hp => by
      obtain ⟨k, h1, h2⟩ := zip_at hp
      exact hS k _ _ h1 h2
    rw [mp] at h
    refine ⟨_, h, Fm.ev_congr (fun x hx => ?_) f hw⟩
    unfold inS
    rw [Bool.eq_iff_iff, decide_eq_true_iff, List.mem_filter]
    exact ⟨fun z => z.2, fun z => ⟨hx, z⟩⟩
  refine lab1_of ?_ ?_
  · rw [List.all_eq_true]
    constructor
    · intro h S hS
      obtain ⟨r, hr, e⟩ := to S hS
      rw [← e]
      exact h r hr
    · exact fun h r hr => h _ (alw_agr nd hr)
  · rw [List.any_eq_true]
    constructor
    · rintro ⟨r, hr, h⟩
      exact ⟨_, alw_agr nd hr, h⟩
    · rintro ⟨S, hS, h⟩
      obtain ⟨r, hr, e⟩ := to S hS
      exact ⟨r, hr, by rw [e]; exact h⟩
theorem alw_ne {cl labels : List Str} (nd : cl.Nodup) (hl : labels.length = cl.length) : alw (cl.zip labels) ≠ [] := by
  obtain ⟨S, hS⟩ := agr_some cl labels nd
  have h := alw_has S (cl.zip labels) fun p hp => by
    obtain ⟨k, h1, h2⟩ := zip_at hp
    exact hS k _ _ h1 h2
  intro z
  rw [z] at h
  cases h
/-! a dict by tuples of texts -/
def kT (r : List Str) : List Key := r.map .inr
theorem kT_inj {r s : List Str} (h : kT r = kT s) : r = s := by
  induction r generalizing s with
  | nil =>
    cases s with
    | nil => rfl
    | cons y s => cases h
  | cons x r ih =>
    cases s with
    | nil => cases h
    | cons y s =>
      have h : (.inr x : Key) :: kT r = .inr y :: kT s := h
      injection h with h1 h2
      rw [Sum.inr.inj h1, ih h2]
theorem keyT_T (r : List Str) : keyT (encT r) = some (kT r) := by
  show keyKs (r.map .str) = some (kT r)
  induction r with
  | nil => rfl
  | cons x r ih =>
    show (match keyK (.str x), keyKs (r.map .str) with
      | some p, some q => some (p :: q)
      | _, _ => none) = _
    rw [ih]
    rfl
theorem valD_put {κ : Type} [DecidableEq κ] {l : List (κ × D)} {k k' : κ} {v : D} : valD (putD l k v) k' = if k' = k then some v else valD l k' := by
  unfold putD
  by_cases h : (l.any fun kv => decide (kv.1 = k)) = true
  · rw [if_pos h]
    induction l with
    | nil => cases h
    | cons p l ih =>
      rw [List.map_cons]
      unfold valD at ih ⊢
      rw [List.find?_cons, List.find?_cons]
      by_cases hp : p.1 = k
      · rw [if_pos hp]
        by_cases hk : k' = k
        · rw [if_pos hk]
          simp [hp, hk]
        · rw [if_neg hk]
          have h1 : ¬ p.1 = k' := fun z => hk (by rw [← z, hp])
          simp only [h1, decide_false]
          by_cases h2 : (l.any fun kv => decide (kv.1 = k)) = true
          · rw [ih h2, if_neg hk]
          · have : (l.map fun kv => if kv.1 = k then (kv.1, v) else kv) = l := by
              rw [Bool.not_eq_true, List.any_eq_false] at h2
              conv => rhs; rw [← List.map_id l]
              refine List.map_congr_left fun q hq => ?_
              have := h2 q hq
              rw [if_neg (by simpa using this)]
              rfl
            rw [this]
      · rw [if_neg hp]
        rw [List.any_cons, decide_eq_false hp, Bool.false_or] at h
        by_cases hk' : p.1 = k'
        · have : ¬ k' = k := fun z => hp (by rw [hk', z])
          simp [hk', this]
        · simp only [hk', decide_false]
          exact ih h
  · rw [if_neg h]
    unfold valD
    rw [List.find?_append]
    by_cases hk : k' = k
    · rw [if_pos hk]
      have : l.find? (fun kv => decide (kv.1 = k')) = none := by
        rw [List.find?_eq_none]
        intro p hp
        rw [Bool.not_eq_true, List.any_eq_false] at h
        have := h p hp
        rw [hk]
        exact this
      rw [this]
      simp [hk]
    · rw [if_neg hk]
      have : ¬ k = k' := fun z => hk z.symm
      simp [this]
theorem putD_len {κ : Type} [DecidableEq κ] {l : List (κ × D)} {k : κ} {v : D} : (putD l k v).length ≤ l.length + 1 := by
  unfold putD
  split
  · rw [List.length_map]; omega
  · simp
def rowD (b : Bk) (r : List Str) : D := .lst (b.fs.map fun f => .bl (f.ev (inS r)))
/-- the truths of a book -/
def TruOk (b : Bk) (tr : List (List Key × D)) : Prop := ∀ r ∈ subs b.cl, valD tr (kT r) = some (rowD b r)
theorem subs64 {l : List Str} (h : l.length ≤ 6) : (subs l).length ≤ 64 := by
  rw [subs_len _ l rfl]
  exact pow6 h
section
variable {T : Tb}
def mSubs : DSp := fun ds Q _ => ∃ l : List Str, ds = [encT l] ∧ l.length ≤ 6 ∧ Q (.lst ((sT (subs l)).map encT))
theorem pl_subs (ds : List D) (Q : DK) (X : EK) (h : mSubs ds Q X) : wpF T n__law_subsets.length b__law_subsets ds Q X := by
  obtain ⟨l, rfl, ll, q⟩ := h
  refine ⟨szl, szl, ?_⟩
  refine ⟨_, rfl, _, rfl, .inr (wk_of D.str l (by omega)), ?_⟩
  refine forL_t D.str (fun i ρ => ∃ x2 : Option D, ρ = [some (encT l), some (.lst ((subs (l.take i)).map encT)), x2, none]) l 0 _ ⟨none, rfl⟩ (fun j o ρ N hj hi hn => ?_) fun ρ hi => ?_
  · obtain ⟨x2, rfl⟩ := hi
    rw [Nat.zero_add] at hn ⊢
    have tk : l.take (j + 1) = l.take j ++ [o] := by
      rw [List.take_succ, hj]
      rfl
    have lj : (l.take j).length ≤ 6 := by rw [List.length_take]; omega
    have sl := subs64 lj
    refine ⟨_, rfl, _, rfl, _, rfl, .inr (wk_of encT (subs (l.take j)) (by omega)), lcW_m encT (fun r => encT (r ++ [o])) (subs (l.take j)) (by omega) (fun r hr R k => ?_) ?_⟩
    · have lr := (subs_sublist hr).length_le
      refine ⟨_, rfl, _, rfl, szl, ?_, ?_⟩
      · show (r.map D.str).length + 1 ≤ _
        rw [List.length_map, sizeLine_eq]
        omega
      · show R (some (D.tup (r.map D.str ++ [D.str o])))
        rw [enc_snoc]
        exact k
    · refine ⟨by rw [List.length_map, List.length_map, sizeLine_eq]; omega, hn _ ⟨some (.str o), ?_⟩⟩
      rw [tk, subs_snoc]
      unfold addO
      rw [List.map_append, List.map_map]
      rfl
  obtain ⟨x2, rfl⟩ := hi
  rw [Nat.zero_add, List.take_length]
  obtain ⟨r, hr⟩ := subs_head l
  refine ⟨_, rfl, by rw [hr]; exact sc_tups r, ?_⟩
  have e : sortD ((subs l).map encT) = (sT (subs l)).map encT := sortD_map encT _
  rw [e]
  exact q
theorem sT_mem {l : List (List Str)} {r : List Str} : r ∈ sT l ↔ r ∈ l := List.mem_mergeSort
theorem sT_len (l : List (List Str)) : (sT l).length = l.length := List.length_mergeSort _
theorem subs_ok {cl r : List Str} (oc : ∀ x ∈ cl, okS x = true) (h : r ∈ subs cl) : ∀ x ∈ r, okS x = true := fun x hx => oc x ((subs_sublist h).subset hx)
def mTruths : DSp := fun ds Q _ => ∃ b : Bk, ds = [b.d] ∧ b.Fine ∧ ∀ tr, TruOk b tr → Q (.dit tr)
theorem pl_truths (h1 : Has T "_law_subsets" 1 mSubs) (h2 : Has T "_law_true" 2 (mLTrue 12)) (ds : List D) (Q : DK) (X : EK) (h : mTruths ds Q X) : wpF T n__law_truths.length b__law_truths ds Q X := by
  obtain ⟨b, rfl, fb, q⟩ := h
  have l6 := fb.l6
  have le := fb.le
  have ob := fb.ok
  have s64 := subs64 l6
  have sl : (sT (subs b.cl)).length ≤ 64 := by rw [sT_len]; exact s64
  refine ⟨_, rfl, _, at_lit 0 rfl rfl, call_ok h1 rfl rfl ⟨b.cl, rfl, l6, _, rfl, .inr (wk_of encT (sT (subs b.cl)) (by omega)), ?_⟩⟩
  refine forL_t encT (fun i ρ => ∃ (x2 : Option D) (tr : List (List Key × D)), ρ = [some b.d, some (.dit tr), x2, none] ∧ tr.length ≤ i ∧ ∀ r ∈ (sT (subs b.cl)).take i, valD tr (kT r) = some (rowD b r)) (sT (subs b.cl)) 0 _ ⟨none, [], rfl, Nat.le_refl _, fun r hr => absurd hr List.not_mem_nil⟩ (fun j r ρ N hj hi hn => ?_) fun ρ hi => ?_
  · obtain ⟨x2, tr, rfl, htl, htr⟩ := hi
    rw [Nat.zero_add] at hn htl htr
    have hjl := (List.getElem?_eq_some_iff.mp hj).1
    have hm : r ∈ subs b.cl := sT_mem.mp (List.mem_of_getElem? hj)
    have tk : (sT (subs b.cl)).take (j + 1) = (sT (subs b.cl)).take j ++ [r] := by
      rw [List.take_succ, hj]
      rfl
    refine ⟨_, rfl, _, rfl, _, at_lit 1 rfl rfl, _, rfl, .inr (wk_of Fm.d b.fs (by omega)), ?_⟩
    refine lcW_m Fm.d (fun f => .bl (f.ev (inS r))) b.fs (by omega) (fun f hf R k => ?_) ?_
    · exact ⟨_, rfl, _, rfl, call_ok h2 rfl rfl ⟨f, b.cl, r, rfl, (ob.fs f hf).1, fb.wf f hf, (ob.fs f hf).2, subs_ok ob.cl hm, k⟩⟩
    · refine ⟨_, rfl, _, keyT_T r, ?_, hn _ ⟨some (encT r), _, rfl, ?_, fun s hs => ?_⟩⟩
      · rw [sizeLine_eq]; omega
      · exact Nat.le_trans putD_len (by omega)
      · rw [valD_put]
        rw [tk] at hs
        by_cases e : s = r
        · rw [if_pos (by rw [e]), e]
          rfl
        · rw [if_neg fun z => e (kT_inj z)]
          rcases List.mem_append.mp hs with z | z
          · exact htr s z
          · exact absurd (List.mem_singleton.mp z) e
  · obtain ⟨x2, tr, rfl, _, htr⟩ := hi
    rw [Nat.zero_add, List.take_length] at htr
    exact ⟨_, rfl, q tr fun r hr => htr r (sT_mem.mpr hr)⟩
/-! ### what labels allow -/
def alwBody : List S := [.iff (.cmp .NotEq (.sub (.var 1) (.var 3)) (.con (.str "in"))) [.app 4 (.var 5)] [], .iff (.cmp .NotEq (.sub (.var 1) (.var 3)) (.con (.str "out"))) [.app 4 (.bin .Add (.var 5) (.tup [(.sub (.sub (.var 0) (.con (.int 0))) (.var 3))]))] []]
theorem alw_body {b : Bk} {labels : List Str} {k : Nat} {lb c : Str} (hk : labels[k]? = some lb) (hc : b.cl[k]? = some c) {r : List Str} (rl : r.length ≤ 6) {F : List (List Str)} (fl : F.length ≤ 200) {x2 : Option D} {κ : KD}
    (q : κ.nx [some b.d, some (encT labels), x2, some (.int (0 + (k : Int))), some (.lst ((F ++ stepR (c, lb) r).map encT)), some (encT r)]) : wpSs T alwBody [some b.d, some (encT labels), x2, some (.int (0 + (k : Int))), some (.lst (F.map encT)), some (encT r)] κ := by
  have dk : (labels.map D.str)[k]? = some (.str lb) := by rw [List.getElem?_map, hk]; rfl
  have dc : (b.cl.map D.str)[k]? = some (.str c) := by rw [List.getElem?_map, hc]; rfl
  have snd : ∀ G : List (List Str), G.length ≤ 1 → G ++ (if lb = "out" then [] else [r ++ [c]]) = stepR (c, lb) r → wpSs T (alwBody.drop 1) [some b.d, some (encT labels), x2, some (.int (0 + (k : Int))), some (.lst ((F ++ G).map encT)), some (encT r)] κ := fun G hG e => by
    refine ⟨_, rfl, _, rfl, _, at_lit k (by omega) dk, _, _, rfl, rfl, rfl, rfl, _, rfl, ?_⟩
    rw [eqv_str]
    refine iteB (fun e2 => ?_) fun e2 => ?_
    · rw [Bool.not_eq_true'] at e2
      rw [if_neg (of_decide_eq_false e2)] at e
      refine ⟨_, rfl, _, rfl, _, rfl, _, at_lit 0 rfl rfl, _, rfl, _, at_lit k (by omega) dc, szl, ?_, ?_, ?_⟩
      · show (r.map D.str).length + 1 ≤ _
        rw [List.length_map, sizeLine_eq]
        omega
      · rw [List.length_map, List.length_append, sizeLine_eq]
        omega
      · rw [← e] at q
        have : (F ++ G).map encT ++ [D.tup (r.map D.str ++ [D.str c])] = (F ++ (G ++ [r ++ [c]])).map encT := by
          rw [enc_snoc, ← List.append_assoc, List.map_append (l₁ := F ++ G)]
          rfl
        rw [this]
        exact q
    · rw [Bool.not_eq_false'] at e2
      rw [if_pos (of_decide_eq_true e2), List.append_nil] at e
      rw [← e] at q
      exact q
  refine ⟨_, rfl, _, rfl, _, at_lit k (by omega) dk, _, _, rfl, rfl, rfl, rfl, _, rfl, ?_⟩
  rw [eqv_str]
  refine iteB (fun e => ?_) fun e => ?_
  · rw [Bool.not_eq_true'] at e
    have e := of_decide_eq_false e
    refine ⟨_, rfl, _, rfl, ?_, ?_⟩
    · rw [List.length_map, sizeLine_eq]
      omega
    · have h := snd [r] (Nat.le_refl _) (by unfold stepR; rw [if_neg e])
      rw [List.map_append] at h
      exact h
  · rw [Bool.not_eq_false'] at e
    have e := of_decide_eq_true e
    have h := snd [] (Nat.zero_le _) (by unfold stepR; rw [if_pos e])
    rw [List.append_nil] at h
    exact h
def mLAllowed : DSp := fun ds Q _ => ∃ (b : Bk) (labels : List Str), ds = [b.d, encT labels] ∧ b.Fine ∧ Labs b labels ∧ Q (.lst ((alw (b.cl.zip labels)).map encT))
theorem pl_lallowed (ds : List D) (Q : DK) (X : EK) (h : mLAllowed ds Q X) : wpF T n__law_allowed.length b__law_allowed ds Q X := by
  obtain ⟨b, labels, rfl, fb, lb, q⟩ := h
  have l6 := fb.l6
  have ll := lb.1
  refine ⟨szl, szl, ?_⟩
  have elen : (((labels.map D.str).length : Nat) : Int) = ((labels.length : Nat) : Int) := by rw [List.length_map]
  refine ⟨_, rfl, _, rfl, by omega, by omega, _, rfl, .inr (rl_wk (by omega)), ?_⟩
  rw [elen, Int.toNat_natCast]
  refine forL_t (fun k : Nat => D.int (0 + (k : Int))) (fun i ρ => ∃ (x3 x4 x5 : Option D), ρ = [some b.d, some (encT labels), some (.lst ((alw ((b.cl.zip labels).take i)).map encT)), x3, x4, x5]) (List.range labels.length) 0 _ ⟨none, none, none, rfl⟩ (fun j k ρ N hj hi hn => ?_) fun ρ hi => ?_
  · obtain ⟨x3, x4, x5, rfl⟩ := hi
    rw [Nat.zero_add] at hn ⊢
    obtain ⟨rfl, hlt⟩ := range_at hj
    have hc : b.cl[k]? = some b.cl[k] := List.getElem?_eq_getElem (by omega)
    have hlb : labels[k]? = some labels[k] := List.getElem?_eq_getElem hlt
    have hz : (b.cl.zip labels)[k]? = some (b.cl[k], labels[k]) := List.getElem?_zip_eq_some.mpr ⟨hc, hlb⟩
    have tk : (b.cl.zip labels).take (k + 1) = (b.cl.zip labels).take k ++ [(b.cl[k], labels[k])] := by
      rw [List.take_succ, hz]
      rfl
    have okl : okS labels[k] = true := ok_lab _ (lb.2 _ (List.getElem_mem hlt))
    have al : (alw ((b.cl.zip labels).take k)).length ≤ 64 := Nat.le_trans (alw_len _) (pow6 (by rw [List.length_take, List.length_zip]; omega))
    have dk : labels[k]?.map D.str = some (.str labels[k]) := by rw [hlb]; rfl
    have dc : b.cl[k]?.map D.str = some (.str b.cl[k]) := by rw [hc]; rfl
    refine ⟨szl, ?_⟩
    refine ⟨_, rfl, _, rfl, .inr (wk_of encT (alw ((b.cl.zip labels).take k)) (by omega)), ?_⟩
    refine forL_t encT (fun i ρ => ∃ x5 : Option D, ρ = [some b.d, some (encT labels), some (.lst ((alw ((b.cl.zip labels).take k)).map encT)), some (.int (0 + (k : Int))), some (.lst ((((alw ((b.cl.zip labels).take k)).take i).flatMap (stepR (b.cl[k], labels[k]))).map encT)), x5]) (alw ((b.cl.zip labels).take k)) 0 _ ⟨x5, rfl⟩ (fun i r ρ N2 hr hi hn2 => ?_) fun ρ hi => ?_
    · obtain ⟨x5, rfl⟩ := hi
      rw [Nat.zero_add] at hn2 ⊢
      have hm := List.mem_of_getElem? hr
      have tk2 : (alw ((b.cl.zip labels).take k)).take (i + 1) = (alw ((b.cl.zip labels).take k)).take i ++ [r] := by
        rw [List.take_succ, hr]
        rfl
      have fl : (((alw ((b.cl.zip labels).take k)).take i).flatMap (stepR (b.cl[k], labels[k]))).length ≤ 128 := Nat.le_trans (flat2 _ _ fun r _ => step_len _ r) (by rw [List.length_take]; omega)
      have rl := (alw_in _ r hm).2.2.2
      generalize hF : ((alw ((b.cl.zip labels).take k)).take i).flatMap (stepR (b.cl[k], labels[k])) = F at fl
      refine alw_body hlb hc (by have := ll; rw [List.length_take, List.length_zip] at rl; omega) (by omega) (hn2 _ ⟨some (encT r), ?_⟩)
      rw [tk2, List.flatMap_append, hF, List.flatMap_cons, List.flatMap_nil, List.append_nil]
    · obtain ⟨x5, rfl⟩ := hi
      rw [Nat.zero_add, List.take_length]
      refine ⟨_, rfl, hn _ ⟨some (.int (0 + (k : Int))), none, x5, ?_⟩⟩
      rw [tk, alw_snoc]
      rfl
  · obtain ⟨x3, x4, x5, rfl⟩ := hi
    rw [Nat.zero_add, List.length_range]
    have : (b.cl.zip labels).take labels.length = b.cl.zip labels := List.take_of_length_le (by rw [List.length_zip]; omega)
    rw [this]
    exact ⟨_, rfl, q⟩
end
end DL

/-! A13: next labels, stable models, the labels that stand, as the law has it -/
namespace DL
open PySem
open L2 (Key)
theorem nxt_Labs {b : Bk} (fb : b.Fine) (l : List Str) : Labs b (nxt b l) := ⟨by rw [nxt_len, fb.le], nxt_lab b l⟩
section
variable {T : Tb}
def mLNext : DSp := fun ds Q _ => ∃ (b : Bk) (tr : List (List Key × D)) (labels : List Str), ds = [b.d, .dit tr, encT labels] ∧ b.Fine ∧ TruOk b tr ∧ Labs b labels ∧ Q (encT (nxt b labels))
theorem pl_lnext (h1 : Has T "_law_allowed" 2 mLAllowed) (ds : List D) (Q : DK) (X : EK) (h : mLNext ds Q X) : wpF T n__law_next_labels.length b__law_next_labels ds Q X := by
  obtain ⟨b, tr, labels, rfl, fb, tk, lb, q⟩ := h
  have l6 := fb.l6
  have le := fb.le
  have ll := lb.1
  have al : (alw (b.cl.zip labels)).length ≤ 64 := Nat.le_trans (alw_len _) (pow6 (by rw [List.length_zip]; omega))
  have mp : (b.cl.zip labels).map (·.1) = b.cl := List.map_fst_zip (by omega)
  refine ⟨_, rfl, _, rfl, call_ok h1 rfl rfl ⟨b, labels, rfl, fb, lb, _, rfl, .inr (wk_of encT _ (by omega)), ?_⟩⟩
  refine lcW_m encT (rowD b) (alw (b.cl.zip labels)) (by omega) (fun r hr R k => ?_) ?_
  · have hm := (alw_in _ r hr).2.2.1
    rw [mp] at hm
    exact ⟨_, rfl, _, rfl, kT r, _, keyT_T r, tk r hm, k⟩
  refine ⟨szl, ?_⟩
  have elen : (((labels.map D.str).length : Nat) : Int) = ((labels.length : Nat) : Int) := by rw [List.length_map]
  refine ⟨_, rfl, _, rfl, by omega, by omega, _, rfl, .inr (rl_wk (by omega)), ?_⟩
  rw [elen, Int.toNat_natCast]
  refine forL_t (fun k : Nat => D.int (0 + (k : Int))) (fun i ρ => ∃ (x5 x6 : Option D), ρ = [some b.d, some (.dit tr), some (encT labels), some (.lst ((alw (b.cl.zip labels)).map (rowD b))), some (.lst (((b.fs.take i).map (lab1 b.cl labels)).map .str)), x5, x6, none, none]) (List.range labels.length) 0 _ ⟨none, none, rfl⟩ (fun j k ρ N hj hi hn => ?_) fun ρ hi => ?_
  · obtain ⟨x5, x6, rfl⟩ := hi
    rw [Nat.zero_add] at hn ⊢
    obtain ⟨rfl, hlt⟩ := range_at hj
    have hf : b.fs[k]? = some b.fs[k] := List.getElem?_eq_getElem (by omega)
    generalize hg : b.fs[k] = f at hf
    have hm := List.mem_of_getElem? hf
    have tk2 : b.fs.take (k + 1) = b.fs.take k ++ [f] := by
      rw [List.take_succ, hf]
      rfl
    refine ⟨_, rfl, _, rfl, .inr (wk_of (rowD b) (alw (b.cl.zip labels)) (by omega)), ?_⟩
    refine lcW_m (rowD b) (fun r => .bl (f.ev (inS r))) (alw (b.cl.zip labels)) (by omega) (fun r hr R kk => ?_) ?_
    · refine ⟨_, rfl, _, rfl, _, at_lit k (by omega) ?_, kk⟩
      rw [List.getElem?_map, hf]
      rfl
    · refine ⟨_, rfl, szl, _, rfl, _, bl_map (fun r => f.ev (inS r)) _, ?_⟩
      rw [all_id]
      refine ⟨_, rfl, _, bl_map (fun r => f.ev (inS r)) _, _, rfl, ?_⟩
      rw [any_id]
      have ln := lab1_alw fb.nd ll (fb.wf f hm)
      have ne := alw_ne fb.nd ll
      have both : (alw (b.cl.zip labels)).all (fun r => f.ev (inS r)) = true → (alw (b.cl.zip labels)).any (fun r => f.ev (inS r)) = true := fun h => by
        cases e : alw (b.cl.zip labels) with
        | nil => exact absurd e ne
        | cons r l =>
          rw [e] at h
          rw [List.any_cons, List.all_eq_true.mp h r List.mem_cons_self]
          rfl
      have fin : ∀ w : Str, lab1 b.cl labels f = w → (((b.fs.take k).map (lab1 b.cl labels)).map D.str).length < sizeLine ∧ N [some b.d, some (.dit tr), some (encT labels), some (.lst ((alw (b.cl.zip labels)).map (rowD b))), some (.lst ((((b.fs.take k).map (lab1 b.cl labels)).map .str) ++ [.str w])), some (.int (0 + (k : Int))), some (.lst ((alw (b.cl.zip labels)).map fun r => .bl (f.ev (inS r)))), none, none] := fun w hw => by
        refine ⟨?_, hn _ ⟨some (.int (0 + (k : Int))), some (.lst ((alw (b.cl.zip labels)).map fun r => .bl (f.ev (inS r)))), ?_⟩⟩
        · rw [List.length_map, List.length_map, List.length_take, sizeLine_eq]
          omega
        · rw [tk2, List.map_append, List.map_append, ← hw]
          rfl
      cases ha : (alw (b.cl.zip labels)).all (fun r => f.ev (inS r)) with
      | true =>
        rw [both ha]
        rw [if_pos ha] at ln
        exact ⟨.inr (by decide), _, at_lit 1 (by rfl) rfl, fin _ ln⟩
      | false =>
        rw [if_neg (by rw [ha]; exact Bool.false_ne_true)] at ln
        cases hy : (alw (b.cl.zip labels)).any (fun r => f.ev (inS r)) with
        | true =>
          rw [if_pos hy] at ln
          exact ⟨.inr (by decide), _, at_lit 0 (by rfl) rfl, fin _ ln⟩
        | false =>
          rw [if_neg (by rw [hy]; exact Bool.false_ne_true)] at ln
          exact ⟨.inr (by decide), _, at_lit 2 (by rfl) rfl, fin _ ln⟩
  · obtain ⟨x5, x6, rfl⟩ := hi
    rw [Nat.zero_add, List.length_range, ll, ← le, List.take_length]
    exact ⟨_, rfl, q⟩
/-! ### agreement -/
theorem ag_range : ∀ {a b : List Str}, a.length = b.length → ((List.range a.length).all fun k => decide (a[k]? = some ("open" : Str)) || decide (a[k]? = b[k]?)) = agB a b
  | [], [], _ => rfl
  | x :: a, y :: b, h => by
    rw [List.length_cons, List.range_succ_eq_map, List.all_cons, List.all_map]
    have ih := ag_range (a := a) (b := b) (by simpa using h)
    show ((decide (some x = some ("open" : Str)) || decide (some x = some y)) && (List.range a.length).all fun k => decide ((x :: a)[k + 1]? = some ("open" : Str)) || decide ((x :: a)[k + 1]? = (y :: b)[k + 1]?)) = ((decide (x = "open") || decide (x = y)) && agB a b)
    rw [← ih]
    simp
def mLAgrees : DSp := mAgrees
theorem pl_lagrees (ds : List D) (Q : DK) (X : EK) (h : mAgrees ds Q X) : wpF T n__law_agrees.length b__law_agrees ds Q X := by
  obtain ⟨a, b, rfl, hl, h12, oa, ob, q⟩ := h
  have elen : (((a.map D.str).length : Nat) : Int) = ((a.length : Nat) : Int) := by rw [List.length_map]
  refine ⟨_, rfl, _, rfl, by omega, by omega, _, rfl, .inr (rl_wk (by omega)), ?_⟩
  rw [elen, Int.toNat_natCast]
  refine lcW_m (fun k : Nat => D.int (0 + (k : Int))) (fun k => .bl (decide (a[k]? = some ("open" : Str)) || decide (a[k]? = b[k]?))) (List.range a.length) (by rw [List.length_range]; omega) (fun k hk R r => ?_) (bf_all ?_)
  · have hk := List.mem_range.mp hk
    have h1 : a[k]? = some a[k] := List.getElem?_eq_getElem hk
    have h2 : b[k]? = some b[k] := List.getElem?_eq_getElem (by omega)
    refine ⟨_, rfl, _, rfl, .str a[k], at_lit k (by omega) (by rw [List.getElem?_map, h1]; rfl), _, rfl, _, rfl, .str b[k], at_lit k (by omega) (by rw [List.getElem?_map, h2]; rfl), szl, inn_lst (l := ["open", b[k]]) (oa _ (List.getElem_mem hk)) (mem2 ok_open (ob _ (List.getElem_mem _))) ?_⟩
    rw [mem_two]
    rw [h1, h2] at r
    have e : (decide (some a[k] = some ("open" : Str)) || decide (some a[k] = some b[k])) = (decide (a[k] = "open") || decide (a[k] = b[k])) := by simp
    rw [e] at r
    exact r
  · rw [ag_range hl]
    exact q
/-! ### all labels -/
def mLonger : DSp := fun ds Q _ => ∃ rows : List (List Str), ds = [.lst (rows.map encT)] ∧ rows.length ≤ 300 ∧ (∀ r ∈ rows, r.length ≤ 100) ∧ Q (.lst ((rows.flatMap fun r => labL.map fun x => r ++ [x]).map encT))
theorem pl_longer (ds : List D) (Q : DK) (X : EK) (h : mLonger ds Q X) : wpF T n__law_longer.length b__law_longer ds Q X := by
  obtain ⟨rows, rfl, hl, hr, q⟩ := h
  refine ⟨szl, ?_⟩
  refine ⟨_, rfl, _, rfl, .inr (wk_of encT rows (by omega)), ?_⟩
  refine forL_t encT (fun i ρ => ∃ x2 : Option D, ρ = [some (.lst (rows.map encT)), some (.lst (((rows.take i).flatMap fun r => labL.map fun x => r ++ [x]).map encT)), x2, none]) rows 0 _ ⟨none, rfl⟩ (fun j r ρ N hj hi hn => ?_) fun ρ hi => ?_
  · obtain ⟨x2, rfl⟩ := hi
    rw [Nat.zero_add] at hn ⊢
    have hm := List.mem_of_getElem? hj
    have hjl := (List.getElem?_eq_some_iff.mp hj).1
    have tk : rows.take (j + 1) = rows.take j ++ [r] := by
      rw [List.take_succ, hj]
      rfl
    have fl : ((rows.take j).flatMap fun r => labL.map fun x => r ++ [x]).length ≤ 900 := by
      rw [flat3 _ _ fun _ _ => by rw [List.length_map]; rfl, List.length_take]
      omega
    refine ⟨_, rfl, szl, _, rfl, .inr (wk_of D.str labL (by decide)), ?_⟩
    refine lcW_m D.str (fun x => encT (r ++ [x])) labL (by decide) (fun x hx R k => ?_) ?_
    · refine ⟨_, rfl, _, rfl, szl, ?_, ?_⟩
      · show (r.map D.str).length + 1 ≤ _
        rw [List.length_map, sizeLine_eq]
        have := hr r hm
        omega
      · show R (some (D.tup (r.map D.str ++ [D.str x])))
        rw [enc_snoc]
        exact k
    · refine ⟨_, rfl, ?_, hn _ ⟨some (encT r), ?_⟩⟩
      · rw [List.length_map, sizeLine_eq]
        show _ + 3 ≤ _
        omega
      · rw [tk, List.flatMap_append, List.map_append]
        rfl
  · obtain ⟨x2, rfl⟩ := hi
    rw [Nat.zero_add, List.take_length]
    exact ⟨_, rfl, q⟩
def mLAll : DSp := fun ds Q _ => ∃ n : Nat, ds = [.int (n : Int)] ∧ n ≤ 6 ∧ Q (.lst ((allL n).map encT))
theorem pl_lall (h1 : Has T "_law_longer" 1 mLonger) (ds : List D) (Q : DK) (X : EK) (h : mLAll ds Q X) : wpF T n__law_all_labels.length b__law_all_labels ds Q X := by
  obtain ⟨n, rfl, h6, q⟩ := h
  refine ⟨szl, szl, ?_⟩
  refine ⟨_, rfl, _, rfl, by omega, by omega, _, rfl, .inr (rl_wk (by omega)), ?_⟩
  rw [Int.toNat_natCast]
  refine forL_t (fun k : Nat => D.int (0 + (k : Int))) (fun i ρ => ∃ x2, ρ = [some (.int (n : Int)), some (.lst ((allL i).map encT)), x2]) (List.range n) 0 _ ⟨none, rfl⟩ (fun j k ρ N hj hi hN => ?_) fun ρ hi => ?_
  · obtain ⟨x2, rfl⟩ := hi
    rw [Nat.zero_add] at hN ⊢
    have hj6 : j < n := (range_at hj).2
    have hal : (allL j).length ≤ 243 := by
      rw [allL_len]
      exact Nat.le_trans (Nat.pow_le_pow_right (n := 3) (by decide) (show j ≤ 5 by omega)) (by decide)
    exact ⟨_, rfl, call_ok h1 rfl rfl ⟨allL j, rfl, by omega, fun r hr => by rw [(allL_mem hr).1]; omega, hN _ ⟨_, rfl⟩⟩⟩
  · obtain ⟨x2, rfl⟩ := hi
    rw [Nat.zero_add, List.length_range]
    exact ⟨_, rfl, q⟩
/-! ### a stable model -/
def mLStab : DSp := fun ds Q _ => ∃ (b : Bk) (tr : List (List Key × D)) (a : List Str), ds = [b.d, .dit tr, encT a] ∧ b.Fine ∧ TruOk b tr ∧ Labs b a ∧ Q (.bl (stabB b a))
theorem hold_range : ∀ (a t : List Str), a.length = t.length → ((List.range a.length).map fun k => if a[k]? = some ("out" : Str) then ("out" : Str) else (t[k]?).getD "") = holdO a t
  | [], [], _ => rfl
  | x :: a, y :: t, h => by
    rw [List.length_cons, List.range_succ_eq_map, List.map_cons, List.map_map]
    show (if some x = some ("out" : Str) then ("out" : Str) else y) :: _ = (if x = "out" then ("out" : Str) else y) :: holdO a t
    rw [← hold_range a t (by simpa using h)]
    congr 1
    by_cases e : x = "out"
    · rw [if_pos e, if_pos (by rw [e])]
    · rw [if_neg e, if_neg fun z => e (Option.some.inj z)]
theorem pl_lstab (h1 : Has T "_law_next_labels" 3 mLNext) (ds : List D) (Q : DK) (X : EK) (h : mLStab ds Q X) : wpF T n__law_is_stable_model.length b__law_is_stable_model ds Q X := by
  obtain ⟨b, tr, a, rfl, fb, tk, la, q⟩ := h
  have l6 := fb.l6
  have ha := la.1
  have oa := ok_labs la.2
  unfold stabB at q
  refine ⟨_, rfl, inn_tup ok_open oa ⟨_, rfl, ?_⟩⟩
  have en : negB false (decide (("open" : Str) ∈ a)) = decide (("open" : Str) ∈ a) := rfl
  rw [en]
  refine iteB (fun e => ?_) fun e => ?_
  · rw [e] at q
    exact ⟨_, rfl, iteT rfl q⟩
  rw [e] at q
  refine ⟨_, rfl, _, rfl, _, rfl, call_ok h1 rfl rfl ⟨b, tr, a, rfl, fb, tk, la, _, rfl, ne_T (ok_labs (nxt_lab b a)) oa ⟨_, rfl, ?_⟩⟩⟩
  refine iteB (fun e => ?_) fun e => ?_
  · rw [Bool.not_eq_true'] at e
    rw [e] at q
    exact q
  rw [Bool.not_eq_false'] at e
  rw [e] at q
  have q : Q (.bl (decide (itr (gS b a) (a.length + 1) (bot2 a) = a))) := q
  refine ⟨_, rfl, _, rfl, .inr (wk_of D.str a (by omega)), ?_⟩
  refine lcW_m D.str (fun (x : Str) => D.str (if x = "out" then ("out" : Str) else "open")) a (by omega) (fun x hx R r => ?_) ?_
  · refine ⟨szl, _, rfl, _, _, rfl, rfl, rfl, rfl, ?_⟩
    rw [eqv_str]
    by_cases e : x = "out"
    · rw [if_pos e] at r
      rw [decide_eq_true e]
      exact ⟨_, at_lit 1 (by rfl) rfl, r⟩
    · rw [if_neg e] at r
      rw [decide_eq_false e]
      exact ⟨_, at_lit 0 (by rfl) rfl, r⟩
  have eb : (a.map fun (x : Str) => D.str (if x = "out" then ("out" : Str) else "open")) = (bot2 a).map .str := by
    unfold bot2
    rw [List.map_map]
    rfl
  rw [eb]
  have elen : (((a.map D.str).length : Nat) : Int) + 1 = ((a.length + 1 : Nat) : Int) := by rw [List.length_map]; omega
  refine ⟨_, rfl, _, rfl, by omega, by omega, _, rfl, .inr (rl_wk (by omega)), ?_⟩
  rw [elen, Int.toNat_natCast]
  refine forL_t (fun k : Nat => D.int (0 + (k : Int))) (fun i ρ => ∃ x4 x5, ρ = [some b.d, some (.dit tr), some (encT a), some (encT (itr (gS b a) i (bot2 a))), x4, x5, none, none]) (List.range (a.length + 1)) 0 _ ⟨none, none, rfl⟩ (fun j k ρ N hj hi hN => ?_) fun ρ hi => ?_
  · obtain ⟨x4, x5, rfl⟩ := hi
    rw [Nat.zero_add] at hN ⊢
    have lx := gS_len fb ha j
    have olx := gS_lab (b := b) (a := a) j
    have enx : itr (gS b a) (j + 1) (bot2 a) = holdO a (nxt b (itr (gS b a) j (bot2 a))) := rfl
    rw [enx] at hN
    generalize itr (gS b a) j (bot2 a) = x at *
    have lt : (nxt b x).length = a.length := by rw [nxt_len, fb.le, ha]
    refine ⟨_, rfl, _, rfl, _, rfl, call_ok h1 rfl rfl ⟨b, tr, x, rfl, fb, tk, ⟨by rw [lx, ha], olx⟩, ?_⟩⟩
    have elen2 : (((a.map D.str).length : Nat) : Int) = ((a.length : Nat) : Int) := by rw [List.length_map]
    refine ⟨_, rfl, _, rfl, by omega, by omega, _, rfl, .inr (rl_wk (by omega)), ?_⟩
    rw [elen2, Int.toNat_natCast]
    refine lcW_m (fun k : Nat => D.int (0 + (k : Int))) (fun k => D.str (if a[k]? = some ("out" : Str) then ("out" : Str) else ((nxt b x)[k]?).getD "")) (List.range a.length) (by rw [List.length_range]; omega) (fun k hk R r => ?_) ?_
    · have hk := List.mem_range.mp hk
      have g1 : a[k]? = some a[k] := List.getElem?_eq_getElem hk
      have g2 : (nxt b x)[k]? = some (nxt b x)[k] := List.getElem?_eq_getElem (by omega)
      refine ⟨_, rfl, _, rfl, .str (nxt b x)[k], at_lit k (by omega) (by rw [List.getElem?_map, g2]; rfl), szl, _, rfl, _, rfl, .str a[k], at_lit k (by omega) (by rw [List.getElem?_map, g1]; rfl), _, _, rfl, rfl, rfl, rfl, ?_⟩
      rw [eqv_str]
      rw [g1, g2] at r
      by_cases e : a[k] = "out"
      · rw [if_pos (by rw [e])] at r
        rw [decide_eq_true e]
        exact ⟨_, at_lit 1 (by rfl) rfl, r⟩
      · rw [if_neg fun z => e (Option.some.inj z)] at r
        rw [decide_eq_false e]
        exact ⟨_, at_lit 0 (by rfl) rfl, r⟩
    · have em : ((List.range a.length).map fun k => D.str (if a[k]? = some ("out" : Str) then ("out" : Str) else ((nxt b x)[k]?).getD "")) = (holdO a (nxt b x)).map .str := by
        rw [← hold_range a (nxt b x) lt.symm, List.map_map]
        rfl
      rw [em]
      exact hN _ ⟨some (.int (0 + ((k : Nat) : Int))), some (encT (nxt b x)), rfl⟩
  · obtain ⟨x4, x5, rfl⟩ := hi
    rw [Nat.zero_add, List.length_range]
    exact ⟨_, rfl, _, rfl, eq_T (ok_labs (gS_lab _)) oa q⟩
/-! ### the labels that stand -/
def mLCond : DSp := fun ds Q _ => ∃ (b : Bk) (w : Str), ds = [b.d, .str w] ∧ b.Fine ∧ w ∈ wayL ∧ Q (.lst ((condL b w).map encT))
theorem pl_lcond (h0 : Has T "_law_truths" 1 mTruths) (h1 : Has T "_law_next_labels" 3 mLNext) (h3 : Has T "_law_is_stable_model" 3 mLStab) (h4 : Has T "_law_all_labels" 1 mLAll) (h5 : Has T "_law_agrees" 2 mAgrees) (ds : List D) (Q : DK) (X : EK) (h : mLCond ds Q X) : wpF T n__law_condition_labels.length b__law_condition_labels ds Q X := by
  obtain ⟨b, w, rfl, fb, hw, q⟩ := h
  have l6 := fb.l6
  unfold condL at q
  refine ⟨_, rfl, call_ok h0 rfl rfl ⟨b, rfl, fb, fun tr tk => ?_⟩⟩
  refine ⟨_, rfl, _, _, rfl, rfl, rfl, rfl, _, rfl, ?_⟩
  rw [eqv_str]
  have elen : (((b.cl.map D.str).length : Nat) : Int) = ((b.cl.length : Nat) : Int) := by rw [List.length_map]
  refine iteB (fun e => ?_) fun e => ?_
  · rw [if_pos (of_decide_eq_true e)] at q
    refine ⟨szl, _, rfl, _, at_lit 0 rfl rfl, by omega, by omega, by decide, ?_⟩
    have e0 : (List.replicate (((b.cl.map D.str).length : Nat) : Int).toNat [D.str "open"]).flatten = (List.replicate b.cl.length ("open" : Str)).map .str := by
      rw [elen, Int.toNat_natCast, rep_one, List.map_replicate]
    rw [e0]
    have elen2 : (((b.cl.map D.str).length : Nat) : Int) + 1 = ((b.cl.length + 1 : Nat) : Int) := by rw [List.length_map]; omega
    refine ⟨_, rfl, _, at_lit 0 rfl rfl, _, rfl, by omega, by omega, _, rfl, .inr (rl_wk (by omega)), ?_⟩
    rw [elen2, Int.toNat_natCast]
    refine forL_t (fun k : Nat => D.int (0 + (k : Int))) (fun i ρ => ∃ x7, ρ = [some b.d, some (.str w), some (.dit tr), none, none, none, some (encT (itr (nxt b) i (List.replicate b.cl.length "open"))), x7, none, none]) (List.range (b.cl.length + 1)) 0 _ ⟨none, rfl⟩ (fun j k ρ N hj hi hN => ?_) fun ρ hi => ?_
    · obtain ⟨x7, rfl⟩ := hi
      rw [Nat.zero_add] at hN ⊢
      exact ⟨_, rfl, _, rfl, _, rfl, call_ok h1 rfl rfl ⟨b, tr, _, rfl, fb, tk, itr_lab fb j, hN _ ⟨_, rfl⟩⟩⟩
    · obtain ⟨x7, rfl⟩ := hi
      rw [Nat.zero_add, List.length_range]
      exact ⟨_, rfl, szl, q⟩
  have nG := of_decide_eq_false e
  rw [if_neg nG] at q
  have hal := allL_le l6
  have hgl := good_len l6
  have hdl := done_len l6
  have okl : ∀ {l : List Str}, Labs b l → ∀ x ∈ l, okS x = true := fun h => ok_labs h.2
  refine ⟨_, rfl, _, at_lit 0 rfl rfl, call_ok h4 rfl rfl ⟨b.cl.length, congrArg (fun x => [D.int x]) elen, l6, ?_⟩⟩
  refine ⟨_, rfl, _, rfl, .inr (wk_of encT _ (by omega)), ?_⟩
  refine lcW_f encT (fun l => agB l (nxt b l)) encT (allL b.cl.length) (by omega) (fun l hl R r => ?_) ?_
  · have la := allL_mem hl
    refine ⟨_, rfl, _, rfl, _, rfl, _, rfl, call_ok h1 rfl rfl ⟨b, tr, l, rfl, fb, tk, la, call_ok h5 rfl rfl ⟨l, nxt b l, rfl, by rw [nxt_len, fb.le, la.1], by omega, okl la, ok_labs (nxt_lab b l), _, rfl, ?_⟩⟩⟩
    refine iteB (fun e => ?_) fun e => ?_
    · rw [if_pos e] at r
      exact ⟨_, rfl, r⟩
    · rw [if_neg (by rw [e]; exact Bool.false_ne_true)] at r
      exact r
  refine ⟨_, rfl, _, _, rfl, rfl, rfl, rfl, _, rfl, ?_⟩
  rw [eqv_str]
  refine iteB (fun e => ?_) fun e => ?_
  · rw [if_pos (of_decide_eq_true e)] at q
    exact ⟨_, rfl, q⟩
  have nA := of_decide_eq_false e
  rw [if_neg nA] at q
  refine ⟨_, rfl, _, _, rfl, rfl, rfl, rfl, _, rfl, ?_⟩
  rw [eqv_str]
  refine iteB (fun e => ?_) fun e => ?_
  · rw [if_pos (of_decide_eq_true e)] at q
    refine ⟨_, rfl, _, rfl, .inr (wk_of encT (good b) (by omega)), ?_⟩
    refine lcW_f encT (fun o => !(good b).any fun p => !decide (o = p) && agB o p) encT (good b) (by omega) (fun o ho R r => ?_) q
    have lo := good_labs ho
    refine ⟨_, rfl, _, rfl, .inr (wk_of encT (good b) (by omega)), ?_⟩
    refine lcW_m encT (fun p => .bl (!decide (o = p) && agB o p)) (good b) (by omega) (fun p hp R2 r2 => ?_) ?_
    · have lp := good_labs hp
      refine ⟨_, rfl, _, rfl, ne_T (okl lo) (okl lp) ⟨_, rfl, iteB (fun e => ?_) fun e => ?_⟩⟩
      · rw [e, Bool.true_and] at r2
        exact ⟨_, rfl, _, rfl, call_ok h5 rfl rfl ⟨o, p, rfl, by rw [lo.1, lp.1], by rw [lo.1]; omega, okl lo, okl lp, r2⟩⟩
      · rw [e, Bool.false_and] at r2
        exact r2
    · refine ⟨_, bl_map (fun p => !decide (o = p) && agB o p) (good b), _, rfl, _, rfl, ?_⟩
      rw [any_id]
      refine iteB (fun e => ?_) fun e => ?_
      · rw [if_pos e] at r
        exact ⟨_, rfl, r⟩
      · rw [if_neg (by rw [e]; exact Bool.false_ne_true)] at r
        exact r
  have nP := of_decide_eq_false e
  rw [if_neg nP] at q
  refine ⟨_, rfl, _, rfl, .inr (wk_of encT (good b) (by omega)), ?_⟩
  refine lcW_f encT (fun l => decide (nxt b l = l)) encT (good b) (by omega) (fun l hl R r => ?_) ?_
  · have la := good_labs hl
    refine ⟨_, rfl, _, rfl, _, rfl, call_ok h1 rfl rfl ⟨b, tr, l, rfl, fb, tk, la, _, rfl, eq_T (ok_labs (nxt_lab b l)) (okl la) ⟨_, rfl, ?_⟩⟩⟩
    refine iteB (fun e => ?_) fun e => ?_
    · rw [if_pos e] at r
      exact ⟨_, rfl, r⟩
    · rw [if_neg (by rw [e]; exact Bool.false_ne_true)] at r
      exact r
  refine ⟨_, rfl, _, _, rfl, rfl, rfl, rfl, _, rfl, ?_⟩
  rw [eqv_str]
  refine iteB (fun e => ?_) fun e => ?_
  · have e := of_decide_eq_true e
    rw [if_neg (by rw [e]; decide +kernel), if_pos e] at q
    refine ⟨_, rfl, _, rfl, .inr (wk_of encT (done b) (by omega)), ?_⟩
    refine lcW_f encT (fun l => !decide (("open" : Str) ∈ l)) encT (done b) (by omega) (fun l hl R r => ?_) q
    have la := done_labs hl
    refine ⟨_, rfl, inn_tup ok_open (okl la) ⟨_, rfl, ?_⟩⟩
    refine iteB (fun e => ?_) fun e => ?_
    · have e : (!decide (("open" : Str) ∈ l)) = true := e
      rw [if_pos e] at r
      exact ⟨_, rfl, r⟩
    · have e : (!decide (("open" : Str) ∈ l)) = false := e
      rw [if_neg (by rw [e]; exact Bool.false_ne_true)] at r
      exact r
  have nM := of_decide_eq_false e
  rw [if_neg nM] at q
  refine ⟨_, rfl, _, _, rfl, rfl, rfl, rfl, _, rfl, ?_⟩
  rw [eqv_str]
  refine iteB (fun e => ?_) fun e => ?_
  · have e := of_decide_eq_true e
    rw [if_neg (by rw [e]; decide +kernel)] at q
    refine ⟨_, rfl, _, rfl, .inr (wk_of encT (done b) (by omega)), ?_⟩
    refine lcW_f encT (fun l => stabB b l) encT (done b) (by omega) (fun l hl R r => ?_) q
    have la := done_labs hl
    refine ⟨_, rfl, _, rfl, _, rfl, call_ok h3 rfl rfl ⟨b, tr, l, rfl, fb, tk, la, _, rfl, ?_⟩⟩
    refine iteB (fun e => ?_) fun e => ?_
    · rw [if_pos e] at r
      exact ⟨_, rfl, r⟩
    · rw [if_neg (by rw [e]; exact Bool.false_ne_true)] at r
      exact r
  · have e := of_decide_eq_false e
    have hc : w = "complete" := by
      simp only [wayL, List.mem_cons, List.not_mem_nil, or_false] at hw
      rcases hw with z | z | z | z | z | z
      · exact absurd z nA
      · exact z
      · exact absurd z nG
      · exact absurd z nP
      · exact absurd z nM
      · exact absurd z e
    rw [if_pos hc] at q
    exact ⟨_, rfl, q⟩
end
end DL

/-! A14: what is drawn: claims -/
namespace DL
open PySem
open L2 (Key)
/-! ### sorted texts -/
theorem sS_perm (l : List Str) : (sS l).Perm l := List.mergeSort_perm _ _
theorem sS_d (l : List Str) : sortD (l.map .str) = (sS l).map .str := sortD_map D.str l
theorem leS_total : PySem.W.TotalLe fun a b : Str => leD (.str a) (.str b) := PySem.W.sortLe_total (PyProof.Rows.listOrd PyProof.Rows.itemOrd) false fun r : Str => PySem.W.keyToks (encD (.str r))
theorem leS {a b : Str} (h : leD (.str a) (.str b) = true) : ¬ b.cps.toList < a.cps.toList := by
  have k : (!PySem.W.dataLt (.str b) (.str a)) = true := h
  rw [PySem.W.dataLt_str] at k
  intro z
  rw [decide_eq_true z] at k
  cases k
theorem str_eq {a b : Str} (h : a.cps.toList = b.cps.toList) : a = b := by
  cases a with
  | mk ca =>
    cases b with
    | mk cb =>
      congr
      exact Array.toList_inj.mp h
theorem sS_pw {l : List Str} (nd : l.Nodup) : (sS l).Pairwise ltS := by
  have h1 : (sS l).Pairwise (fun a b => leD (.str a) (.str b) = true) := PySem.W.sort_pairwise leS_total _
  have h2 : (sS l).Nodup := (sS_perm l).nodup_iff.mpr nd
  have h3 := h1.and h2
  refine h3.imp fun {a b} h => ?_
  obtain ⟨h, ne⟩ := h
  unfold ltS
  refine Classical.byContradiction fun z => ne (str_eq (List.le_antisymm (List.not_lt.mp (leS h)) (List.not_lt.mp z)))
/-! ### words -/
structure Wrd (x : Str) : Prop where
  cl : claimB x = true
  ok : okS x = true
def qW (k : Nat) : Str := ("q" : Str) ++ ((toString (100 + (0 + (k : Int))) : String) : Str)
theorem qW_ok : ∀ k : _root_.Fin 6, claimB (qW k.val) = true ∧ okS (qW k.val) = true ∧ (qW k.val).length = 4 := by decide +kernel
theorem qW_inj : ∀ i j : _root_.Fin 6, qW i.val = qW j.val → i = j := by decide +kernel
theorem qW_log : ∀ k : _root_.Fin 6, (100 + (0 + (k.val : Int))).natAbs.log2 < 1920 := by decide +kernel
theorem qW_len : ∀ k : _root_.Fin 6, ("q" : Str).length + ((toString (100 + (0 + (k.val : Int))) : String) : Str).length ≤ 1000 := by decide +kernel
/-- a word of letters, a letter first, n signs long -/
def WordN (x : Str) (n : Nat) : Prop := ∃ c l, x.cps.toList = c :: l ∧ c ∈ firstL ∧ (∀ d ∈ c :: l, d ∈ signsL) ∧ (c :: l).length = n
theorem first_signs : ∀ c ∈ firstL, c ∈ signsL := by decide +kernel
theorem signs_low : ∀ c ∈ signsL, c < 0x110000 := by decide +kernel
theorem word_wrd {x : Str} {n : Nat} (h : WordN x n) (hn : n ≤ 12) : Wrd x := by
  obtain ⟨c, l, e, h1, h2, h3⟩ := h
  have hl : x.length = n := by rw [len_list, e]; exact h3
  refine ⟨?_, ?_⟩
  · unfold claimB
    rw [e]
    show (decide (c ∈ firstL) && (c :: l).all fun c => decide (c ∈ signsL)) = true
    rw [decide_eq_true h1, Bool.true_and, List.all_eq_true]
    exact fun d hd => decide_eq_true (h2 d hd)
  · unfold okS
    rw [decide_eq_true (show x.length ≤ 12 by omega), Bool.and_true]
    show PyData.strOk x = true
    unfold PyData.strOk
    rw [← Array.all_toList, e, List.all_eq_true]
    exact fun d hd => decide_eq_true (signs_low d (h2 d hd))
theorem word_len {x : Str} {n : Nat} (h : WordN x n) : x.length = n := by
  obtain ⟨c, l, e, _, _, h3⟩ := h
  rw [len_list, e]
  exact h3
theorem cat_list (a b : Str) : (a ++ b).cps.toList = a.cps.toList ++ b.cps.toList := by
  show (a.cps ++ b.cps).toList = _
  simp
theorem word_snoc {x : Str} {n : Nat} (h : WordN x n) {c : Nat} (hc : c ∈ signsL) : WordN (x ++ ⟨#[c]⟩) (n + 1) := by
  obtain ⟨d, l, e, h1, h2, h3⟩ := h
  refine ⟨d, l ++ [c], ?_, h1, fun y hy => ?_, ?_⟩
  · rw [cat_list, e]
    rfl
  · rw [← List.cons_append] at hy
    rcases List.mem_append.mp hy with z | z
    · exact h2 y z
    · rw [List.mem_singleton.mp z]
      exact hc
  · rw [List.length_cons, List.length_append]
    rw [List.length_cons] at h3
    simp only [List.length_cons, List.length_nil]
    omega
theorem word_one {c : Nat} (h : c ∈ firstL) : WordN ⟨#[c]⟩ 1 := ⟨c, [], rfl, h, fun d hd => by rw [List.mem_singleton.mp hd]; exact first_signs c h, rfl⟩
theorem letters_cat : (("abcdefghijklmnopqrstuvwxyz" : Str) ++ ("0123456789" : Str)) = "abcdefghijklmnopqrstuvwxyz0123456789" := by decide +kernel
theorem at_first {r : Int} (h0 : 0 ≤ r) (h1 : r < 26) : ∃ c, c ∈ firstL ∧ L2.atI ("abcdefghijklmnopqrstuvwxyz" : Str).cps.toList r = some c := by
  obtain ⟨n, rfl⟩ := Int.eq_ofNat_of_zero_le h0
  have hn : n < firstL.length := by
    have : firstL.length = 26 := by decide +kernel
    omega
  exact ⟨firstL[n], List.getElem_mem hn, at_lit n rfl (List.getElem?_eq_getElem hn)⟩
theorem at_signs {r : Int} (h0 : 0 ≤ r) (h1 : r < 36) : ∃ c, c ∈ signsL ∧ L2.atI ("abcdefghijklmnopqrstuvwxyz0123456789" : Str).cps.toList r = some c := by
  obtain ⟨n, rfl⟩ := Int.eq_ofNat_of_zero_le h0
  have hn : n < signsL.length := by
    have : signsL.length = 36 := by decide +kernel
    omega
  exact ⟨signsL[n], List.getElem_mem hn, at_lit n rfl (List.getElem?_eq_getElem hn)⟩
/-- claims that are drawn -/
structure DrawnC (cl : List Str) : Prop where
  pw : cl.Pairwise ltS
  wd : ∀ x ∈ cl, Wrd x
/-- found so far -/
structure FoundC (l : List Str) (k : Nat) : Prop where
  len : l.length = k
  nd : l.Nodup
  wd : ∀ x ∈ l, Wrd x
  nq : ∀ x ∈ l, x.length = 4 → ∃ j, j < k ∧ x = qW j
section
variable {T : Tb}
def mClaims : DSp := fun ds Q _ => ∃ n : Nat, ds = [.st, .int (n : Int)] ∧ n ≤ 6 ∧ ∀ cl, DrawnC cl → cl.length = n → Q (.tup (cl.map .str))
theorem pl_claims (hN : Has T "_law_next" 2 mNext) (ds : List D) (Q : DK) (X : EK) (h : mClaims ds Q X) : wpF T n__law_claims.length b__law_claims ds Q X := by
  obtain ⟨n, rfl, h6, q⟩ := h
  refine ⟨szl, ?_⟩
  refine ⟨_, rfl, _, rfl, by omega, by omega, _, rfl, .inr (rl_wk (by omega)), ?_⟩
  rw [Int.toNat_natCast]
  refine forL_t (fun k : Nat => D.int (0 + (k : Int))) (fun i ρ => ∃ (l : List Str) (x4 x5 x6 : Option D), FoundC l i ∧ ρ = [some .st, some (.int (n : Int)), some (.str "abcdefghijklmnopqrstuvwxyz"), some (.lst (l.map .str)), x4, x5, x6]) (List.range n) 0 _ ⟨[], none, none, none, ⟨rfl, List.nodup_nil, fun x hx => absurd hx List.not_mem_nil, fun x hx => absurd hx List.not_mem_nil⟩, rfl⟩ (fun j k ρ N hj hi hN2 => ?_) fun ρ hi => ?_
  · obtain ⟨l, x4, x5, x6, fl, rfl⟩ := hi
    rw [Nat.zero_add] at fl hN2
    obtain ⟨rfl, hlt⟩ := range_at hj
    refine ⟨_, rfl, _, rfl, next_ok hN (by decide) rfl fun r r0 r1 => ?_⟩
    obtain ⟨c, hc, ec⟩ := at_first r0 r1
    refine ⟨c, szl, ec, ?_⟩
    refine ⟨szl, _, rfl, next_ok hN (by decide) rfl fun s s0 s1 => ?_⟩
    -- how many more
    have cnt : ∃ m : Nat, m ≤ 11 ∧ m ≠ 3 ∧ L2.atI [D.int 0, .int 0, .int 1, .int 2, .int 11] s = some (.int (m : Int)) := by
      obtain ⟨i, rfl⟩ := Int.eq_ofNat_of_zero_le s0
      have : i < 5 := by omega
      match i, this with
      | 0, _ => exact ⟨0, by decide, by decide, rfl⟩
      | 1, _ => exact ⟨0, by decide, by decide, rfl⟩
      | 2, _ => exact ⟨1, by decide, by decide, rfl⟩
      | 3, _ => exact ⟨2, by decide, by decide, rfl⟩
      | 4, _ => exact ⟨11, by decide, by decide, rfl⟩
    obtain ⟨m, m11, m3, em⟩ := cnt
    refine ⟨_, em, _, rfl, by omega, by omega, _, rfl, .inr (rl_wk (by omega)), ?_⟩
    rw [Int.toNat_natCast]
    refine forL_t (fun k : Nat => D.int (0 + (k : Int))) (fun i ρ => ∃ (w : Str) (x6 : Option D), WordN w (1 + i) ∧ ρ = [some .st, some (.int (n : Int)), some (.str "abcdefghijklmnopqrstuvwxyz"), some (.lst (l.map .str)), some (.int (0 + (k : Int))), some (.str w), x6]) (List.range m) 0 _ ⟨⟨#[c]⟩, x6, word_one hc, rfl⟩ (fun i i2 ρ N3 hi2 hw hN3 => ?_) fun ρ hw => ?_
    · obtain ⟨w, x6, hw, rfl⟩ := hw
      rw [Nat.zero_add] at hw hN3
      have hl := word_len hw
      have him := (range_at hi2).2
      refine ⟨_, rfl, _, rfl, szl, _, rfl, next_ok hN (by decide) rfl fun r r0 r1 => ?_⟩
      rw [letters_cat]
      obtain ⟨c2, hc2, ec2⟩ := at_signs r0 r1
      refine ⟨c2, szl, ec2, ?_, hN3 _ ⟨_, _, ?_, rfl⟩⟩
      · rw [hl, sizeLine_eq]
        show 1 + i + 1 ≤ _
        omega
      · have := word_snoc hw hc2
        rw [show 1 + (i + 1) = 1 + i + 1 by omega]
        exact this
    · obtain ⟨w, x6, hw, rfl⟩ := hw
      rw [Nat.zero_add, List.length_range] at hw
      have hl := word_len hw
      have ww := word_wrd hw (by omega)
      have olk : ∀ y ∈ l, okS y = true := fun y hy => (fl.wd y hy).ok
      have add : ∀ w : Str, Wrd w → w ∉ l → (w.length = 4 → w = qW k) → FoundC (l ++ [w]) (k + 1) := fun w ww hn h4 => by
        refine ⟨by rw [List.length_append, fl.len]; rfl, ?_, fun x hx => ?_, fun x hx h => ?_⟩
        · rw [List.nodup_append]
          refine ⟨fl.nd, by simp, fun a ha b hb => ?_⟩
          rw [List.mem_singleton.mp hb]
          exact fun z => hn (by rw [← z]; exact ha)
        · rcases List.mem_append.mp hx with z | z
          · exact fl.wd x z
          · rw [List.mem_singleton.mp z]; exact ww
        · rcases List.mem_append.mp hx with z | z
          · obtain ⟨j, h1, h2⟩ := fl.nq x z h
            exact ⟨j, by omega, h2⟩
          · rw [List.mem_singleton.mp z] at h ⊢
            exact ⟨k, by omega, h4 h⟩
      have hk6 : k < 6 := by omega
      refine ⟨_, rfl, _, rfl, inn_lst ww.ok olk ⟨_, rfl, ?_⟩⟩
      have en : negB false (decide (w ∈ l)) = decide (w ∈ l) := rfl
      rw [en]
      refine iteB (fun e => ?_) fun e => ?_
      · obtain ⟨q1, q2, q3⟩ := qW_ok ⟨k, hk6⟩
        have hq : (qW k) ∉ l := fun z => by
          obtain ⟨j, h1, h2⟩ := fl.nq _ z q3
          have := qW_inj ⟨k, hk6⟩ ⟨j, by omega⟩ h2
          have : k = j := congrArg Fin.val this
          omega
        refine ⟨_, rfl, qW_log ⟨k, hk6⟩, ?_, ?_⟩
        · have := qW_len ⟨k, hk6⟩
          rw [sizeLine_eq]
          exact Nat.le_trans this (by decide)
        · refine ⟨_, rfl, _, rfl, ?_, hN2 _ ⟨l ++ [qW k], some (.int (0 + (k : Int))), some (.str (qW k)), x6, add _ ⟨q1, q2⟩ hq fun _ => rfl, ?_⟩⟩
          · rw [List.length_map, fl.len, sizeLine_eq]; omega
          · rw [List.map_append]
            rfl
      · refine ⟨_, rfl, _, rfl, ?_, hN2 _ ⟨l ++ [w], some (.int (0 + (k : Int))), some (.str w), x6, add _ ww (of_decide_eq_false e) fun h => by omega, ?_⟩⟩
        · rw [List.length_map, fl.len, sizeLine_eq]; omega
        · rw [List.map_append]
          rfl
  · obtain ⟨l, x4, x5, x6, fl, rfl⟩ := hi
    rw [Nat.zero_add, List.length_range] at fl
    refine ⟨_, rfl, sc_strs l, ?_⟩
    rw [sS_d]
    refine q (sS l) ⟨sS_pw fl.nd, fun x hx => fl.wd x ((sS_perm l).mem_iff.mp hx)⟩ ?_
    rw [(sS_perm l).length_eq, fl.len]
end
end DL

/-! A15: formulas and books drawn; what is told -/
namespace DL
open PySem
open L2 (Key)
/-- formulas that are drawn: m deep at most -/
inductive DrF (cl : List Str) : Nat → Fm → Prop where
  | tf (m : Nat) (w : Str) : w ∈ (["true", "false"] : List Str) → DrF cl m (.lf w [])
  | cl (m : Nat) (x : Str) : x ∈ cl → DrF cl m (.lf "claim" [x])
  | nt (m : Nat) (g : Fm) : DrF cl m g → DrF cl (m + 1) (.nt [g])
  | jn (m : Nat) (w : Str) (fs : List Fm) : w = "and" ∨ w = "or" → 2 ≤ fs.length → fs.length ≤ 3 → (∀ g ∈ fs, DrF cl m g) → DrF cl (m + 1) (.jn w fs)
theorem okW_up : ∀ (k : Nat) (d : D), okW (List.replicate k 3) d = true → okW (List.replicate (k + 1) 3) d = true
  | _, .non, _ => by rw [List.replicate_succ]; rfl
  | _, .bl _, _ => by rw [List.replicate_succ]; rfl
  | k, .int i, h => by
    have h : decide (i.natAbs ≤ 1000) = true := by cases k <;> exact h
    rw [List.replicate_succ]
    exact h
  | k, .str x, h => by
    have h : okS x = true := by cases k <;> exact h
    exact okW_str h
  | k + 1, .tup l, h => by
    rw [List.replicate_succ] at h ⊢
    obtain ⟨h1, h2⟩ := and2 (show (decide (l.length ≤ 3) && l.all fun d => okW (List.replicate k 3) d) = true from h)
    exact okW_tup (of_decide_eq_true h1) fun d hd => okW_up k d (List.all_eq_true.mp h2 d hd)
  | k + 1, .lst l, h => by
    rw [List.replicate_succ] at h ⊢
    obtain ⟨h1, h2⟩ := and2 (show (decide (l.length ≤ 3) && l.all fun d => okW (List.replicate k 3) d) = true from h)
    exact okW_lst (of_decide_eq_true h1) fun d hd => okW_up k d (List.all_eq_true.mp h2 d hd)
  | k + 1, .kt l, h => by
    rw [List.replicate_succ] at h ⊢
    obtain ⟨h1, h2⟩ := and2 (show (decide (l.length ≤ 3) && l.all fun d => okW (List.replicate k 3) d) = true from h)
    show (decide (l.length ≤ 3) && l.all fun d => okW (List.replicate (k + 1) 3) d) = true
    rw [h1, Bool.true_and, List.all_eq_true]
    exact fun d hd => okW_up k d (List.all_eq_true.mp h2 d hd)
  | 0, .tup _, h => by cases h
  | 0, .lst _, h => by cases h
  | 0, .kt _, h => by cases h
  | k, .dic _, h => by cases k <;> cases h
  | k, .dit _, h => by cases k <;> cases h
  | k, .obj _ _, h => by cases k <;> cases h
  | k, .fn _, h => by cases k <;> cases h
  | k, .st, h => by cases k <;> cases h
  | k, .scr _, h => by cases k <;> cases h
theorem okW_le {k k' : Nat} (h : k ≤ k') {d : D} (hd : okW (List.replicate k 3) d = true) : okW (List.replicate k' 3) d = true := by
  induction k' with
  | zero => rw [Nat.le_zero.mp h] at hd; exact hd
  | succ n ih =>
    rcases Nat.lt_or_ge k (n + 1) with z | z
    · exact okW_up n d (ih (by omega))
    · rw [Nat.le_antisymm h z] at hd
      exact hd
structure FmK (cl : List Str) (m : Nat) (f : Fm) : Prop where
  ok : f.ok = true
  wf : f.wf cl = true
  dp : f.dp ≤ m
  sh : okW (List.replicate (2 * m + 1) 3) f.d = true
theorem lf_ok {w : Str} {xs : List Str} (h1 : okS w = true) (h2 : Fm.junB w = false) (h3 : ∀ x ∈ xs, okS x = true) (h4 : xs.length ≤ 100) (h5 : w ≠ "not") : (Fm.lf w xs).ok = true := by
  show (okS w && (!Fm.junB w && (xs.all okS && (decide (xs.length ≤ 100) && (!decide (w = "not") || decide (xs = [])))))) = true
  rw [h1, h2, List.all_eq_true.mpr h3, decide_eq_true h4, decide_eq_false h5]
  rfl
theorem dr_ok {cl : List Str} (oc : ∀ x ∈ cl, okS x = true) : ∀ {m : Nat} {f : Fm}, DrF cl m f → FmK cl m f := by
  intro m f h
  induction h with
  | tf m w hw =>
    have ow := ok_tf w hw
    refine ⟨?_, ?_, Nat.zero_le _, ?_⟩
    · refine lf_ok ow ?_ (fun x hx => absurd hx List.not_mem_nil) (by decide) ?_
      · simp only [List.mem_cons, List.not_mem_nil, or_false] at hw
        rcases hw with rfl | rfl <;> decide +kernel
      · simp only [List.mem_cons, List.not_mem_nil, or_false] at hw
        rcases hw with rfl | rfl <;> decide +kernel
    · show (((decide (w = "true") || decide (w = "false")) && decide (([] : List Str) = [])) || (decide (w = "claim") && claim1 cl [])) = true
      simp only [List.mem_cons, List.not_mem_nil, or_false] at hw
      rcases hw with rfl | rfl
      · rw [decide_eq_true rfl]; rfl
      · rw [decide_eq_true (rfl : ("false" : Str) = "false"), Bool.or_true]; rfl
    · rw [List.replicate_succ]
      exact okW_tup (by show 1 ≤ 3; decide) (mem1 (okW_str ow))
  | cl m x hx =>
    have ox := oc x hx
    refine ⟨lf_ok okS_lit (by decide +kernel) (mem1 ox) (by show 1 ≤ 100; decide) (by decide +kernel), ?_, Nat.zero_le _, ?_⟩
    · show (((decide (("claim" : Str) = "true") || decide (("claim" : Str) = "false")) && decide (([x] : List Str) = [])) || (decide (("claim" : Str) = "claim") && claim1 cl [x])) = true
      rw [decide_eq_true (rfl : ("claim" : Str) = "claim"), show claim1 cl [x] = true from decide_eq_true hx]
      simp
    · rw [List.replicate_succ]
      exact okW_tup (by show 2 ≤ 3; decide) (mem2 (okW_str okS_lit) (okW_str ox))
  | nt m g _ ih =>
    refine ⟨?_, ?_, ?_, ?_⟩
    · show (decide (([g] : List Fm).length ≤ 100) && (g.ok && true)) = true
      rw [ih.ok]; rfl
    · show (decide (([g] : List Fm).length = 1) && (g.wf cl && true)) = true
      rw [ih.wf]; rfl
    · show max (g.dp + 1) 0 ≤ m + 1
      have := ih.dp
      omega
    · rw [List.replicate_succ]
      exact okW_tup (by show 2 ≤ 3; decide) (mem2 (okW_str okS_lit) (okW_le (by omega) ih.sh))
  | jn m w fs hw h2 h3 _ ih =>
    have ow : okS w = true := by rcases hw with rfl | rfl <;> exact okS_lit
    refine ⟨?_, ?_, ?_, ?_⟩
    · show (Fm.junB w && (decide (fs.length ≤ 100) && Fm.okl fs)) = true
      rw [Fm.okl_all, List.all_eq_true.mpr fun g hg => (ih g hg).ok, decide_eq_true (by omega)]
      rcases hw with rfl | rfl <;> decide +kernel
    · show (decide (2 ≤ fs.length) && Fm.wfl cl fs) = true
      rw [Fm.wfl_all, List.all_eq_true.mpr fun g hg => (ih g hg).wf, decide_eq_true h2]
      rfl
    · show Fm.dpl fs ≤ m + 1
      have : ∀ fs : List Fm, (∀ g ∈ fs, g.dp ≤ m) → Fm.dpl fs ≤ m + 1 := by
        intro fs
        induction fs with
        | nil => exact fun _ => Nat.zero_le _
        | cons g fs ih2 =>
          intro h
          show max (g.dp + 1) (Fm.dpl fs) ≤ m + 1
          have := h g List.mem_cons_self
          have := ih2 fun x hx => h x (List.mem_cons_of_mem _ hx)
          omega
      exact this fs fun g hg => (ih g hg).dp
    · rw [show 2 * (m + 1) + 1 = (2 * m + 1) + 1 + 1 by omega, List.replicate_succ, List.replicate_succ]
      refine okW_tup (by show 2 ≤ 3; decide) (mem2 (okW_str ow) ?_)
      rw [Fm.dl_map]
      refine okW_tup (by rw [List.length_map]; exact h3) fun d hd => ?_
      obtain ⟨g, hg, rfl⟩ := List.mem_map.mp hd
      exact (ih g hg).sh
/-- a book that is drawn -/
structure DrB (b : Bk) : Prop where
  c : DrawnC b.cl
  l5 : b.cl.length ≤ 5
  le : b.fs.length = b.cl.length
  fs : ∀ f ∈ b.fs, FmK b.cl 3 f ∧ f.pt ≤ 40
section
variable {T : Tb}
theorem at_mem {α : Type} {l : List α} {r : Int} (h0 : 0 ≤ r) (h1 : r < (l.length : Int)) : ∃ x, x ∈ l ∧ L2.atI l r = some x := by
  obtain ⟨n, rfl⟩ := Int.eq_ofNat_of_zero_le h0
  have hn : n < l.length := by omega
  exact ⟨l[n], List.getElem_mem hn, at_lit n rfl (List.getElem?_eq_getElem hn)⟩
def mForm (n : Nat) : DSp := fun ds Q _ => ∃ (cl : List Str) (m : Nat), ds = [.st, .tup (cl.map .str), .int (m : Int)] ∧ m < n ∧ cl.length ≤ 12 ∧ ∀ f, DrF cl m f → Q f.d
theorem pl_form {n : Nat} (hN : Has T "_law_next" 2 mNext) (h2 : Has T "_law_formula" 3 (mForm n)) (ds : List D) (Q : DK) (X : EK) (h : mForm (n + 1) ds Q X) : wpF T n__law_formula.length b__law_formula ds Q X := by
  obtain ⟨cl, m, rfl, hm, hl, q⟩ := h
  -- true, false or a claim
  have leaf : ∀ {x3 : Option D} {K : KD}, (∀ f, DrF cl m f → K.rt f.d) → wpSs T [.iff (.or [(.cmp .Eq (.blt .len [(.var 1)]) (.con (.int 0))), (.cmp .Eq (.call "_law_next" [(.var 0), (.con (.int 8))]) (.con (.int 0)))]) [.ret (.tup [(.sub (.lst [(.con (.str "true")), (.con (.str "false"))]) (.call "_law_next" [(.var 0), (.con (.int 2))]))])] [], .ret (.tup [(.con (.str "claim")), (.sub (.var 1) (.call "_law_next" [(.var 0), (.blt .len [(.var 1)])]))])] [some .st, some (.tup (cl.map .str)), some (.int (m : Int)), x3, none] K := by
    intro x3 K k
    have tf : wpSs T [.ret (.tup [(.sub (.lst [(.con (.str "true")), (.con (.str "false"))]) (.call "_law_next" [(.var 0), (.con (.int 2))]))])] [some .st, some (.tup (cl.map .str)), some (.int (m : Int)), x3, none] { K with nx := fun ρ' => wpSs T [.ret (.tup [(.con (.str "claim")), (.sub (.var 1) (.call "_law_next" [(.var 0), (.blt .len [(.var 1)])]))])] ρ' K } := by
      refine ⟨szl, _, rfl, next_ok hN (by decide) rfl fun r r0 r1 => ?_⟩
      obtain ⟨x, hx, ex⟩ := at_mem (l := [D.str "true", .str "false"]) r0 r1
      refine ⟨x, ex, szl, ?_⟩
      simp only [List.mem_cons, List.not_mem_nil, or_false] at hx
      rcases hx with rfl | rfl
      · exact k _ (.tf m "true" (by decide +kernel))
      · exact k _ (.tf m "false" (by decide +kernel))
    refine ⟨_, rfl, _, _, rfl, rfl, rfl, rfl, _, rfl, ?_⟩
    rw [eqv_int, List.length_map]
    refine iteB (fun e => ⟨_, rfl, iteT rfl tf⟩) fun e => ?_
    have e := of_decide_eq_false e
    refine ⟨_, rfl, next_ok hN (by decide) rfl fun r r0 r1 => ⟨_, _, rfl, rfl, rfl, rfl, _, rfl, iteB (fun _ => tf) fun _ => ?_⟩⟩
    refine ⟨_, rfl, _, rfl, _, rfl, next_ok hN (by rw [List.length_map]; omega) rfl fun r r0 r1 => ?_⟩
    obtain ⟨x, hx, ex⟩ := at_mem (l := cl.map D.str) r0 r1
    obtain ⟨y, hy, rfl⟩ := List.mem_map.mp hx
    exact ⟨_, ex, szl, k _ (.cl m y hy)⟩
  refine ⟨_, rfl, next_ok hN (by decide) rfl fun kd k0 k1 => ?_⟩
  refine ⟨_, rfl, _, _, rfl, rfl, rfl, rfl, _, rfl, ?_⟩
  rw [eqv_int]
  refine iteB (fun e => ⟨_, rfl, iteT rfl (leaf q)⟩) fun e => ?_
  have e := of_decide_eq_false e
  obtain ⟨m', rfl⟩ : ∃ m', m = m' + 1 := ⟨m - 1, by omega⟩
  have em : (((m' + 1 : Nat) : Int)) - 1 = ((m' : Nat) : Int) := by omega
  refine ⟨_, rfl, _, rfl, iteB (fun _ => leaf q) fun e3 => ?_⟩
  have e3 := of_decide_eq_false e3
  refine ⟨_, rfl, _, _, rfl, rfl, rfl, rfl, _, rfl, ?_⟩
  rw [eqv_int]
  refine iteB (fun _ => ?_) fun _ => ?_
  · refine ⟨_, rfl, _, rfl, _, rfl, call_ok h2 rfl rfl ⟨cl, m', congrArg (fun x => [D.st, .tup (cl.map .str), .int x]) em, by omega, hl, fun f hf => ⟨szl, q _ (.nt m' f hf)⟩⟩⟩
  · refine ⟨szl, _, rfl, by decide, ?_⟩
    obtain ⟨x, hx, ex⟩ := at_mem (l := [D.str "and", .str "or"]) (r := kd % 2) (by omega) (by show kd % 2 < 2; omega)
    refine ⟨x, ex, _, rfl, next_ok hN (by decide) rfl fun r r0 r1 => ?_⟩
    refine ⟨_, rfl, by omega, by omega, ?_⟩
    obtain ⟨cnt, hc⟩ : ∃ c : Nat, 2 + r = (c : Int) := ⟨(2 + r).toNat, by omega⟩
    rw [hc, Int.toNat_natCast]
    refine ⟨_, rfl, .inr (rl_wk (by omega)), ?_⟩
    refine lcW_each (fun k : Nat => D.int (0 + (k : Int))) Fm.d (DrF cl m') (List.range cnt) [] (by rw [List.length_range, sizeLine_eq]; show 0 + cnt ≤ _; omega) (fun k hk R rr => ?_) fun fs hfs hS => ?_
    · exact ⟨_, rfl, _, rfl, _, rfl, call_ok h2 rfl rfl ⟨cl, m', congrArg (fun x => [D.st, .tup (cl.map .str), .int x]) em, by omega, hl, fun f hf => rr f hf⟩⟩
    · rw [List.length_range] at hfs
      have hj : ∀ w : Str, w = "and" ∨ w = "or" → Q (Fm.jn w fs).d := fun w hw => q _ (.jn m' w fs hw (by omega) (by omega) hS)
      refine ⟨szl, ?_⟩
      simp only [List.mem_cons, List.not_mem_nil, or_false] at hx
      rcases hx with rfl | rfl
      · have := hj "and" (.inl rfl)
        rw [show (Fm.jn "and" fs).d = .tup [.str "and", .tup (Fm.dl fs)] from rfl, Fm.dl_map] at this
        exact this
      · have := hj "or" (.inr rfl)
        rw [show (Fm.jn "or" fs).d = .tup [.str "or", .tup (Fm.dl fs)] from rfl, Fm.dl_map] at this
        exact this
def mConds : DSp := fun ds Q _ => ∃ m : Nat, ds = [.st, .int (m : Int)] ∧ m ≤ 5 ∧ ∀ b, DrB b → Q b.d
theorem pl_conds (hN : Has T "_law_next" 2 mNext) (h1 : Has T "_law_claims" 2 mClaims) (h2 : Has T "_law_formula" 3 (mForm 4)) (h3 : Has T "_law_measure" 1 (mLMeas 12)) (ds : List D) (Q : DK) (X : EK) (h : mConds ds Q X) : wpF T n__law_conditions.length b__law_conditions ds Q X := by
  obtain ⟨m, rfl, h5, q⟩ := h
  refine ⟨_, rfl, _, rfl, _, rfl, next_ok hN (by omega) rfl fun r r0 r1 => ?_⟩
  obtain ⟨n, rfl⟩ := Int.eq_ofNat_of_zero_le r0
  refine call_ok h1 rfl rfl ⟨n, rfl, by omega, fun cl dc hl => ?_⟩
  have oc : ∀ x ∈ cl, okS x = true := fun x hx => (dc.wd x hx).ok
  refine ⟨szl, ?_⟩
  refine ⟨_, rfl, _, rfl, .inr (wk_of D.str cl (by omega)), ?_⟩
  refine forL_t D.str (fun i ρ => ∃ (fs : List Fm) (x4 x5 : Option D), (fs.length = i ∧ ∀ f ∈ fs, FmK cl 3 f ∧ f.pt ≤ 40) ∧ ρ = [some .st, some (.int (m : Int)), some (.tup (cl.map .str)), some (.lst (fs.map Fm.d)), x4, x5]) cl 0 _ ⟨[], none, none, ⟨rfl, fun f hf => absurd hf List.not_mem_nil⟩, rfl⟩ (fun j c ρ N hj hi hN2 => ?_) fun ρ hi => ?_
  · obtain ⟨fs, x4, x5, ⟨hfl, hfs⟩, rfl⟩ := hi
    rw [Nat.zero_add] at hfl hN2
    have hjl := (List.getElem?_eq_some_iff.mp hj).1
    have add : ∀ g : Fm, FmK cl 3 g → g.pt ≤ 40 → ∀ x4 x5, (fs.map Fm.d).length < sizeLine ∧ N [some .st, some (.int (m : Int)), some (.tup (cl.map .str)), some (.lst (fs.map Fm.d ++ [g.d])), x4, x5] := fun g hg hp x4 x5 => by
      refine ⟨by rw [List.length_map, sizeLine_eq]; omega, hN2 _ ⟨fs ++ [g], x4, x5, ⟨by rw [List.length_append, hfl]; rfl, fun f hf => ?_⟩, ?_⟩⟩
      · rcases List.mem_append.mp hf with z | z
        · exact hfs f z
        · rw [List.mem_singleton.mp z]; exact ⟨hg, hp⟩
      · rw [List.map_append]
        rfl
    refine ⟨_, rfl, _, rfl, _, rfl, next_ok hN (by decide) rfl fun r r0 r1 => ?_⟩
    obtain ⟨p, hp⟩ : ∃ p : Nat, 1 + r = (p : Int) := ⟨(1 + r).toNat, by omega⟩
    refine call_ok h2 rfl rfl ⟨cl, p, congrArg (fun x => [D.st, .tup (cl.map .str), .int x]) hp, by omega, by omega, fun f hf => ?_⟩
    have fk := dr_ok oc hf
    have fk3 : FmK cl 3 f := ⟨fk.ok, fk.wf, by have := fk.dp; omega, okW_le (by omega) fk.sh⟩
    refine ⟨_, rfl, _, rfl, szl, szl, _, rfl, call_ok h3 rfl rfl ⟨f, rfl, fk.ok, by have := fk.dp; omega, _, at_lit 0 rfl rfl, ?_⟩⟩
    by_cases e : (40 : Int) < ((f.pt : Nat) : Int)
    · refine ⟨_, at_lit 1 (by rw [decide_eq_true e]; rfl) rfl, ?_⟩
      have tk : FmK cl 3 (.lf "true" []) := dr_ok oc (.tf 3 "true" (by decide +kernel))
      exact add _ tk (by decide) _ _
    · exact ⟨_, at_lit 0 (by rw [decide_eq_false e]; rfl) rfl, add f fk3 (by omega) _ _⟩
  · obtain ⟨fs, x4, x5, ⟨hfl, hfs⟩, rfl⟩ := hi
    rw [Nat.zero_add] at hfl
    exact ⟨_, rfl, _, rfl, szl, q ⟨cl, fs⟩ ⟨dc, (show cl.length ≤ 5 by omega), (show fs.length = cl.length by omega), hfs⟩⟩
end
end DL

/-! A16: what is told; what the law looks at besides -/
namespace DL
open PySem
open L2 (Key)
/-! ### the books of the law pass -/
theorem dr_Ok {b : Bk} (h : DrB b) : b.Ok := ⟨fun x hx => (h.c.wd x hx).ok, fun f hf => ⟨(h.fs f hf).1.ok, by have := (h.fs f hf).1.dp; omega⟩, by have := h.l5; omega, by have := h.l5; have := h.le; omega⟩
theorem dr_big {b : Bk} (h : DrB b) : b.fs.any Bk.bigF = false := by
  rw [List.any_eq_false]
  intro f hf
  obtain ⟨k, p⟩ := h.fs f hf
  have := k.dp
  unfold Bk.bigF
  rw [decide_eq_false (by omega), decide_eq_false (by omega)]
  exact Bool.false_ne_true
theorem dr_err {b : Bk} (h : DrB b) : b.err = none := by
  have := h.l5
  unfold Bk.err
  rw [decide_eq_false (show ¬ 6 < b.cl.length by omega), if_neg Bool.false_ne_true, dr_big h, if_neg Bool.false_ne_true]
  have k : b.kindB = true := by
    unfold Bk.kindB
    rw [List.all_eq_true.mpr fun x hx => (h.c.wd x hx).cl, pw_ris h.c.pw, decide_eq_true h.le]
    rfl
  rw [k, if_pos rfl, if_pos (List.all_eq_true.mpr fun f hf => (h.fs f hf).1.wf)]
theorem dr_fine {b : Bk} (h : DrB b) : b.Fine := fine_of (dr_Ok h) (dr_err h)
def badB (b : Bk) : Bk := ⟨b.cl ++ [("A" : Str)], b.fs ++ [.lf "true" []]⟩
theorem bad_d (b : Bk) : D.tup [.tup (b.cl.map D.str ++ [.str "A"]), .tup (b.fs.map Fm.d ++ [.tup [.str "true"]])] = (badB b).d := by
  unfold badB Bk.d
  rw [List.map_append, List.map_append]
  rfl
theorem bad_Ok {b : Bk} (h : DrB b) : (badB b).Ok := by
  have o := dr_Ok h
  have := h.l5
  have := h.le
  refine ⟨fun x hx => ?_, fun f hf => ?_, ?_, ?_⟩
  · rcases List.mem_append.mp hx with z | z
    · exact o.cl x z
    · rw [List.mem_singleton.mp z]; exact okS_lit
  · rcases List.mem_append.mp hf with z | z
    · exact o.fs f z
    · rw [List.mem_singleton.mp z]
      exact ⟨by decide +kernel, by decide⟩
  · show (b.cl ++ [("A" : Str)]).length ≤ 12
    rw [List.length_append]
    show b.cl.length + 1 ≤ 12
    omega
  · show (b.fs ++ [Fm.lf "true" []]).length ≤ 12
    rw [List.length_append]
    show b.fs.length + 1 ≤ 12
    omega
theorem bad_err {b : Bk} (h : DrB b) : (badB b).err = some refused := by
  have := h.l5
  have l : (badB b).cl.length = b.cl.length + 1 := by
    show (b.cl ++ [("A" : Str)]).length = _
    rw [List.length_append]
    rfl
  have big : (badB b).fs.any Bk.bigF = false := by
    show (b.fs ++ [Fm.lf "true" []]).any Bk.bigF = false
    rw [List.any_append, dr_big h]
    decide
  unfold Bk.err
  rw [decide_eq_false (show ¬ 6 < (badB b).cl.length by omega), if_neg Bool.false_ne_true, big, if_neg Bool.false_ne_true]
  have k : (badB b).kindB = false := by
    unfold Bk.kindB
    have : (badB b).cl.all claimB = false := by
      show (b.cl ++ [("A" : Str)]).all claimB = false
      rw [List.all_append, show (["A"] : List Str).all claimB = false by decide +kernel, Bool.and_false]
    rw [this]
    rfl
  rw [k, if_neg Bool.false_ne_true]
theorem book_ok {b : Bk} (h : DrB b) : okW (2 :: 6 :: List.replicate 7 3) b.d = true := by
  have := h.l5
  have := h.le
  refine okW_tup (by show 2 ≤ 2; decide) (mem2 (okW_strs (by omega) fun x hx => (h.c.wd x hx).ok) (okW_tup (by rw [List.length_map]; omega) fun d hd => ?_))
  obtain ⟨f, hf, rfl⟩ := List.mem_map.mp hd
  exact (h.fs f hf).1.sh
/-! ### what the law finds of its own lists -/
theorem allL_all : ∀ r : List Str, (∀ x ∈ r, x ∈ labL) → r ∈ allL r.length := by
  refine snoc_ind (fun _ => List.mem_cons_self) fun l a ih h => ?_
  rw [List.length_append]
  show l ++ [a] ∈ (allL l.length).flatMap fun r => labL.map fun x => r ++ [x]
  exact List.mem_flatMap.mpr ⟨l, ih fun x hx => h x (List.mem_append_left _ hx), List.mem_map.mpr ⟨a, h a (List.mem_append_right _ List.mem_cons_self), rfl⟩⟩
theorem done_ag {b : Bk} (fb : b.Fine) {l : List Str} (h : l ∈ done b) : agB (lfp b) l = true := by
  obtain ⟨h1, h2⟩ := List.mem_filter.mp h
  exact lfp_least (good_labs h1).1 fb.nd (of_decide_eq_true h2)
theorem stab_modl {b : Bk} {l : List Str} (h : l ∈ stab b) : l ∈ modl b := by
  obtain ⟨h1, h2⟩ := List.mem_filter.mp h
  unfold stabB at h2
  exact List.mem_filter.mpr ⟨h1, (and2 h2).1⟩
theorem modl_done {b : Bk} {l : List Str} (h : l ∈ modl b) : l ∈ done b := (List.mem_filter.mp h).1
theorem pref_done {b : Bk} (fb : b.Fine) {l : List Str} (h : l ∈ pref b) : l ∈ done b := by
  obtain ⟨h1, h2⟩ := List.mem_filter.mp h
  refine List.mem_filter.mpr ⟨h1, decide_eq_true (Classical.byContradiction fun ne => ?_)⟩
  have up : agB l (nxt b l) = true := (List.mem_filter.mp h1).2
  have lb := nxt_Labs fb l
  have hn : nxt b l ∈ good b := by
    refine List.mem_filter.mpr ⟨?_, nxt_mono fb.nd up⟩
    rw [← lb.1]
    exact allL_all _ lb.2
  have : ((good b).any fun p => !decide (l = p) && agB l p) = true := by
    refine List.any_eq_true.mpr ⟨_, hn, ?_⟩
    rw [decide_eq_false fun z => ne z.symm, up]
    rfl
  rw [this] at h2
  cases h2
theorem condL_g (b : Bk) : condL b "grounded" = [lfp b] := if_pos rfl
theorem condL_c (b : Bk) : condL b "complete" = done b := by unfold condL; rw [if_neg (by decide +kernel), if_neg (by decide +kernel), if_neg (by decide +kernel), if_pos rfl]
theorem condL_p (b : Bk) : condL b "preferred" = pref b := by unfold condL; rw [if_neg (by decide +kernel), if_neg (by decide +kernel), if_pos rfl]
theorem condL_m (b : Bk) : condL b "model" = modl b := by unfold condL; rw [if_neg (by decide +kernel), if_neg (by decide +kernel), if_neg (by decide +kernel), if_neg (by decide +kernel), if_pos rfl]
theorem condL_s (b : Bk) : condL b "stable" = stab b := by unfold condL; rw [if_neg (by decide +kernel), if_neg (by decide +kernel), if_neg (by decide +kernel), if_neg (by decide +kernel), if_neg (by decide +kernel)]
/-! ### what is told -/
open Classical in
noncomputable def toldR (b : Bk) (w : Str) (l : List Str) (k : Bool) : D :=
  if b.err = none then (if w ∈ wayL then (if k = true then (if labB b.cl.length l = true then toldD (.bl (decide (l ∈ condL b w))) else .str "refused") else toldD (sortT (condL b w))) else .str "refused") else .str "refused"
section
variable {T : Tb}
def kI (k : Bool) : Int := if k = true then 1 else 0
def mTold : DSp := fun ds Q _ => ∃ (b : Bk) (w : Str) (l : List Str) (k : Bool), ds = [.int (kI k), b.d, .str w, encT l] ∧ b.Ok ∧ okS w = true ∧ (∀ x ∈ l, okS x = true) ∧ l.length ≤ 12 ∧ (b.err = none ∨ b.err = some refused) ∧ Q (toldR b w l k)
theorem pl_told (h1 : Has T "condition_labels" 2 mCond) (h2 : Has T "labels_stand" 3 mStand) (ds : List D) (Q : DK) (X : EK) (h : mTold ds Q X) : wpF T n__law_told.length b__law_told ds Q X := by
  obtain ⟨b, w, l, k, rfl, ob, ow, ol, hl, he, q⟩ := h
  have rf : ∀ {P : Prop} {R : DK}, R (.str "refused") → (refused.line = none ∧ ∃ t, errT refused.cls = some t ∧ R (.str t)) := fun r => ⟨rfl, "refused", rfl, r⟩
  unfold toldR at q
  cases k with
  | false =>
    refine ⟨_, rfl, _, _, rfl, rfl, rfl, rfl, _, rfl, iteT (by rw [eqv_int]; rfl) ?_⟩
    refine ⟨_, rfl, _, rfl, call_ok h1 rfl rfl ⟨b, w, rfl, ob, ow, fun x hx => ?_, fun hn hw => ?_, fun hn hw fb => ⟨szl, ?_⟩⟩⟩
    · rcases he with e | e
      · rw [e] at hx; cases hx
      · rw [e] at hx
        cases hx
        rw [if_neg (by rw [e]; exact nofun)] at q
        exact rf (P := True) q
    · rw [if_pos hn, if_neg hw] at q
      exact rf (P := True) q
    · rw [if_pos hn, if_pos hw, if_neg Bool.false_ne_true] at q
      exact q
  | true =>
    refine ⟨_, rfl, _, _, rfl, rfl, rfl, rfl, _, rfl, iteF (by rw [eqv_int]; rfl) ?_⟩
    refine ⟨_, rfl, _, rfl, _, rfl, call_ok h2 rfl rfl ⟨b, w, l, rfl, ob, ow, ol, hl, fun x hx => ?_, fun hn hw => ?_, fun hn hw hb => ?_, fun hn hw hb fb => ⟨szl, ?_⟩⟩⟩
    · rcases he with e | e
      · rw [e] at hx; cases hx
      · rw [e] at hx
        cases hx
        rw [if_neg (by rw [e]; exact nofun)] at q
        exact rf (P := True) q
    · rw [if_pos hn, if_neg hw] at q
      exact rf (P := True) q
    · rw [if_pos hn, if_pos hw, if_pos rfl, if_neg (by rw [hb]; exact Bool.false_ne_true)] at q
      exact rf (P := True) q
    · rw [if_pos hn, if_pos hw, if_pos rfl, if_pos hb] at q
      exact q
end
end DL

/-! A17: the law -/
namespace DL
open PySem
open L2 (Key)
section
variable {T : Tb}
structure LawT (T : Tb) : Prop where
  g : Glc T
  nx : Has T "_law_next" 2 mNext
  str : Has T "_law_stream" 1 mStream
  con : Has T "_law_conditions" 2 mConds
  cond : Has T "_law_condition_labels" 2 mLCond
  told : Has T "_law_told" 4 mTold
  same : Has T "_law_same" 2 mSame
  agr : Has T "_law_agrees" 2 mAgrees
def lawLoop : List S := match b_law with
  | _ :: _ :: .for _ _ b :: _ => b
  | _ => []
def wayLoop : List S := match lawLoop with
  | _ :: _ :: _ :: .for _ _ b :: _ => b
  | _ => []
def labLoop : List S := match wayLoop with
  | _ :: _ :: _ :: .for _ _ b :: _ => b
  | _ => []
theorem told_tag {b : Bk} (h : DrB b) {w : Str} (hw : w ∈ wayL) (l : List Str) : toldR b w l false = toldD (sortT (condL b w)) := by
  unfold toldR
  rw [if_pos (dr_err h), if_pos hw, if_neg Bool.false_ne_true]
theorem told_in {b : Bk} (h : DrB b) {w : Str} (hw : w ∈ wayL) {l : List Str} (lb : Labs b l) : toldR b w l true = toldD (.bl (decide (l ∈ condL b w))) := by
  have : labB b.cl.length l = true := by
    unfold labB
    rw [decide_eq_true lb.1, List.all_eq_true.mpr fun x hx => decide_eq_true (lb.2 x hx)]
    rfl
  unfold toldR
  rw [if_pos (dr_err h), if_pos hw, if_pos rfl, if_pos this]
theorem sort_ok {b : Bk} (fb : b.Fine) (w : Str) : okW [2, 729, 6] (toldD (sortT (condL b w))) = true := by
  have l6 := fb.l6
  refine okW_tup (by show 2 ≤ 2; decide) (mem2 (okW_str okS_lit) ?_)
  unfold sortT
  rw [show sortD ((condL b w).map encT) = (sT (condL b w)).map encT from sortD_map encT _]
  refine okW_tup (by rw [List.length_map, sT_len]; exact condL_len l6 w) fun d hd => ?_
  obtain ⟨r, hr, rfl⟩ := List.mem_map.mp hd
  have lr := condL_labs fb w r (sT_mem.mp hr)
  exact okW_strs (by rw [lr.1]; exact l6) (ok_labs lr.2)
theorem cut2 (l : List (List Str)) : cutL (l.map encT) none (some 2) = (l.take 2).map encT := by
  rw [show (2 : Int) = ((2 : Nat) : Int) from rfl, cut_to, List.map_take]
/-- one look at labels -/
theorem law_lab (t : LawT T) {b : Bk} (db : DrB b) {w : Str} (hw : w ∈ wayL) {l : List Str} (lb : Labs b l) {κ : KD} {x0 x1 x2 x3 x5 x6 x8 x9 x12 x13 : Option D}
    (q : κ.nx [x0, x1, x2, x3, some b.d, x5, x6, some (.str w), x8, x9, some (.lst ((condL b w).map encT)), some (encT l), x12, x13]) :
    wpSs T labLoop [x0, x1, x2, x3, some b.d, x5, x6, some (.str w), x8, x9, some (.lst ((condL b w).map encT)), some (encT l), x12, x13] κ := by
  have fb := dr_fine db
  have l6 := fb.l6
  have ow := ok_way w hw
  refine ⟨_, rfl, _, rfl, _, rfl, call_ok t.told rfl rfl ⟨b, w, l, true, rfl, dr_Ok db, ow, ok_labs lb.2, by rw [lb.1]; omega, .inl (dr_err db), ?_⟩⟩
  rw [told_in db hw lb]
  have lb2 := condL_labs fb w
  refine ⟨_, rfl, _, rfl, inn_T (ok_labs lb.2) (fun r hr x hx => ok_labs (lb2 r hr).2 x hx) (fun r hr => by rw [(lb2 r hr).1]; omega) ⟨szl, ?_⟩⟩
  refine call_ok t.same rfl rfl ⟨toldD (.bl (decide (l ∈ condL b w))), [2], rfl, okW_tup (by show 2 ≤ 2; decide) (mem2 (okW_str okS_lit) okW_bl), by decide, by decide, ?_⟩
  exact ⟨true, rfl, _, rfl, iteF rfl q⟩
/-- one way -/
theorem law_way (t : LawT T) {b : Bk} (db : DrB b) {w : Str} (hw : w ∈ wayL) {ls : List (Key × D)} (hl : ls.length ≤ 100) {κ : KD} {x0 x2 x3 x5 x8 x9 x10 x11 x12 x13 : Option D}
    (q : ∀ x10 x11 x13 : Option D, κ.nx [x0, some .st, x2, x3, some b.d, x5, some (.dic (putD ls (.inr w) (.lst ((condL b w).map encT)))), some (.str w), x8, x9, x10, x11, x12, x13]) :
    wpSs T wayLoop [x0, some .st, x2, x3, some b.d, x5, some (.dic ls), some (.str w), x8, x9, x10, x11, x12, x13] κ := by
  have fb := dr_fine db
  have l6 := fb.l6
  have ow := ok_way w hw
  refine ⟨_, rfl, _, rfl, call_ok t.cond rfl rfl ⟨b, w, rfl, fb, hw, ?_⟩⟩
  refine ⟨_, rfl, _, rfl, _, rfl, _, rfl, by rw [sizeLine_eq]; omega, ?_⟩
  refine ⟨_, rfl, _, rfl, szl, call_ok t.told rfl rfl ⟨b, w, [], false, rfl, dr_Ok db, ow, fun x hx => absurd hx List.not_mem_nil, by decide, .inl (dr_err db), ?_⟩⟩
  rw [told_tag db hw]
  refine ⟨_, rfl, sc_len fun r hr => (condL_labs fb w r hr).1, szl, ?_⟩
  refine call_ok t.same rfl rfl ⟨toldD (sortT (condL b w)), [2, 729, 6], rfl, sort_ok fb w, by decide, by decide, ?_⟩
  refine ⟨true, rfl, _, rfl, iteF rfl ?_⟩
  refine ⟨_, rfl, _, rfl, ?_⟩
  dsimp only [sliceD]
  rw [cut2]
  refine ⟨_, rfl, _, at_lit 0 rfl rfl, _, rfl, .inr (wk_of D.str b.cl (by omega)), ?_⟩
  refine lcW_each D.str D.str (fun x => x ∈ labL) b.cl [] (by rw [sizeLine_eq]; show 0 + b.cl.length ≤ _; omega) (fun c hc R r => ?_) fun l hlen hlab => ?_
  · refine ⟨szl, _, rfl, next_ok t.nx (by decide) rfl fun s s0 s1 => ?_⟩
    obtain ⟨d, hd, ed⟩ := at_mem (l := [D.str "in", .str "open", .str "out"]) s0 s1
    have : ∃ x, x ∈ labL ∧ d = .str x := by
      simp only [List.mem_cons, List.not_mem_nil, or_false] at hd
      rcases hd with rfl | rfl | rfl
      · exact ⟨"in", by decide +kernel, rfl⟩
      · exact ⟨"open", by decide +kernel, rfl⟩
      · exact ⟨"out", by decide +kernel, rfl⟩
    obtain ⟨x, hx, rfl⟩ := this
    exact ⟨_, ed, r x hx⟩
  rw [List.nil_append]
  have et : ((condL b w).take 2).map encT ++ [D.tup (l.map D.str)] = ((condL b w).take 2 ++ [l]).map encT := by rw [List.map_append]; rfl
  refine ⟨szl, ?_, ((condL b w).take 2 ++ [l]).map encT, congrArg some et, .inr (wk_of encT _ ?_), ?_⟩
  · rw [List.length_map, List.length_take, sizeLine_eq]
    show _ + 1 ≤ _
    omega
  · rw [List.length_append, List.length_take]
    show _ + 1 ≤ _
    omega
  refine forL_t encT (fun i ρ => ∃ x11, ρ = [x0, some .st, x2, x3, some b.d, x5, some (.dic (putD ls (.inr w) (.lst ((condL b w).map encT)))), some (.str w), x8, x9, some (.lst ((condL b w).map encT)), x11, x12, x13]) ((condL b w).take 2 ++ [l]) 0 _ ⟨x11, rfl⟩ (fun j r ρ N hr hi hN => ?_) fun ρ hi => ?_
  · obtain ⟨x11, rfl⟩ := hi
    have lr : Labs b r := by
      rcases List.mem_append.mp (List.mem_of_getElem? hr) with z | z
      · exact condL_labs fb w r (List.mem_of_mem_take z)
      · rw [List.mem_singleton.mp z]
        exact ⟨hlen, hlab⟩
    exact law_lab t db hw lr (hN _ ⟨_, rfl⟩)
  · obtain ⟨x11, rfl⟩ := hi
    exact q _ _ _
theorem dget_k {ls : List (Key × D)} {w : Str} {v : D} {ρ : DE} {Q : DK} {X : EK} (h : ρ[6]? = some (some (.dic ls))) (hv : valD ls (.inr w) = some v) (q : Q v) : wpE T X (.dget (.own 6) (.con (.str w))) ρ Q := ⟨_, h, .inr w, v, rfl, hv, q⟩
theorem law_turn (t : LawT T) {κ : KD} {i : Nat} {x0 x4 x5 x6 x7 x8 x9 x10 x11 x12 x13 : Option D} (hi : i < 5)
    (q : ∀ x4 x5 x6 x7 x8 x9 x10 x11 x12 x13 : Option D, κ.nx [x0, some .st, some (.lst (wayL.map .str)), some (.int (0 + (i : Int))), x4, x5, x6, x7, x8, x9, x10, x11, x12, x13]) :
    wpSs T lawLoop [x0, some .st, some (.lst (wayL.map .str)), some (.int (0 + (i : Int))), x4, x5, x6, x7, x8, x9, x10, x11, x12, x13] κ := by
  -- the book
  have bk : ∀ {K : KD}, (∀ b, DrB b → K.nx [x0, some .st, some (.lst (wayL.map .str)), some (.int (0 + (i : Int))), some b.d, x5, x6, x7, x8, x9, x10, x11, x12, x13]) → wpS T (.asg 4 (.call "_law_conditions" [(.var 1), (.bin .Add (.con (.int 4)) (.blt .int [(.and [(.cmp .Eq (.var 3) (.con (.int 0))), (.cmp .Eq (.call "_law_next" [(.var 1), (.con (.int 3))]) (.con (.int 0)))])]))])) [x0, some .st, some (.lst (wayL.map .str)), some (.int (0 + (i : Int))), x4, x5, x6, x7, x8, x9, x10, x11, x12, x13] K := by
    intro K k
    have fin : ∀ (bb : Bool) {es : List E} {X : EK}, es.any ownB = false → ∃ e, T.fn "_law_conditions" = some e ∧ ([D.st, .int (4 + PyProof.Rows.b2i bb)] : List D).length = e.n ∧ e.m [D.st, .int (4 + PyProof.Rows.b2i bb)] (fun d => (es.any ownB = true → flatD d = true) ∧ K.nx [x0, some .st, some (.lst (wayL.map .str)), some (.int (0 + (i : Int))), some d, x5, x6, x7, x8, x9, x10, x11, x12, x13]) X := fun bb es X ho => by
      cases bb with
      | false => exact call_ok t.con rfl ho ⟨4, rfl, by decide, k⟩
      | true => exact call_ok t.con rfl ho ⟨5, rfl, by decide, k⟩
    refine ⟨_, rfl, _, rfl, _, _, rfl, rfl, rfl, rfl, _, rfl, ?_⟩
    rw [eqv_int]
    refine iteB (fun e => ?_) fun e => ?_
    · refine ⟨_, rfl, next_ok t.nx (by decide) rfl fun r r0 r1 => ⟨_, _, rfl, rfl, rfl, rfl, ?_⟩⟩
      exact fin _ (es := [.var 1, .bin .Add (.con (.int 4)) (.blt .int [(.and [(.cmp .Eq (.var 3) (.con (.int 0))), (.cmp .Eq (.call "_law_next" [(.var 1), (.con (.int 3))]) (.con (.int 0)))])])]) rfl
    · exact fin false (es := [.var 1, .bin .Add (.con (.int 4)) (.blt .int [(.and [(.cmp .Eq (.var 3) (.con (.int 0))), (.cmp .Eq (.call "_law_next" [(.var 1), (.con (.int 3))]) (.con (.int 0)))])])]) rfl
  refine bk fun b db => ?_
  have fb := dr_fine db
  have l6 := fb.l6
  have l5 := db.l5
  obtain ⟨ps, e2, g1, g2, g3, g4⟩ := repr_tupW (ws := 2 :: 6 :: List.replicate 7 3) (by decide) (by decide) (book_ok db)
  refine ⟨_, rfl, ps, e2, g1, g2, g3, g4, ?_⟩
  refine ⟨_, rfl, _, rfl, .inr (by decide), ?_⟩
  refine forL_t D.str (fun j ρ => ∃ (ls : List (Key × D)) (x7 x8 x9 x10 x11 x12 x13 : Option D), (ls.length ≤ j ∧ ∀ w ∈ wayL.take j, valD ls (.inr w) = some (.lst ((condL b w).map encT))) ∧ ρ = [x0, some .st, some (.lst (wayL.map .str)), some (.int (0 + (i : Int))), some b.d, some (.str (PyData.tuple ps).shown), some (.dic ls), x7, x8, x9, x10, x11, x12, x13]) wayL 0 _ ⟨[], x7, x8, x9, x10, x11, x12, x13, ⟨Nat.le_refl _, fun w hw => absurd hw List.not_mem_nil⟩, rfl⟩ (fun j w ρ N hj hi hN => ?_) fun ρ hi => ?_
  · obtain ⟨ls, x7, x8, x9, x10, x11, x12, x13, ⟨h1, h2⟩, rfl⟩ := hi
    rw [Nat.zero_add] at hN h1 h2
    have hjl : j < 6 := (List.getElem?_eq_some_iff.mp hj).1
    have tk : wayL.take (j + 1) = wayL.take j ++ [w] := by
      rw [List.take_succ, hj]
      rfl
    refine law_way t db (List.mem_of_getElem? hj) (by omega) fun x10 x11 x13 => hN _ ⟨_, _, _, _, _, _, _, _, ⟨Nat.le_trans putD_len (by omega), fun v hv => ?_⟩, rfl⟩
    rw [valD_put]
    rw [tk] at hv
    by_cases e : v = w
    · rw [if_pos (by rw [e]), e]
    · rw [if_neg fun z => e (Sum.inr.inj z)]
      rcases List.mem_append.mp hv with z | z
      · exact h2 v z
      · exact absurd (List.mem_singleton.mp z) e
  obtain ⟨ls, x7, x8, x9, x10, x11, x12, x13, ⟨_, hls⟩, rfl⟩ := hi
  rw [Nat.zero_add, List.take_length] at hls
  have vc := hls "complete" (by decide +kernel)
  have vg := hls "grounded" (by decide +kernel)
  have vs := hls "stable" (by decide +kernel)
  have vm := hls "model" (by decide +kernel)
  have vp := hls "preferred" (by decide +kernel)
  rw [condL_c] at vc
  rw [condL_g] at vg
  rw [condL_s] at vs
  rw [condL_m] at vm
  rw [condL_p] at vp
  have gl := good_len l6
  have dl := done_len l6
  have ml : (modl b).length ≤ 729 := Nat.le_trans (List.length_filter_le _ _) dl
  have sl : (stab b).length ≤ 729 := Nat.le_trans (List.length_filter_le _ _) dl
  have pl : (pref b).length ≤ 729 := Nat.le_trans (List.length_filter_le _ _) gl
  have lfpL : Labs b (lfp b) := itr_lab fb _
  have okl : ∀ {l : List Str}, Labs b l → ∀ x ∈ l, okS x = true := fun h => ok_labs h.2
  have lng : ∀ {L : List (List Str)}, (∀ r ∈ L, r ∈ done b) → (∀ r ∈ L, ∀ x ∈ r, okS x = true) ∧ ∀ r ∈ L, r.length ≤ 1000 := fun h => ⟨fun r hr => okl (done_labs (h r hr)), fun r hr => by rw [(done_labs (h r hr)).1]; omega⟩
  -- grounded and complete; stable and model
  refine dget_k rfl vc ⟨_, rfl, .inr (wk_of encT (done b) (by omega)), ?_⟩
  refine lcW_m encT (fun l => .bl (agB (lfp b) l)) (done b) (by omega) (fun l hl R r => ?_) ?_
  · have la := done_labs hl
    exact dget_k rfl vg ⟨_, at_lit 0 rfl rfl, _, rfl, call_ok t.agr rfl rfl ⟨lfp b, l, rfl, by rw [lfpL.1, la.1], by rw [lfpL.1]; omega, okl lfpL, okl la, r⟩⟩
  refine ⟨_, bl_map (fun l => agB (lfp b) l) _, _, rfl, _, rfl, ?_⟩
  rw [all_id, List.all_eq_true.mpr fun l hl => done_ag fb hl]
  refine iteF (c := false) rfl ?_
  refine dget_k rfl vs ⟨_, rfl, .inr (wk_of encT (stab b) (by omega)), ?_⟩
  refine lcW_m encT (fun l => .bl (decide (l ∈ modl b))) (stab b) (by omega) (fun l hl R r => ?_) ?_
  · have la := done_labs (modl_done (stab_modl hl))
    have lm := lng (L := modl b) fun r hr => modl_done hr
    exact ⟨_, rfl, dget_k rfl vm (inn_T (okl la) lm.1 lm.2 r)⟩
  refine ⟨_, bl_map (fun l => decide (l ∈ modl b)) _, _, rfl, _, rfl, ?_⟩
  rw [all_id, List.all_eq_true.mpr fun l hl => decide_eq_true (stab_modl hl)]
  refine iteF (c := false) rfl ?_
  -- model and preferred ones are complete
  refine dget_k rfl vm (dget_k rfl vp ?_)
  have em : (modl b).map encT ++ (pref b).map encT = (modl b ++ pref b).map encT := by rw [List.map_append]
  refine ⟨by rw [List.length_map, List.length_map, sizeLine_eq]; omega, (modl b ++ pref b).map encT, congrArg some em, .inr (wk_of encT _ (by rw [List.length_append]; omega)), ?_⟩
  have sub : ∀ l ∈ modl b ++ pref b, l ∈ done b := fun l hl => (List.mem_append.mp hl).elim modl_done (pref_done fb)
  refine lcW_t encT (fun _ => true) (fun l => .bl (decide (l ∈ done b))) (modl b ++ pref b) [] (by rw [List.length_append, sizeLine_eq]; simp only [List.length_nil]; omega) (fun l hl R r => ?_) ?_
  · rw [if_pos rfl] at r
    have ld := lng (L := done b) fun r hr => hr
    exact ⟨_, rfl, dget_k rfl vc (inn_T (okl (done_labs (sub l hl))) ld.1 ld.2 r)⟩
  rw [List.filter_eq_self.mpr fun _ _ => rfl, List.nil_append]
  refine ⟨_, bl_map (fun l => decide (l ∈ done b)) _, _, rfl, _, rfl, ?_⟩
  rw [all_id, List.all_eq_true.mpr fun l hl => decide_eq_true (sub l hl)]
  refine iteF (c := false) rfl ?_
  -- what is refused
  have oB := dr_Ok db
  have nE := dr_err db
  have ref : ∀ {w : Str} {l : List Str} {k : Bool}, w ∉ wayL → toldR b w l k = .str "refused" := fun hw => by
    unfold toldR
    rw [if_pos nE, if_neg hw]
  have ref2 : ∀ {l : List Str}, l.length ≠ b.cl.length → toldR b "stable" l true = .str "refused" := fun {l} hl => by
    have : labB b.cl.length l = false := by
      unfold labB
      rw [decide_eq_false hl]
      rfl
    unfold toldR
    rw [if_pos nE, if_pos (by decide +kernel), if_pos rfl, this, if_neg Bool.false_ne_true]
  have ref3 : ∀ {w : Str} {l : List Str} {k : Bool}, toldR (badB b) w l k = .str "refused" := fun {w l k} => by
    unfold toldR
    rw [bad_err db, if_neg nofun]
  refine ⟨_, rfl, szl, call_ok t.told rfl rfl ⟨b, "naive", [], false, rfl, oB, okS_lit, fun x hx => absurd hx List.not_mem_nil, by decide, .inl nE, ?_⟩⟩
  rw [ref (by decide +kernel)]
  refine ⟨_, rfl, szl, call_ok t.told rfl rfl ⟨b, "free", ["on"], true, rfl, oB, okS_lit, mem1 okS_lit, by decide, .inl nE, ?_⟩⟩
  rw [ref (by decide +kernel)]
  have e0 : (List.replicate ((((b.cl.map D.str).length : Nat) : Int) + 1).toNat [D.str "in"]).flatten = (List.replicate (b.cl.length + 1) ("in" : Str)).map .str := by
    rw [rep_one, List.map_replicate, List.length_map]
    congr 1
  refine ⟨_, rfl, szl, _, rfl, _, at_lit 0 rfl rfl, by rw [List.length_map]; omega, by rw [List.length_map]; omega, by decide, ?_⟩
  refine call_ok t.told rfl rfl ⟨b, "stable", List.replicate (b.cl.length + 1) "in", true, congrArg (fun x => [D.int 1, b.d, .str "stable", .tup x]) e0, oB, okS_lit, fun x hx => by rw [List.eq_of_mem_replicate hx]; exact okS_lit, by rw [List.length_replicate]; omega, .inl nE, ?_⟩
  rw [ref2 (by rw [List.length_replicate]; omega)]
  refine ⟨szl, ?_⟩
  refine ⟨_, rfl, _, at_lit 0 rfl rfl, szl, ?_, _, rfl, _, at_lit 1 rfl rfl, szl, szl, ?_, szl, ?_⟩
  · show (b.cl.map D.str).length + 1 ≤ _
    rw [List.length_map, sizeLine_eq]; omega
  · show (b.fs.map Fm.d).length + 1 ≤ _
    have := db.le
    rw [List.length_map, sizeLine_eq]; omega
  have ebad : some (D.tup [.tup (b.cl.map D.str ++ [.str "A"]), .tup (b.fs.map Fm.d ++ [.tup [.str "true"]])]) = some (badB b).d := congrArg some (bad_d b)
  refine ⟨_, rfl, _, rfl, by decide, by decide, _, rfl, .inr (rl_wk (by decide)), ?_⟩
  refine lcW_m (fun k : Nat => D.int (0 + (k : Int))) (fun _ => .str "refused") (List.range (2 : Int).toNat) (by decide) (fun k hk R r => ?_) ?_
  · have hk : k < 2 := List.mem_range.mp hk
    have go : ∀ kb : Bool, D.int (0 + (k : Int)) = .int (kI kb) → ∃ e, T.fn "_law_told" = some e ∧ ([D.int (0 + (k : Int)), D.tup [.tup (b.cl.map D.str ++ [.str "A"]), .tup (b.fs.map Fm.d ++ [.tup [.str "true"]])], .str "free", .tup []] : List D).length = e.n ∧ e.m [D.int (0 + (k : Int)), D.tup [.tup (b.cl.map D.str ++ [.str "A"]), .tup (b.fs.map Fm.d ++ [.tup [.str "true"]])], .str "free", .tup []] (fun d => (([.var 12, .var 9, .con (.str "free"), .tup []] : List E).any ownB = true → flatD d = true) ∧ R (some d)) (fun _ => False) := fun kb ek => by
      refine call_ok t.told rfl rfl ⟨badB b, "free", [], kb, ?_, bad_Ok db, okS_lit, fun x hx => absurd hx List.not_mem_nil, by decide, .inr (bad_err db), ?_⟩
      · rw [ek, bad_d]
        rfl
      · rw [ref3]
        exact r
    refine ⟨_, rfl, _, rfl, szl, ?_⟩
    rcases (by omega : k = 0 ∨ k = 1) with rfl | rfl
    · exact go false rfl
    · exact go true rfl
  refine ⟨szl, szl, by decide, by decide, szl, ?_⟩
  have o5 : okW [8] (.lst (List.replicate 5 (.str "refused"))) = true := by decide +kernel
  refine (show cmpD .NotEq (.lst (List.replicate 5 (.str "refused"))) (.lst (List.replicate 5 (.str "refused"))) _ from ne_selfW (by decide) o5 ⟨false, rfl, iteF rfl ?_⟩)
  refine ⟨_, rfl, ps, e2, g1, g2, g3, g4, _, rfl, _, _, rfl, rfl, rfl, rfl, ?_⟩
  rw [eqv_str, decide_eq_true rfl]
  exact ⟨false, rfl, iteF rfl (q _ _ _ _ _ _ _ _ _ _)⟩
def mLaw : DSp := fun ds Q _ => ∃ l : List Int, ds = [.scr l] ∧ l.length ≤ 63 ∧ Q (.bl true)
theorem pl_law (t : LawT T) (ds : List D) (Q : DK) (X : EK) (h : mLaw ds Q X) : wpF T n_law.length b_law ds Q X := by
  obtain ⟨l, rfl, hl, q⟩ := h
  refine ⟨_, rfl, call_ok t.str rfl rfl ⟨l, rfl, hl, fun ns n1 n2 => ⟨ns, rfl, n1, n2.1, n2.2, ?_⟩⟩⟩
  refine ⟨szl, ?_⟩
  refine ⟨_, rfl, by decide, by decide, _, rfl, .inr (rl_wk (by decide)), ?_⟩
  refine forL_t (fun k : Nat => D.int (0 + (k : Int))) (fun i ρ => ∃ x3 x4 x5 x6 x7 x8 x9 x10 x11 x12 x13 : Option D, ρ = [some (.scr l), some .st, some (.lst (wayL.map .str)), x3, x4, x5, x6, x7, x8, x9, x10, x11, x12, x13]) (List.range 5) 0 _ ⟨none, none, none, none, none, none, none, none, none, none, none, rfl⟩ (fun j r ρ N hr hi hn => ?_) fun ρ hi => ?_
  · obtain ⟨x3, x4, x5, x6, x7, x8, x9, x10, x11, x12, x13, rfl⟩ := hi
    obtain ⟨rfl, hlt⟩ := range_at hr
    exact law_turn t hlt fun x4 x5 x6 x7 x8 x9 x10 x11 x12 x13 => hn _ ⟨_, x4, x5, x6, x7, x8, x9, x10, x11, x12, x13, rfl⟩
  obtain ⟨x3, x4, x5, x6, x7, x8, x9, x10, x11, x12, x13, rfl⟩ := hi
  refine ⟨_, t.g.way, _, rfl, ?_⟩
  have ow : okW [6] (.lst (wayL.map .str)) = true := by decide +kernel
  exact (show cmpD .Eq (.lst (wayL.map .str)) (.lst (wayL.map .str)) _ from eq_selfW (by decide) ow q)
end
end DL

/-! the head: what stands before the law's call -/
namespace DL
open PySem PySem.Spec PyProof.Rows L2
def top (i : Nat) : Stmt := PySem.Challenge.pw_sayagainst_k33_whole_conditions_and_what.main.body.getD i (.Pass ⟨0, 0, 0, 0⟩)
abbrev s_is_claim : Stmt := top 10
abbrev s_rising : Stmt := top 11
abbrev s_all_labels : Stmt := top 14
abbrev s_inner_formulas : Stmt := top 22
abbrev s_measured : Stmt := top 23
abbrev s_is_formula : Stmt := top 24
abbrev s_check_conditions : Stmt := top 25
abbrev s_check_condition_way : Stmt := top 26
abbrev s_check_book_labels : Stmt := top 27
abbrev s_agrees : Stmt := top 29
abbrev s_known_condition_labels : Stmt := top 30
abbrev s_condition_labels : Stmt := top 31
abbrev s_labels_stand : Stmt := top 32
abbrev s__law_same : Stmt := top 34
abbrev s__law_stream : Stmt := top 35
abbrev s__law_next : Stmt := top 36
abbrev s__law_error : Stmt := top 37
abbrev s__law_claims : Stmt := top 38
abbrev s__law_subsets : Stmt := top 39
abbrev s__law_all_labels : Stmt := top 40
abbrev s__law_longer : Stmt := top 41
abbrev s__law_truths : Stmt := top 42
abbrev s__law_formula : Stmt := top 43
abbrev s__law_inner : Stmt := top 44
abbrev s__law_measure : Stmt := top 45
abbrev s__law_true : Stmt := top 46
abbrev s__law_conditions : Stmt := top 47
abbrev s__law_allowed : Stmt := top 48
abbrev s__law_next_labels : Stmt := top 49
abbrev s__law_agrees : Stmt := top 50
abbrev s__law_is_stable_model : Stmt := top 51
abbrev s__law_condition_labels : Stmt := top 52
abbrev s__law_told : Stmt := top 53
abbrev s_law : Stmt := top 54
abbrev s_Conditions___init__ : Stmt := inClass (top 28) 0
abbrev s_Conditions_holds : Stmt := inClass (top 28) 1
abbrev s_Conditions_allowed : Stmt := inClass (top 28) 2
abbrev s_Conditions_after : Stmt := inClass (top 28) 3
abbrev s_Conditions_least : Stmt := inClass (top 28) 4
abbrev s_Conditions_is_stable : Stmt := inClass (top 28) 5
def d_is_claim : He.DefD := ⟨("is_claim", none), "is_claim", "is_claim", defArgs s_is_claim, defBody s_is_claim, defScope s_is_claim, [], []⟩
def d_rising : He.DefD := ⟨("rising", none), "rising", "rising", defArgs s_rising, defBody s_rising, defScope s_rising, [], []⟩
def d_all_labels : He.DefD := ⟨("all_labels", none), "all_labels", "all_labels", defArgs s_all_labels, defBody s_all_labels, defScope s_all_labels, [], []⟩
def d_inner_formulas : He.DefD := ⟨("inner_formulas", none), "inner_formulas", "inner_formulas", defArgs s_inner_formulas, defBody s_inner_formulas, defScope s_inner_formulas, [], []⟩
def d_measured : He.DefD := ⟨("measured", none), "measured", "measured", defArgs s_measured, defBody s_measured, defScope s_measured, [], []⟩
def d_is_formula : He.DefD := ⟨("is_formula", none), "is_formula", "is_formula", defArgs s_is_formula, defBody s_is_formula, defScope s_is_formula, [], []⟩
def d_check_conditions : He.DefD := ⟨("check_conditions", none), "check_conditions", "check_conditions", defArgs s_check_conditions, defBody s_check_conditions, defScope s_check_conditions, [], []⟩
def d_check_condition_way : He.DefD := ⟨("check_condition_way", none), "check_condition_way", "check_condition_way", defArgs s_check_condition_way, defBody s_check_condition_way, defScope s_check_condition_way, [], []⟩
def d_check_book_labels : He.DefD := ⟨("check_book_labels", none), "check_book_labels", "check_book_labels", defArgs s_check_book_labels, defBody s_check_book_labels, defScope s_check_book_labels, [], []⟩
def d_agrees : He.DefD := ⟨("agrees", none), "agrees", "agrees", defArgs s_agrees, defBody s_agrees, defScope s_agrees, [], []⟩
def d_known_condition_labels : He.DefD := ⟨("known_condition_labels", none), "known_condition_labels", "known_condition_labels", defArgs s_known_condition_labels, defBody s_known_condition_labels, defScope s_known_condition_labels, [], []⟩
def d_condition_labels : He.DefD := ⟨("condition_labels", none), "condition_labels", "condition_labels", defArgs s_condition_labels, defBody s_condition_labels, defScope s_condition_labels, [], []⟩
def d_labels_stand : He.DefD := ⟨("labels_stand", none), "labels_stand", "labels_stand", defArgs s_labels_stand, defBody s_labels_stand, defScope s_labels_stand, [], []⟩
def d__law_same : He.DefD := ⟨("_law_same", none), "_law_same", "_law_same", defArgs s__law_same, defBody s__law_same, defScope s__law_same, [], []⟩
def d__law_stream : He.DefD := ⟨("_law_stream", none), "_law_stream", "_law_stream", defArgs s__law_stream, defBody s__law_stream, defScope s__law_stream, [], []⟩
def d__law_next : He.DefD := ⟨("_law_next", none), "_law_next", "_law_next", defArgs s__law_next, defBody s__law_next, defScope s__law_next, [], []⟩
def d__law_error : He.DefD := ⟨("_law_error", none), "_law_error", "_law_error", defArgs s__law_error, defBody s__law_error, defScope s__law_error, [], []⟩
def d__law_claims : He.DefD := ⟨("_law_claims", none), "_law_claims", "_law_claims", defArgs s__law_claims, defBody s__law_claims, defScope s__law_claims, [], []⟩
def d__law_subsets : He.DefD := ⟨("_law_subsets", none), "_law_subsets", "_law_subsets", defArgs s__law_subsets, defBody s__law_subsets, defScope s__law_subsets, [], []⟩
def d__law_all_labels : He.DefD := ⟨("_law_all_labels", none), "_law_all_labels", "_law_all_labels", defArgs s__law_all_labels, defBody s__law_all_labels, defScope s__law_all_labels, [], []⟩
def d__law_longer : He.DefD := ⟨("_law_longer", none), "_law_longer", "_law_longer", defArgs s__law_longer, defBody s__law_longer, defScope s__law_longer, [], []⟩
def d__law_truths : He.DefD := ⟨("_law_truths", none), "_law_truths", "_law_truths", defArgs s__law_truths, defBody s__law_truths, defScope s__law_truths, [], []⟩
def d__law_formula : He.DefD := ⟨("_law_formula", none), "_law_formula", "_law_formula", defArgs s__law_formula, defBody s__law_formula, defScope s__law_formula, [], []⟩
def d__law_inner : He.DefD := ⟨("_law_inner", none), "_law_inner", "_law_inner", defArgs s__law_inner, defBody s__law_inner, defScope s__law_inner, [], []⟩
def d__law_measure : He.DefD := ⟨("_law_measure", none), "_law_measure", "_law_measure", defArgs s__law_measure, defBody s__law_measure, defScope s__law_measure, [], []⟩
def d__law_true : He.DefD := ⟨("_law_true", none), "_law_true", "_law_true", defArgs s__law_true, defBody s__law_true, defScope s__law_true, [], []⟩
def d__law_conditions : He.DefD := ⟨("_law_conditions", none), "_law_conditions", "_law_conditions", defArgs s__law_conditions, defBody s__law_conditions, defScope s__law_conditions, [], []⟩
def d__law_allowed : He.DefD := ⟨("_law_allowed", none), "_law_allowed", "_law_allowed", defArgs s__law_allowed, defBody s__law_allowed, defScope s__law_allowed, [], []⟩
def d__law_next_labels : He.DefD := ⟨("_law_next_labels", none), "_law_next_labels", "_law_next_labels", defArgs s__law_next_labels, defBody s__law_next_labels, defScope s__law_next_labels, [], []⟩
def d__law_agrees : He.DefD := ⟨("_law_agrees", none), "_law_agrees", "_law_agrees", defArgs s__law_agrees, defBody s__law_agrees, defScope s__law_agrees, [], []⟩
def d__law_is_stable_model : He.DefD := ⟨("_law_is_stable_model", none), "_law_is_stable_model", "_law_is_stable_model", defArgs s__law_is_stable_model, defBody s__law_is_stable_model, defScope s__law_is_stable_model, [], []⟩
def d__law_condition_labels : He.DefD := ⟨("_law_condition_labels", none), "_law_condition_labels", "_law_condition_labels", defArgs s__law_condition_labels, defBody s__law_condition_labels, defScope s__law_condition_labels, [], []⟩
def d__law_told : He.DefD := ⟨("_law_told", none), "_law_told", "_law_told", defArgs s__law_told, defBody s__law_told, defScope s__law_told, [], []⟩
def d_law : He.DefD := ⟨("law", none), "law", "law", defArgs s_law, defBody s_law, defScope s_law, [], []⟩
def d_Conditions___init__ : He.DefD := ⟨("Conditions", some "__init__"), "__init__", "Conditions.__init__", defArgs s_Conditions___init__, defBody s_Conditions___init__, defScope s_Conditions___init__, [], []⟩
def d_Conditions_holds : He.DefD := ⟨("Conditions", some "holds"), "holds", "Conditions.holds", defArgs s_Conditions_holds, defBody s_Conditions_holds, defScope s_Conditions_holds, [], []⟩
def d_Conditions_allowed : He.DefD := ⟨("Conditions", some "allowed"), "allowed", "Conditions.allowed", defArgs s_Conditions_allowed, defBody s_Conditions_allowed, defScope s_Conditions_allowed, [], []⟩
def d_Conditions_after : He.DefD := ⟨("Conditions", some "after"), "after", "Conditions.after", defArgs s_Conditions_after, defBody s_Conditions_after, defScope s_Conditions_after, [], []⟩
def d_Conditions_least : He.DefD := ⟨("Conditions", some "least"), "least", "Conditions.least", defArgs s_Conditions_least, defBody s_Conditions_least, defScope s_Conditions_least, [], []⟩
def d_Conditions_is_stable : He.DefD := ⟨("Conditions", some "is_stable"), "is_stable", "Conditions.is_stable", defArgs s_Conditions_is_stable, defBody s_Conditions_is_stable, defScope s_Conditions_is_stable, [], []⟩
def fnH : List He.DefD := [d_is_claim, d_rising, d_all_labels, d_inner_formulas, d_measured, d_is_formula, d_check_conditions, d_check_condition_way, d_check_book_labels, d_agrees, d_known_condition_labels, d_condition_labels, d_labels_stand, d__law_same, d__law_stream, d__law_next, d__law_error, d__law_claims, d__law_subsets, d__law_all_labels, d__law_longer, d__law_truths, d__law_formula, d__law_inner, d__law_measure, d__law_true, d__law_conditions, d__law_allowed, d__law_next_labels, d__law_agrees, d__law_is_stable_model, d__law_condition_labels, d__law_told, d_law, d_Conditions___init__, d_Conditions_holds, d_Conditions_allowed, d_Conditions_after, d_Conditions_least, d_Conditions_is_stable]
def faH : List He.Fa := [.glo "is_claim", .glo "rising", .glo "all_labels", .glo "inner_formulas", .glo "measured", .glo "is_formula", .glo "check_conditions", .glo "check_condition_way", .glo "check_book_labels", .glo "agrees", .glo "known_condition_labels", .glo "condition_labels", .glo "labels_stand", .glo "_law_same", .glo "_law_stream", .glo "_law_next", .glo "_law_error", .glo "_law_claims", .glo "_law_subsets", .glo "_law_all_labels", .glo "_law_longer", .glo "_law_truths", .glo "_law_formula", .glo "_law_inner", .glo "_law_measure", .glo "_law_true", .glo "_law_conditions", .glo "_law_allowed", .glo "_law_next_labels", .glo "_law_agrees", .glo "_law_is_stable_model", .glo "_law_condition_labels", .glo "_law_told", .glo "law", .glo "SayError", .glo "NotAllowed", .glo "TooLarge", .glo "Missing", .glo "BadPaper", .glo "BadForm", .glo "Conditions", .exc "NotAllowed", .exc "TooLarge", .exc "Missing", .exc "BadPaper", .free "len", .free "all", .free "any", .free "sum", .free "max", .free "min", .free "abs", .free "int", .free "str", .free "repr", .free "sorted", .free "list", .free "tuple", .free "set", .free "range", .free "enumerate", .free "zip", .free "dict", .free "isinstance", .int "MAX_CONDITIONS" (6), .int "MAX_FORMULA" (60), .int "MAX_NESTED" (10), .str "FIRST" "abcdefghijklmnopqrstuvwxyz", .str "SIGNS" "abcdefghijklmnopqrstuvwxyz0123456789", .glo "LABELS", .glo "CONDITION_WAYS", .glo "PLAIN", .glo "SIZES", .cls "Conditions", .noat "Conditions" "order", .noat "Conditions" "many", .noat "Conditions" "choices", .noat "Conditions" "places", .noat "Conditions" "truths", .meth "Conditions" "holds", .meth "Conditions" "allowed", .meth "Conditions" "after", .meth "Conditions" "least", .meth "Conditions" "is_stable", .mkr "Conditions"]
def tsH : List TabM := [("SIZES", [("true", 1), ("false", 1), ("claim", 2), ("not", 2), ("and", 2), ("or", 2)])]
def exH (K : PySem.W.Frag) : Bool := errsB K && (He.tupB K "LABELS" [.str "in", .str "open", .str "out"] && (He.tupB K "CONDITION_WAYS" [.str "admissible", .str "complete", .str "grounded", .str "preferred", .str "model", .str "stable"] && (He.tupB K "PLAIN" [.str "true", .str "false"] && (tabB K ("SIZES", [("true", 1), ("false", 1), ("claim", 2), ("not", 2), ("and", 2), ("or", 2)])))))
abbrev RH : PySem.W.OpenRow := PySem.W.OpenLaw.row PySem.Challenge.rw_sayagainst_k33_whole_conditions_and_what
abbrev hkH : PySem.W.Hook := hookM 5 faH fnH exH tsH
def looseH : List PySem.Str := (["SayError", "NotAllowed", "TooLarge", "Missing", "BadPaper", "BadForm", "FIRST", "SIGNS", "is_claim", "rising", "LABELS", "all_labels", "MAX_CONDITIONS", "MAX_FORMULA", "MAX_NESTED", "CONDITION_WAYS", "PLAIN", "SIZES", "inner_formulas", "measured", "is_formula", "check_conditions", "check_condition_way", "check_book_labels", "Conditions", "agrees", "known_condition_labels", "condition_labels", "labels_stand", "_law_same"] : List PySem.Str) ++ (["_law_stream", "_law_next", "_law_error", "_law_claims", "_law_subsets", "_law_all_labels", "_law_longer", "_law_truths", "_law_formula", "_law_inner", "_law_measure", "_law_true", "_law_conditions", "_law_allowed", "_law_next_labels", "_law_agrees", "_law_is_stable_model", "_law_condition_labels", "_law_told"] : List PySem.Str)
def obH (s : PySem.W.SharedT) : AlM := obsMG 5 faH fnH exH tsH (HandSHeadRun.getT s)
theorem obH_eq (s : PySem.W.SharedT) : obH s = hkH.obs s.abs := obsM_eq (HandSHeadRun.getT_eq s)

theorem runH (w : World) : HandSHeadRun.RunEq RH (PySem.W.view RH.prog [54]) hkH obH 6000 looseH w :=
  PySem.W.byRow2 "special-get-raises" (P := fun w => HandSHeadRun.RunEq RH (PySem.W.view RH.prog [54]) hkH obH 6000 looseH w) (fun w os => by kernel_rfl) (fun w os => by kernel_rfl) w
section
variable {K : PySem.W.Frag} {h : Heap} {mg : Str → Option Value} (X : K.In h) (G : h.Ns mainGlobals mg) (c : He.SaysD faH fnH K)
include X G c
theorem g_is_claim : mg "is_claim" = some (.ref (He.ga K "is_claim")) := He.glo_ok X G (c.fact 0 (f := .glo "is_claim") rfl)
theorem g_rising : mg "rising" = some (.ref (He.ga K "rising")) := He.glo_ok X G (c.fact 1 (f := .glo "rising") rfl)
theorem g_all_labels : mg "all_labels" = some (.ref (He.ga K "all_labels")) := He.glo_ok X G (c.fact 2 (f := .glo "all_labels") rfl)
theorem g_inner_formulas : mg "inner_formulas" = some (.ref (He.ga K "inner_formulas")) := He.glo_ok X G (c.fact 3 (f := .glo "inner_formulas") rfl)
theorem g_measured : mg "measured" = some (.ref (He.ga K "measured")) := He.glo_ok X G (c.fact 4 (f := .glo "measured") rfl)
theorem g_is_formula : mg "is_formula" = some (.ref (He.ga K "is_formula")) := He.glo_ok X G (c.fact 5 (f := .glo "is_formula") rfl)
theorem g_check_conditions : mg "check_conditions" = some (.ref (He.ga K "check_conditions")) := He.glo_ok X G (c.fact 6 (f := .glo "check_conditions") rfl)
theorem g_check_condition_way : mg "check_condition_way" = some (.ref (He.ga K "check_condition_way")) := He.glo_ok X G (c.fact 7 (f := .glo "check_condition_way") rfl)
theorem g_check_book_labels : mg "check_book_labels" = some (.ref (He.ga K "check_book_labels")) := He.glo_ok X G (c.fact 8 (f := .glo "check_book_labels") rfl)
theorem g_agrees : mg "agrees" = some (.ref (He.ga K "agrees")) := He.glo_ok X G (c.fact 9 (f := .glo "agrees") rfl)
theorem g_known_condition_labels : mg "known_condition_labels" = some (.ref (He.ga K "known_condition_labels")) := He.glo_ok X G (c.fact 10 (f := .glo "known_condition_labels") rfl)
theorem g_condition_labels : mg "condition_labels" = some (.ref (He.ga K "condition_labels")) := He.glo_ok X G (c.fact 11 (f := .glo "condition_labels") rfl)
theorem g_labels_stand : mg "labels_stand" = some (.ref (He.ga K "labels_stand")) := He.glo_ok X G (c.fact 12 (f := .glo "labels_stand") rfl)
theorem g__law_same : mg "_law_same" = some (.ref (He.ga K "_law_same")) := He.glo_ok X G (c.fact 13 (f := .glo "_law_same") rfl)
theorem g__law_stream : mg "_law_stream" = some (.ref (He.ga K "_law_stream")) := He.glo_ok X G (c.fact 14 (f := .glo "_law_stream") rfl)
theorem g__law_next : mg "_law_next" = some (.ref (He.ga K "_law_next")) := He.glo_ok X G (c.fact 15 (f := .glo "_law_next") rfl)
theorem g__law_error : mg "_law_error" = some (.ref (He.ga K "_law_error")) := He.glo_ok X G (c.fact 16 (f := .glo "_law_error") rfl)
theorem g__law_claims : mg "_law_claims" = some (.ref (He.ga K "_law_claims")) := He.glo_ok X G (c.fact 17 (f := .glo "_law_claims") rfl)
theorem g__law_subsets : mg "_law_subsets" = some (.ref (He.ga K "_law_subsets")) := He.glo_ok X G (c.fact 18 (f := .glo "_law_subsets") rfl)
theorem g__law_all_labels : mg "_law_all_labels" = some (.ref (He.ga K "_law_all_labels")) := He.glo_ok X G (c.fact 19 (f := .glo "_law_all_labels") rfl)
theorem g__law_longer : mg "_law_longer" = some (.ref (He.ga K "_law_longer")) := He.glo_ok X G (c.fact 20 (f := .glo "_law_longer") rfl)
theorem g__law_truths : mg "_law_truths" = some (.ref (He.ga K "_law_truths")) := He.glo_ok X G (c.fact 21 (f := .glo "_law_truths") rfl)
theorem g__law_formula : mg "_law_formula" = some (.ref (He.ga K "_law_formula")) := He.glo_ok X G (c.fact 22 (f := .glo "_law_formula") rfl)
theorem g__law_inner : mg "_law_inner" = some (.ref (He.ga K "_law_inner")) := He.glo_ok X G (c.fact 23 (f := .glo "_law_inner") rfl)
theorem g__law_measure : mg "_law_measure" = some (.ref (He.ga K "_law_measure")) := He.glo_ok X G (c.fact 24 (f := .glo "_law_measure") rfl)
theorem g__law_true : mg "_law_true" = some (.ref (He.ga K "_law_true")) := He.glo_ok X G (c.fact 25 (f := .glo "_law_true") rfl)
theorem g__law_conditions : mg "_law_conditions" = some (.ref (He.ga K "_law_conditions")) := He.glo_ok X G (c.fact 26 (f := .glo "_law_conditions") rfl)
theorem g__law_allowed : mg "_law_allowed" = some (.ref (He.ga K "_law_allowed")) := He.glo_ok X G (c.fact 27 (f := .glo "_law_allowed") rfl)
theorem g__law_next_labels : mg "_law_next_labels" = some (.ref (He.ga K "_law_next_labels")) := He.glo_ok X G (c.fact 28 (f := .glo "_law_next_labels") rfl)
theorem g__law_agrees : mg "_law_agrees" = some (.ref (He.ga K "_law_agrees")) := He.glo_ok X G (c.fact 29 (f := .glo "_law_agrees") rfl)
theorem g__law_is_stable_model : mg "_law_is_stable_model" = some (.ref (He.ga K "_law_is_stable_model")) := He.glo_ok X G (c.fact 30 (f := .glo "_law_is_stable_model") rfl)
theorem g__law_condition_labels : mg "_law_condition_labels" = some (.ref (He.ga K "_law_condition_labels")) := He.glo_ok X G (c.fact 31 (f := .glo "_law_condition_labels") rfl)
theorem g__law_told : mg "_law_told" = some (.ref (He.ga K "_law_told")) := He.glo_ok X G (c.fact 32 (f := .glo "_law_told") rfl)
theorem g_law : mg "law" = some (.ref (He.ga K "law")) := He.glo_ok X G (c.fact 33 (f := .glo "law") rfl)
theorem g_SayError : mg "SayError" = some (.ref (He.ga K "SayError")) := He.glo_ok X G (c.fact 34 (f := .glo "SayError") rfl)
theorem g_NotAllowed : mg "NotAllowed" = some (.ref (He.ga K "NotAllowed")) := He.glo_ok X G (c.fact 35 (f := .glo "NotAllowed") rfl)
theorem g_TooLarge : mg "TooLarge" = some (.ref (He.ga K "TooLarge")) := He.glo_ok X G (c.fact 36 (f := .glo "TooLarge") rfl)
theorem g_Missing : mg "Missing" = some (.ref (He.ga K "Missing")) := He.glo_ok X G (c.fact 37 (f := .glo "Missing") rfl)
theorem g_BadPaper : mg "BadPaper" = some (.ref (He.ga K "BadPaper")) := He.glo_ok X G (c.fact 38 (f := .glo "BadPaper") rfl)
theorem g_BadForm : mg "BadForm" = some (.ref (He.ga K "BadForm")) := He.glo_ok X G (c.fact 39 (f := .glo "BadForm") rfl)
theorem g_Conditions : mg "Conditions" = some (.ref (He.ga K "Conditions")) := He.glo_ok X G (c.fact 40 (f := .glo "Conditions") rfl)
theorem g_LABELS : mg "LABELS" = some (.ref (He.ga K "LABELS")) := He.glo_ok X G (c.fact 69 (f := .glo "LABELS") rfl)
theorem g_CONDITION_WAYS : mg "CONDITION_WAYS" = some (.ref (He.ga K "CONDITION_WAYS")) := He.glo_ok X G (c.fact 70 (f := .glo "CONDITION_WAYS") rfl)
theorem g_PLAIN : mg "PLAIN" = some (.ref (He.ga K "PLAIN")) := He.glo_ok X G (c.fact 71 (f := .glo "PLAIN") rfl)
theorem g_SIZES : mg "SIZES" = some (.ref (He.ga K "SIZES")) := He.glo_ok X G (c.fact 72 (f := .glo "SIZES") rfl)
theorem x_NotAllowed : ExcD K mg "NotAllowed" := excD_of X G (c.fact 35 (f := .glo "NotAllowed") rfl) (c.fact 41 (f := .exc "NotAllowed") rfl)
theorem x_TooLarge : ExcD K mg "TooLarge" := excD_of X G (c.fact 36 (f := .glo "TooLarge") rfl) (c.fact 42 (f := .exc "TooLarge") rfl)
theorem x_Missing : ExcD K mg "Missing" := excD_of X G (c.fact 37 (f := .glo "Missing") rfl) (c.fact 43 (f := .exc "Missing") rfl)
theorem x_BadPaper : ExcD K mg "BadPaper" := excD_of X G (c.fact 38 (f := .glo "BadPaper") rfl) (c.fact 44 (f := .exc "BadPaper") rfl)
theorem f_len : mg "len" = none := He.free_ok X G (c.fact 45 (f := .free "len") rfl)
theorem f_all : mg "all" = none := He.free_ok X G (c.fact 46 (f := .free "all") rfl)
theorem f_any : mg "any" = none := He.free_ok X G (c.fact 47 (f := .free "any") rfl)
theorem f_sum : mg "sum" = none := He.free_ok X G (c.fact 48 (f := .free "sum") rfl)
theorem f_max : mg "max" = none := He.free_ok X G (c.fact 49 (f := .free "max") rfl)
theorem f_min : mg "min" = none := He.free_ok X G (c.fact 50 (f := .free "min") rfl)
theorem f_abs : mg "abs" = none := He.free_ok X G (c.fact 51 (f := .free "abs") rfl)
theorem f_int : mg "int" = none := He.free_ok X G (c.fact 52 (f := .free "int") rfl)
theorem f_str : mg "str" = none := He.free_ok X G (c.fact 53 (f := .free "str") rfl)
theorem f_repr : mg "repr" = none := He.free_ok X G (c.fact 54 (f := .free "repr") rfl)
theorem f_sorted : mg "sorted" = none := He.free_ok X G (c.fact 55 (f := .free "sorted") rfl)
theorem f_list : mg "list" = none := He.free_ok X G (c.fact 56 (f := .free "list") rfl)
theorem f_tuple : mg "tuple" = none := He.free_ok X G (c.fact 57 (f := .free "tuple") rfl)
theorem f_set : mg "set" = none := He.free_ok X G (c.fact 58 (f := .free "set") rfl)
theorem f_range : mg "range" = none := He.free_ok X G (c.fact 59 (f := .free "range") rfl)
theorem f_enumerate : mg "enumerate" = none := He.free_ok X G (c.fact 60 (f := .free "enumerate") rfl)
theorem f_zip : mg "zip" = none := He.free_ok X G (c.fact 61 (f := .free "zip") rfl)
theorem f_dict : mg "dict" = none := He.free_ok X G (c.fact 62 (f := .free "dict") rfl)
theorem f_isinstance : mg "isinstance" = none := He.free_ok X G (c.fact 63 (f := .free "isinstance") rfl)
theorem g_MAX_CONDITIONS : ∃ t, mg "MAX_CONDITIONS" = some (.int (6) t) := He.int_ok X G (c.fact 64 (f := .int "MAX_CONDITIONS" (6)) rfl)
theorem g_MAX_FORMULA : ∃ t, mg "MAX_FORMULA" = some (.int (60) t) := He.int_ok X G (c.fact 65 (f := .int "MAX_FORMULA" (60)) rfl)
theorem g_MAX_NESTED : ∃ t, mg "MAX_NESTED" = some (.int (10) t) := He.int_ok X G (c.fact 66 (f := .int "MAX_NESTED" (10)) rfl)
theorem g_FIRST : ∃ t, mg "FIRST" = some (.str "abcdefghijklmnopqrstuvwxyz" t) := He.str_ok X G (c.fact 67 (f := .str "FIRST" "abcdefghijklmnopqrstuvwxyz") rfl)
theorem g_SIGNS : ∃ t, mg "SIGNS" = some (.str "abcdefghijklmnopqrstuvwxyz0123456789" t) := He.str_ok X G (c.fact 68 (f := .str "SIGNS" "abcdefghijklmnopqrstuvwxyz0123456789") rfl)
omit X G
theorem F_is_claim : ∃ fd, FunD K "is_claim" "is_claim" (defArgs s_is_claim) (defBody s_is_claim) (defScope s_is_claim) [] [] (He.ga K "is_claim") fd := c.def_ 0 (d := d_is_claim) rfl
theorem F_rising : ∃ fd, FunD K "rising" "rising" (defArgs s_rising) (defBody s_rising) (defScope s_rising) [] [] (He.ga K "rising") fd := c.def_ 1 (d := d_rising) rfl
theorem F_all_labels : ∃ fd, FunD K "all_labels" "all_labels" (defArgs s_all_labels) (defBody s_all_labels) (defScope s_all_labels) [] [] (He.ga K "all_labels") fd := c.def_ 2 (d := d_all_labels) rfl
theorem F_inner_formulas : ∃ fd, FunD K "inner_formulas" "inner_formulas" (defArgs s_inner_formulas) (defBody s_inner_formulas) (defScope s_inner_formulas) [] [] (He.ga K "inner_formulas") fd := c.def_ 3 (d := d_inner_formulas) rfl
theorem F_measured : ∃ fd, FunD K "measured" "measured" (defArgs s_measured) (defBody s_measured) (defScope s_measured) [] [] (He.ga K "measured") fd := c.def_ 4 (d := d_measured) rfl
theorem F_is_formula : ∃ fd, FunD K "is_formula" "is_formula" (defArgs s_is_formula) (defBody s_is_formula) (defScope s_is_formula) [] [] (He.ga K "is_formula") fd := c.def_ 5 (d := d_is_formula) rfl
theorem F_check_conditions : ∃ fd, FunD K "check_conditions" "check_conditions" (defArgs s_check_conditions) (defBody s_check_conditions) (defScope s_check_conditions) [] [] (He.ga K "check_conditions") fd := c.def_ 6 (d := d_check_conditions) rfl
theorem F_check_condition_way : ∃ fd, FunD K "check_condition_way" "check_condition_way" (defArgs s_check_condition_way) (defBody s_check_condition_way) (defScope s_check_condition_way) [] [] (He.ga K "check_condition_way") fd := c.def_ 7 (d := d_check_condition_way) rfl
theorem F_check_book_labels : ∃ fd, FunD K "check_book_labels" "check_book_labels" (defArgs s_check_book_labels) (defBody s_check_book_labels) (defScope s_check_book_labels) [] [] (He.ga K "check_book_labels") fd := c.def_ 8 (d := d_check_book_labels) rfl
theorem F_agrees : ∃ fd, FunD K "agrees" "agrees" (defArgs s_agrees) (defBody s_agrees) (defScope s_agrees) [] [] (He.ga K "agrees") fd := c.def_ 9 (d := d_agrees) rfl
theorem F_known_condition_labels : ∃ fd, FunD K "known_condition_labels" "known_condition_labels" (defArgs s_known_condition_labels) (defBody s_known_condition_labels) (defScope s_known_condition_labels) [] [] (He.ga K "known_condition_labels") fd := c.def_ 10 (d := d_known_condition_labels) rfl
theorem F_condition_labels : ∃ fd, FunD K "condition_labels" "condition_labels" (defArgs s_condition_labels) (defBody s_condition_labels) (defScope s_condition_labels) [] [] (He.ga K "condition_labels") fd := c.def_ 11 (d := d_condition_labels) rfl
theorem F_labels_stand : ∃ fd, FunD K "labels_stand" "labels_stand" (defArgs s_labels_stand) (defBody s_labels_stand) (defScope s_labels_stand) [] [] (He.ga K "labels_stand") fd := c.def_ 12 (d := d_labels_stand) rfl
theorem F__law_same : ∃ fd, FunD K "_law_same" "_law_same" (defArgs s__law_same) (defBody s__law_same) (defScope s__law_same) [] [] (He.ga K "_law_same") fd := c.def_ 13 (d := d__law_same) rfl
theorem F__law_stream : ∃ fd, FunD K "_law_stream" "_law_stream" (defArgs s__law_stream) (defBody s__law_stream) (defScope s__law_stream) [] [] (He.ga K "_law_stream") fd := c.def_ 14 (d := d__law_stream) rfl
theorem F__law_next : ∃ fd, FunD K "_law_next" "_law_next" (defArgs s__law_next) (defBody s__law_next) (defScope s__law_next) [] [] (He.ga K "_law_next") fd := c.def_ 15 (d := d__law_next) rfl
theorem F__law_error : ∃ fd, FunD K "_law_error" "_law_error" (defArgs s__law_error) (defBody s__law_error) (defScope s__law_error) [] [] (He.ga K "_law_error") fd := c.def_ 16 (d := d__law_error) rfl
theorem F__law_claims : ∃ fd, FunD K "_law_claims" "_law_claims" (defArgs s__law_claims) (defBody s__law_claims) (defScope s__law_claims) [] [] (He.ga K "_law_claims") fd := c.def_ 17 (d := d__law_claims) rfl
theorem F__law_subsets : ∃ fd, FunD K "_law_subsets" "_law_subsets" (defArgs s__law_subsets) (defBody s__law_subsets) (defScope s__law_subsets) [] [] (He.ga K "_law_subsets") fd := c.def_ 18 (d := d__law_subsets) rfl
theorem F__law_all_labels : ∃ fd, FunD K "_law_all_labels" "_law_all_labels" (defArgs s__law_all_labels) (defBody s__law_all_labels) (defScope s__law_all_labels) [] [] (He.ga K "_law_all_labels") fd := c.def_ 19 (d := d__law_all_labels) rfl
theorem F__law_longer : ∃ fd, FunD K "_law_longer" "_law_longer" (defArgs s__law_longer) (defBody s__law_longer) (defScope s__law_longer) [] [] (He.ga K "_law_longer") fd := c.def_ 20 (d := d__law_longer) rfl
theorem F__law_truths : ∃ fd, FunD K "_law_truths" "_law_truths" (defArgs s__law_truths) (defBody s__law_truths) (defScope s__law_truths) [] [] (He.ga K "_law_truths") fd := c.def_ 21 (d := d__law_truths) rfl
theorem F__law_formula : ∃ fd, FunD K "_law_formula" "_law_formula" (defArgs s__law_formula) (defBody s__law_formula) (defScope s__law_formula) [] [] (He.ga K "_law_formula") fd := c.def_ 22 (d := d__law_formula) rfl
theorem F__law_inner : ∃ fd, FunD K "_law_inner" "_law_inner" (defArgs s__law_inner) (defBody s__law_inner) (defScope s__law_inner) [] [] (He.ga K "_law_inner") fd := c.def_ 23 (d := d__law_inner) rfl
theorem F__law_measure : ∃ fd, FunD K "_law_measure" "_law_measure" (defArgs s__law_measure) (defBody s__law_measure) (defScope s__law_measure) [] [] (He.ga K "_law_measure") fd := c.def_ 24 (d := d__law_measure) rfl
theorem F__law_true : ∃ fd, FunD K "_law_true" "_law_true" (defArgs s__law_true) (defBody s__law_true) (defScope s__law_true) [] [] (He.ga K "_law_true") fd := c.def_ 25 (d := d__law_true) rfl
theorem F__law_conditions : ∃ fd, FunD K "_law_conditions" "_law_conditions" (defArgs s__law_conditions) (defBody s__law_conditions) (defScope s__law_conditions) [] [] (He.ga K "_law_conditions") fd := c.def_ 26 (d := d__law_conditions) rfl
theorem F__law_allowed : ∃ fd, FunD K "_law_allowed" "_law_allowed" (defArgs s__law_allowed) (defBody s__law_allowed) (defScope s__law_allowed) [] [] (He.ga K "_law_allowed") fd := c.def_ 27 (d := d__law_allowed) rfl
theorem F__law_next_labels : ∃ fd, FunD K "_law_next_labels" "_law_next_labels" (defArgs s__law_next_labels) (defBody s__law_next_labels) (defScope s__law_next_labels) [] [] (He.ga K "_law_next_labels") fd := c.def_ 28 (d := d__law_next_labels) rfl
theorem F__law_agrees : ∃ fd, FunD K "_law_agrees" "_law_agrees" (defArgs s__law_agrees) (defBody s__law_agrees) (defScope s__law_agrees) [] [] (He.ga K "_law_agrees") fd := c.def_ 29 (d := d__law_agrees) rfl
theorem F__law_is_stable_model : ∃ fd, FunD K "_law_is_stable_model" "_law_is_stable_model" (defArgs s__law_is_stable_model) (defBody s__law_is_stable_model) (defScope s__law_is_stable_model) [] [] (He.ga K "_law_is_stable_model") fd := c.def_ 30 (d := d__law_is_stable_model) rfl
theorem F__law_condition_labels : ∃ fd, FunD K "_law_condition_labels" "_law_condition_labels" (defArgs s__law_condition_labels) (defBody s__law_condition_labels) (defScope s__law_condition_labels) [] [] (He.ga K "_law_condition_labels") fd := c.def_ 31 (d := d__law_condition_labels) rfl
theorem F__law_told : ∃ fd, FunD K "_law_told" "_law_told" (defArgs s__law_told) (defBody s__law_told) (defScope s__law_told) [] [] (He.ga K "_law_told") fd := c.def_ 32 (d := d__law_told) rfl
theorem F_law : ∃ fd, FunD K "law" "law" (defArgs s_law) (defBody s_law) (defScope s_law) [] [] (He.ga K "law") fd := c.def_ 33 (d := d_law) rfl
theorem F_Conditions___init__ : ∃ fd, FunD K "__init__" "Conditions.__init__" (defArgs s_Conditions___init__) (defBody s_Conditions___init__) (defScope s_Conditions___init__) [] [] (He.ma K (He.ga K "Conditions") "__init__") fd := c.def_ 34 (d := d_Conditions___init__) rfl
theorem F_Conditions_holds : ∃ fd, FunD K "holds" "Conditions.holds" (defArgs s_Conditions_holds) (defBody s_Conditions_holds) (defScope s_Conditions_holds) [] [] (He.ma K (He.ga K "Conditions") "holds") fd := c.def_ 35 (d := d_Conditions_holds) rfl
theorem F_Conditions_allowed : ∃ fd, FunD K "allowed" "Conditions.allowed" (defArgs s_Conditions_allowed) (defBody s_Conditions_allowed) (defScope s_Conditions_allowed) [] [] (He.ma K (He.ga K "Conditions") "allowed") fd := c.def_ 36 (d := d_Conditions_allowed) rfl
theorem F_Conditions_after : ∃ fd, FunD K "after" "Conditions.after" (defArgs s_Conditions_after) (defBody s_Conditions_after) (defScope s_Conditions_after) [] [] (He.ma K (He.ga K "Conditions") "after") fd := c.def_ 37 (d := d_Conditions_after) rfl
theorem F_Conditions_least : ∃ fd, FunD K "least" "Conditions.least" (defArgs s_Conditions_least) (defBody s_Conditions_least) (defScope s_Conditions_least) [] [] (He.ma K (He.ga K "Conditions") "least") fd := c.def_ 38 (d := d_Conditions_least) rfl
theorem F_Conditions_is_stable : ∃ fd, FunD K "is_stable" "Conditions.is_stable" (defArgs s_Conditions_is_stable) (defBody s_Conditions_is_stable) (defScope s_Conditions_is_stable) [] [] (He.ma K (He.ga K "Conditions") "is_stable") fd := c.def_ 39 (d := d_Conditions_is_stable) rfl
theorem cl_Conditions : Cls K (He.ga K "Conditions") := He.cls_ok (c.fact 73 (f := .cls "Conditions") rfl)
theorem na_Conditions_order : NoAttr K (He.ga K "Conditions") "order" := He.noat_ok (c.fact 74 (f := .noat "Conditions" "order") rfl)
theorem na_Conditions_many : NoAttr K (He.ga K "Conditions") "many" := He.noat_ok (c.fact 75 (f := .noat "Conditions" "many") rfl)
theorem na_Conditions_choices : NoAttr K (He.ga K "Conditions") "choices" := He.noat_ok (c.fact 76 (f := .noat "Conditions" "choices") rfl)
theorem na_Conditions_places : NoAttr K (He.ga K "Conditions") "places" := He.noat_ok (c.fact 77 (f := .noat "Conditions" "places") rfl)
theorem na_Conditions_truths : NoAttr K (He.ga K "Conditions") "truths" := He.noat_ok (c.fact 78 (f := .noat "Conditions" "truths") rfl)
theorem me_Conditions_holds : Meth K (He.ga K "Conditions") "holds" (He.ma K (He.ga K "Conditions") "holds") := He.meth_ok (c.fact 79 (f := .meth "Conditions" "holds") rfl)
theorem me_Conditions_allowed : Meth K (He.ga K "Conditions") "allowed" (He.ma K (He.ga K "Conditions") "allowed") := He.meth_ok (c.fact 80 (f := .meth "Conditions" "allowed") rfl)
theorem me_Conditions_after : Meth K (He.ga K "Conditions") "after" (He.ma K (He.ga K "Conditions") "after") := He.meth_ok (c.fact 81 (f := .meth "Conditions" "after") rfl)
theorem me_Conditions_least : Meth K (He.ga K "Conditions") "least" (He.ma K (He.ga K "Conditions") "least") := He.meth_ok (c.fact 82 (f := .meth "Conditions" "least") rfl)
theorem me_Conditions_is_stable : Meth K (He.ga K "Conditions") "is_stable" (He.ma K (He.ga K "Conditions") "is_stable") := He.meth_ok (c.fact 83 (f := .meth "Conditions" "is_stable") rfl)
theorem mk_Conditions : Mk K (He.ga K "Conditions") (He.ma K (He.ga K "Conditions") "__init__") := He.mkr_ok (c.fact 84 (f := .mkr "Conditions") rfl)
end
def globH (x : Str) : Option D := if x = "MAX_CONDITIONS" then some (.int (6)) else if x = "MAX_FORMULA" then some (.int (60)) else if x = "MAX_NESTED" then some (.int (10)) else if x = "FIRST" then some (.str "abcdefghijklmnopqrstuvwxyz") else if x = "SIGNS" then some (.str "abcdefghijklmnopqrstuvwxyz0123456789") else if x = "LABELS" then some (.kt [.str "in", .str "open", .str "out"]) else if x = "CONDITION_WAYS" then some (.kt [.str "admissible", .str "complete", .str "grounded", .str "preferred", .str "model", .str "stable"]) else if x = "PLAIN" then some (.kt [.str "true", .str "false"]) else none
def excH (x : Str) : Bool := decide (x = "NotAllowed") || decide (x = "TooLarge") || decide (x = "Missing") || decide (x = "BadPaper")
def tabH (x : Str) : Option (List (Str × Int)) := if x = "SIZES" then some ((("SIZES", [("true", 1), ("false", 1), ("claim", 2), ("not", 2), ("and", 2), ("or", 2)]) : TabM)).2 else none
def fldH (c f : Str) : Bool := if c = "Conditions" ∧ f = "order" then true else if c = "Conditions" ∧ f = "many" then true else if c = "Conditions" ∧ f = "choices" then true else if c = "Conditions" ∧ f = "places" then true else if c = "Conditions" ∧ f = "truths" then true else false
end DL

/-! S0: the tables, the texts checked, the parts joined -/
namespace DL
open PySem PySem.Spec PyProof.Rows L2
def T0 : Tb := { fn := fun _ => none, meth := fun _ _ => none, new := fun _ => none, glob := globH, exc := excH, err := true, fld := fldH, tab := tabH }
theorem Glc.add {T : Tb} (g : Glc T) {f : Str} {e : Ent} : Glc (T.add f e) := ⟨g.first, g.signs, g.mco, g.mfo, g.mne, g.way, g.pla, g.lab, g.siz⟩
theorem Glc.addMeth {T : Tb} (g : Glc T) {c m : Str} {e : Ent} : Glc (T.addMeth c m e) := ⟨g.first, g.signs, g.mco, g.mfo, g.mne, g.way, g.pla, g.lab, g.siz⟩
theorem Glc.addNew {T : Tb} (g : Glc T) {c : Str} {e : Ent} : Glc (T.addNew c e) := ⟨g.first, g.signs, g.mco, g.mfo, g.mne, g.way, g.pla, g.lab, g.siz⟩
theorem G0 : Glc T0 := ⟨by kernel_rfl, by kernel_rfl, by kernel_rfl, by kernel_rfl, by kernel_rfl, by kernel_rfl, by kernel_rfl, by kernel_rfl, by kernel_rfl⟩
theorem sc_is_claim : scB n_is_claim ["text"] (defScope s_is_claim) = true := by kernel_rfl
theorem ck_is_claim : mSs T0 n_is_claim o_is_claim (defScope s_is_claim) b_is_claim (defBody s_is_claim) = true := by kernel_rfl
theorem p_is_claim (ds : List D) (Q : DK) (X : EK) (h : mClaim ds Q X) : wpF T0 n_is_claim.length b_is_claim ds Q X := pl_claim G0.first G0.signs ds Q X h
def T1 : Tb := T0.add "is_claim" ⟨2, 1, dcSs T0 b_is_claim, mClaim⟩
theorem G1 : Glc T1 := G0.add
theorem sc_rising : scB n_rising ["row"] (defScope s_rising) = true := by kernel_rfl
theorem ck_rising : mSs T1 n_rising o_rising (defScope s_rising) b_rising (defBody s_rising) = true := by kernel_rfl
theorem p_rising (ds : List D) (Q : DK) (X : EK) (h : mRising ds Q X) : wpF T1 n_rising.length b_rising ds Q X := pl_rising ds Q X h
def T2 : Tb := T1.add "rising" ⟨3, 1, dcSs T1 b_rising, mRising⟩
theorem G2 : Glc T2 := G1.add
theorem sc_all_labels : scB n_all_labels ["many"] (defScope s_all_labels) = true := by kernel_rfl
theorem ck_all_labels : mSs T2 n_all_labels o_all_labels (defScope s_all_labels) b_all_labels (defBody s_all_labels) = true := by kernel_rfl
theorem p_all_labels (ds : List D) (Q : DK) (X : EK) (h : mAll ds Q X) : wpF T2 n_all_labels.length b_all_labels ds Q X := pl_all G2 ds Q X h
def T3 : Tb := T2.add "all_labels" ⟨4, 1, dcSs T2 b_all_labels, mAll⟩
theorem G3 : Glc T3 := G2.add
theorem sc_inner_formulas : scB n_inner_formulas ["formula"] (defScope s_inner_formulas) = true := by kernel_rfl
theorem ck_inner_formulas : mSs T3 n_inner_formulas o_inner_formulas (defScope s_inner_formulas) b_inner_formulas (defBody s_inner_formulas) = true := by kernel_rfl
theorem p_inner_formulas (ds : List D) (Q : DK) (X : EK) (h : mInner ds Q X) : wpF T3 n_inner_formulas.length b_inner_formulas ds Q X := pl_inner ds Q X h
def T4 : Tb := T3.add "inner_formulas" ⟨5, 1, dcSs T3 b_inner_formulas, mInner⟩
theorem G4 : Glc T4 := G3.add
theorem sc_measured : scB n_measured ["formula"] (defScope s_measured) = true := by kernel_rfl
theorem ck_measured (e : Ent) : mSs (T4.add "measured" e) n_measured o_measured (defScope s_measured) b_measured (defBody s_measured) = true := by kernel_rfl
def c_measured : Nat → Nat
  | 0 => 0
  | n + 1 => dcSs (T4.add "measured" ⟨0, 1, c_measured n, fun _ _ _ => False⟩) b_measured
theorem k_measured (n k : Nat) (sp : DSp) : dcSs (T4.add "measured" ⟨k, 1, c_measured n, sp⟩) b_measured = c_measured (n + 1) := by kernel_rfl
theorem z_measured (ds : List D) (Q : DK) (X : EK) (h : mMeas 0 ds Q X) : False := by
  unfold mMeas at h
  simp at h
theorem h_measured_inner_formulas (n k : Nat) : Has (T4.add "measured" ⟨k, 1, c_measured n, mMeas n⟩) "inner_formulas" 1 mInner := ⟨5, dcSs T3 b_inner_formulas, by kernel_rfl⟩
theorem h_measured_measured (n k : Nat) : Has (T4.add "measured" ⟨k, 1, c_measured n, mMeas n⟩) "measured" 1 (mMeas n) := ⟨k, c_measured n, by kernel_rfl⟩
theorem p_measured (n k : Nat) (ds : List D) (Q : DK) (X : EK) (h : mMeas (n + 1) ds Q X) : wpF (T4.add "measured" ⟨k, 1, c_measured n, mMeas n⟩) n_measured.length b_measured ds Q X := pl_meas (h_measured_inner_formulas n k) (h_measured_measured n k) ds Q X h
def T5 : Tb := T4.add "measured" ⟨18, 1, c_measured 12, (mMeas 12)⟩
theorem G5 : Glc T5 := G4.add
theorem sc_is_formula : scB n_is_formula ["formula", "claims"] (defScope s_is_formula) = true := by kernel_rfl
theorem ck_is_formula (e : Ent) : mSs (T5.add "is_formula" e) n_is_formula o_is_formula (defScope s_is_formula) b_is_formula (defBody s_is_formula) = true := by kernel_rfl
def c_is_formula : Nat → Nat
  | 0 => 0
  | n + 1 => dcSs (T5.add "is_formula" ⟨0, 2, c_is_formula n, fun _ _ _ => False⟩) b_is_formula
theorem k_is_formula (n k : Nat) (sp : DSp) : dcSs (T5.add "is_formula" ⟨k, 2, c_is_formula n, sp⟩) b_is_formula = c_is_formula (n + 1) := by kernel_rfl
theorem z_is_formula (ds : List D) (Q : DK) (X : EK) (h : mIsF 0 ds Q X) : False := by
  unfold mIsF at h
  simp at h
theorem h_is_formula_inner_formulas (n k : Nat) : Has (T5.add "is_formula" ⟨k, 2, c_is_formula n, mIsF n⟩) "inner_formulas" 1 mInner := ⟨5, dcSs T3 b_inner_formulas, by kernel_rfl⟩
theorem h_is_formula_is_formula (n k : Nat) : Has (T5.add "is_formula" ⟨k, 2, c_is_formula n, mIsF n⟩) "is_formula" 2 (mIsF n) := ⟨k, c_is_formula n, by kernel_rfl⟩
theorem p_is_formula (n k : Nat) (ds : List D) (Q : DK) (X : EK) (h : mIsF (n + 1) ds Q X) : wpF (T5.add "is_formula" ⟨k, 2, c_is_formula n, mIsF n⟩) n_is_formula.length b_is_formula ds Q X := pl_isf (G5.add) (h_is_formula_inner_formulas n k) (h_is_formula_is_formula n k) ds Q X h
def T6 : Tb := T5.add "is_formula" ⟨31, 2, c_is_formula 12, (mIsF 12)⟩
theorem G6 : Glc T6 := G5.add
theorem sc_check_conditions : scB n_check_conditions ["book"] (defScope s_check_conditions) = true := by kernel_rfl
theorem ck_check_conditions : mSs T6 n_check_conditions o_check_conditions (defScope s_check_conditions) b_check_conditions (defBody s_check_conditions) = true := by kernel_rfl
theorem h_check_conditions_is_claim : Has T6 "is_claim" 1 mClaim := ⟨2, dcSs T0 b_is_claim, by kernel_rfl⟩
theorem h_check_conditions_rising : Has T6 "rising" 1 mRising := ⟨3, dcSs T1 b_rising, by kernel_rfl⟩
theorem h_check_conditions_measured : Has T6 "measured" 1 (mMeas 12) := ⟨18, c_measured 12, by kernel_rfl⟩
theorem h_check_conditions_is_formula : Has T6 "is_formula" 2 (mIsF 12) := ⟨31, c_is_formula 12, by kernel_rfl⟩
theorem p_check_conditions (ds : List D) (Q : DK) (X : EK) (h : mCheck ds Q X) : wpF T6 n_check_conditions.length b_check_conditions ds Q X := pl_check G6 (h_check_conditions_is_claim) (h_check_conditions_rising) (h_check_conditions_measured) (h_check_conditions_is_formula) ds Q X h
def T7 : Tb := T6.add "check_conditions" ⟨32, 1, dcSs T6 b_check_conditions, mCheck⟩
theorem G7 : Glc T7 := G6.add
theorem sc_check_condition_way : scB n_check_condition_way ["way"] (defScope s_check_condition_way) = true := by kernel_rfl
theorem ck_check_condition_way : mSs T7 n_check_condition_way o_check_condition_way (defScope s_check_condition_way) b_check_condition_way (defBody s_check_condition_way) = true := by kernel_rfl
theorem p_check_condition_way (ds : List D) (Q : DK) (X : EK) (h : mWay ds Q X) : wpF T7 n_check_condition_way.length b_check_condition_way ds Q X := pl_way G7 ds Q X h
def T8 : Tb := T7.add "check_condition_way" ⟨33, 1, dcSs T7 b_check_condition_way, mWay⟩
theorem G8 : Glc T8 := G7.add
theorem sc_check_book_labels : scB n_check_book_labels ["book", "labels"] (defScope s_check_book_labels) = true := by kernel_rfl
theorem ck_check_book_labels : mSs T8 n_check_book_labels o_check_book_labels (defScope s_check_book_labels) b_check_book_labels (defBody s_check_book_labels) = true := by kernel_rfl
theorem p_check_book_labels (ds : List D) (Q : DK) (X : EK) (h : mLabs ds Q X) : wpF T8 n_check_book_labels.length b_check_book_labels ds Q X := pl_labs G8 ds Q X h
def T9 : Tb := T8.add "check_book_labels" ⟨34, 2, dcSs T8 b_check_book_labels, mLabs⟩
theorem G9 : Glc T9 := G8.add
theorem sc_Conditions_holds : scB n_Conditions_holds ["self", "formula", "choice"] (defScope s_Conditions_holds) = true := by kernel_rfl
theorem ck_Conditions_holds (e : Ent) : mSs (T9.addMeth "Conditions" "holds" e) n_Conditions_holds o_Conditions_holds (defScope s_Conditions_holds) b_Conditions_holds (defBody s_Conditions_holds) = true := by kernel_rfl
def c_Conditions_holds : Nat → Nat
  | 0 => 0
  | n + 1 => dcSs (T9.addMeth "Conditions" "holds" ⟨0, 3, c_Conditions_holds n, fun _ _ _ => False⟩) b_Conditions_holds
theorem k_Conditions_holds (n k : Nat) (sp : DSp) : dcSs (T9.addMeth "Conditions" "holds" ⟨k, 3, c_Conditions_holds n, sp⟩) b_Conditions_holds = c_Conditions_holds (n + 1) := by kernel_rfl
theorem z_Conditions_holds (ds : List D) (Q : DK) (X : EK) (h : mHolds 0 ds Q X) : False := by
  unfold mHolds at h
  simp at h
theorem h_Conditions_holds_inner_formulas (n k : Nat) : Has (T9.addMeth "Conditions" "holds" ⟨k, 3, c_Conditions_holds n, mHolds n⟩) "inner_formulas" 1 mInner := ⟨5, dcSs T3 b_inner_formulas, by kernel_rfl⟩
theorem h_Conditions_holds_Conditions_holds (n k : Nat) : HasM (T9.addMeth "Conditions" "holds" ⟨k, 3, c_Conditions_holds n, mHolds n⟩) "Conditions" "holds" 3 (mHolds n) := ⟨k, c_Conditions_holds n, by kernel_rfl⟩
theorem p_Conditions_holds (n k : Nat) (ds : List D) (Q : DK) (X : EK) (h : mHolds (n + 1) ds Q X) : wpF (T9.addMeth "Conditions" "holds" ⟨k, 3, c_Conditions_holds n, mHolds n⟩) n_Conditions_holds.length b_Conditions_holds ds Q X := pl_holds (G9.addMeth) (h_Conditions_holds_inner_formulas n k) (h_Conditions_holds_Conditions_holds n k) ds Q X h
def T10 : Tb := T9.addMeth "Conditions" "holds" ⟨47, 3, c_Conditions_holds 12, (mHolds 12)⟩
theorem G10 : Glc T10 := G9.addMeth
theorem sc_Conditions___init__ : scB n_Conditions___init__ ["self", "book"] (defScope s_Conditions___init__) = true := by kernel_rfl
theorem ck_Conditions___init__ : mInit T10 "Conditions" n_Conditions___init__ o_Conditions___init__ (defScope s_Conditions___init__) b_Conditions___init__ (defBody s_Conditions___init__) = true := by kernel_rfl
theorem h_Conditions_Conditions_holds : HasM T10 "Conditions" "holds" 3 (mHolds 12) := ⟨47, c_Conditions_holds 12, by kernel_rfl⟩
theorem p_Conditions___init__ (ds : List D) (Q : DK) (X : EK) (h : mMake ds Q X) : wpInit T10 "Conditions" X (ds.map some ++ List.replicate (n_Conditions___init__.length - (["self", "book"] : List Str).length) none) b_Conditions___init__ [] Q := pl_make G10 (h_Conditions_Conditions_holds) ds Q X h
def T11 : Tb := T10.addNew "Conditions" ⟨48, 1, dcI T10 b_Conditions___init__, mMake⟩
theorem G11 : Glc T11 := G10.addNew
theorem sc_Conditions_allowed : scB n_Conditions_allowed ["self", "labels"] (defScope s_Conditions_allowed) = true := by kernel_rfl
theorem ck_Conditions_allowed : mSs T11 n_Conditions_allowed o_Conditions_allowed (defScope s_Conditions_allowed) b_Conditions_allowed (defBody s_Conditions_allowed) = true := by kernel_rfl
theorem p_Conditions_allowed (ds : List D) (Q : DK) (X : EK) (h : mAllowed ds Q X) : wpF T11 n_Conditions_allowed.length b_Conditions_allowed ds Q X := pl_allowed G11 ds Q X h
def T12 : Tb := T11.addMeth "Conditions" "allowed" ⟨50, 2, dcSs T11 b_Conditions_allowed, mAllowed⟩
theorem G12 : Glc T12 := G11.addMeth
theorem sc_Conditions_after : scB n_Conditions_after ["self", "labels"] (defScope s_Conditions_after) = true := by kernel_rfl
theorem ck_Conditions_after : mSs T12 n_Conditions_after o_Conditions_after (defScope s_Conditions_after) b_Conditions_after (defBody s_Conditions_after) = true := by kernel_rfl
theorem h_Conditions_after_Conditions_allowed : HasM T12 "Conditions" "allowed" 2 mAllowed := ⟨50, dcSs T11 b_Conditions_allowed, by kernel_rfl⟩
theorem p_Conditions_after (ds : List D) (Q : DK) (X : EK) (h : mAfter ds Q X) : wpF T12 n_Conditions_after.length b_Conditions_after ds Q X := pl_after G12 (h_Conditions_after_Conditions_allowed) ds Q X h
def T13 : Tb := T12.addMeth "Conditions" "after" ⟨51, 2, dcSs T12 b_Conditions_after, mAfter⟩
theorem G13 : Glc T13 := G12.addMeth
theorem sc_Conditions_least : scB n_Conditions_least ["self"] (defScope s_Conditions_least) = true := by kernel_rfl
theorem ck_Conditions_least : mSs T13 n_Conditions_least o_Conditions_least (defScope s_Conditions_least) b_Conditions_least (defBody s_Conditions_least) = true := by kernel_rfl
theorem h_Conditions_least_Conditions_after : HasM T13 "Conditions" "after" 2 mAfter := ⟨51, dcSs T12 b_Conditions_after, by kernel_rfl⟩
theorem p_Conditions_least (ds : List D) (Q : DK) (X : EK) (h : mLeast ds Q X) : wpF T13 n_Conditions_least.length b_Conditions_least ds Q X := pl_least G13 (h_Conditions_least_Conditions_after) ds Q X h
def T14 : Tb := T13.addMeth "Conditions" "least" ⟨52, 1, dcSs T13 b_Conditions_least, mLeast⟩
theorem G14 : Glc T14 := G13.addMeth
theorem sc_Conditions_is_stable : scB n_Conditions_is_stable ["self", "labels"] (defScope s_Conditions_is_stable) = true := by kernel_rfl
theorem ck_Conditions_is_stable : mSs T14 n_Conditions_is_stable o_Conditions_is_stable (defScope s_Conditions_is_stable) b_Conditions_is_stable (defBody s_Conditions_is_stable) = true := by kernel_rfl
theorem h_Conditions_is_stable_Conditions_after : HasM T14 "Conditions" "after" 2 mAfter := ⟨51, dcSs T12 b_Conditions_after, by kernel_rfl⟩
theorem p_Conditions_is_stable (ds : List D) (Q : DK) (X : EK) (h : mStab ds Q X) : wpF T14 n_Conditions_is_stable.length b_Conditions_is_stable ds Q X := pl_stab G14 (h_Conditions_is_stable_Conditions_after) ds Q X h
def T15 : Tb := T14.addMeth "Conditions" "is_stable" ⟨53, 2, dcSs T14 b_Conditions_is_stable, mStab⟩
theorem G15 : Glc T15 := G14.addMeth
theorem sc_agrees : scB n_agrees ["less", "more"] (defScope s_agrees) = true := by kernel_rfl
theorem ck_agrees : mSs T15 n_agrees o_agrees (defScope s_agrees) b_agrees (defBody s_agrees) = true := by kernel_rfl
theorem p_agrees (ds : List D) (Q : DK) (X : EK) (h : mAgrees ds Q X) : wpF T15 n_agrees.length b_agrees ds Q X := pl_agrees ds Q X h
def T16 : Tb := T15.add "agrees" ⟨54, 2, dcSs T15 b_agrees, mAgrees⟩
theorem G16 : Glc T16 := G15.add
theorem sc_known_condition_labels : scB n_known_condition_labels ["known", "way"] (defScope s_known_condition_labels) = true := by kernel_rfl
theorem ck_known_condition_labels : mSs T16 n_known_condition_labels o_known_condition_labels (defScope s_known_condition_labels) b_known_condition_labels (defBody s_known_condition_labels) = true := by kernel_rfl
theorem h_known_condition_labels_Conditions_after : HasM T16 "Conditions" "after" 2 mAfter := ⟨51, dcSs T12 b_Conditions_after, by kernel_rfl⟩
theorem h_known_condition_labels_Conditions_least : HasM T16 "Conditions" "least" 1 mLeast := ⟨52, dcSs T13 b_Conditions_least, by kernel_rfl⟩
theorem h_known_condition_labels_Conditions_is_stable : HasM T16 "Conditions" "is_stable" 2 mStab := ⟨53, dcSs T14 b_Conditions_is_stable, by kernel_rfl⟩
theorem h_known_condition_labels_all_labels : Has T16 "all_labels" 1 mAll := ⟨4, dcSs T2 b_all_labels, by kernel_rfl⟩
theorem h_known_condition_labels_agrees : Has T16 "agrees" 2 mAgrees := ⟨54, dcSs T15 b_agrees, by kernel_rfl⟩
theorem p_known_condition_labels (ds : List D) (Q : DK) (X : EK) (h : mKnown ds Q X) : wpF T16 n_known_condition_labels.length b_known_condition_labels ds Q X := pl_known G16 (h_known_condition_labels_Conditions_after) (h_known_condition_labels_Conditions_least) (h_known_condition_labels_Conditions_is_stable) (h_known_condition_labels_all_labels) (h_known_condition_labels_agrees) ds Q X h
def T17 : Tb := T16.add "known_condition_labels" ⟨55, 2, dcSs T16 b_known_condition_labels, mKnown⟩
theorem G17 : Glc T17 := G16.add
theorem sc_condition_labels : scB n_condition_labels ["book", "way"] (defScope s_condition_labels) = true := by kernel_rfl
theorem ck_condition_labels : mSs T17 n_condition_labels o_condition_labels (defScope s_condition_labels) b_condition_labels (defBody s_condition_labels) = true := by kernel_rfl
theorem h_condition_labels_check_conditions : Has T17 "check_conditions" 1 mCheck := ⟨32, dcSs T6 b_check_conditions, by kernel_rfl⟩
theorem h_condition_labels_check_condition_way : Has T17 "check_condition_way" 1 mWay := ⟨33, dcSs T7 b_check_condition_way, by kernel_rfl⟩
theorem h_condition_labels_Conditions : HasN T17 "Conditions" 1 mMake := ⟨48, dcI T10 b_Conditions___init__, by kernel_rfl⟩
theorem h_condition_labels_known_condition_labels : Has T17 "known_condition_labels" 2 mKnown := ⟨55, dcSs T16 b_known_condition_labels, by kernel_rfl⟩
theorem p_condition_labels (ds : List D) (Q : DK) (X : EK) (h : mCond ds Q X) : wpF T17 n_condition_labels.length b_condition_labels ds Q X := pl_cond (h_condition_labels_check_conditions) (h_condition_labels_check_condition_way) (h_condition_labels_Conditions) (h_condition_labels_known_condition_labels) ds Q X h
def T18 : Tb := T17.add "condition_labels" ⟨56, 2, dcSs T17 b_condition_labels, mCond⟩
theorem G18 : Glc T18 := G17.add
theorem sc_labels_stand : scB n_labels_stand ["book", "way", "labels"] (defScope s_labels_stand) = true := by kernel_rfl
theorem ck_labels_stand : mSs T18 n_labels_stand o_labels_stand (defScope s_labels_stand) b_labels_stand (defBody s_labels_stand) = true := by kernel_rfl
theorem h_labels_stand_check_conditions : Has T18 "check_conditions" 1 mCheck := ⟨32, dcSs T6 b_check_conditions, by kernel_rfl⟩
theorem h_labels_stand_check_condition_way : Has T18 "check_condition_way" 1 mWay := ⟨33, dcSs T7 b_check_condition_way, by kernel_rfl⟩
theorem h_labels_stand_check_book_labels : Has T18 "check_book_labels" 2 mLabs := ⟨34, dcSs T8 b_check_book_labels, by kernel_rfl⟩
theorem h_labels_stand_Conditions : HasN T18 "Conditions" 1 mMake := ⟨48, dcI T10 b_Conditions___init__, by kernel_rfl⟩
theorem h_labels_stand_known_condition_labels : Has T18 "known_condition_labels" 2 mKnown := ⟨55, dcSs T16 b_known_condition_labels, by kernel_rfl⟩
theorem p_labels_stand (ds : List D) (Q : DK) (X : EK) (h : mStand ds Q X) : wpF T18 n_labels_stand.length b_labels_stand ds Q X := pl_stand (h_labels_stand_check_conditions) (h_labels_stand_check_condition_way) (h_labels_stand_check_book_labels) (h_labels_stand_Conditions) (h_labels_stand_known_condition_labels) ds Q X h
def T19 : Tb := T18.add "labels_stand" ⟨57, 3, dcSs T18 b_labels_stand, mStand⟩
theorem G19 : Glc T19 := G18.add
theorem sc__law_same : scB n__law_same ["told", "due"] (defScope s__law_same) = true := by kernel_rfl
theorem ck__law_same : mSs T19 n__law_same o__law_same (defScope s__law_same) b__law_same (defBody s__law_same) = true := by kernel_rfl
theorem p__law_same (ds : List D) (Q : DK) (X : EK) (h : mSame ds Q X) : wpF T19 n__law_same.length b__law_same ds Q X := pl_same ds Q X h
def T20 : Tb := T19.add "_law_same" ⟨58, 2, dcSs T19 b__law_same, mSame⟩
theorem G20 : Glc T20 := G19.add
theorem sc__law_stream : scB n__law_stream ["script"] (defScope s__law_stream) = true := by kernel_rfl
theorem ck__law_stream : mSs T20 n__law_stream o__law_stream (defScope s__law_stream) b__law_stream (defBody s__law_stream) = true := by kernel_rfl
theorem p__law_stream (ds : List D) (Q : DK) (X : EK) (h : mStream ds Q X) : wpF T20 n__law_stream.length b__law_stream ds Q X := pl_stream ds Q X h
def T21 : Tb := T20.add "_law_stream" ⟨59, 1, dcSs T20 b__law_stream, mStream⟩
theorem G21 : Glc T21 := G20.add
def T22 : Tb := T21.add "_law_next" ⟨1, 2, 1, mNext⟩
theorem G22 : Glc T22 := G21.add
theorem sc__law_claims : scB n__law_claims ["state", "many"] (defScope s__law_claims) = true := by kernel_rfl
theorem ck__law_claims : mSs T22 n__law_claims o__law_claims (defScope s__law_claims) b__law_claims (defBody s__law_claims) = true := by kernel_rfl
theorem h__law_claims__law_next : Has T22 "_law_next" 2 mNext := ⟨1, 1, by kernel_rfl⟩
theorem p__law_claims (ds : List D) (Q : DK) (X : EK) (h : mClaims ds Q X) : wpF T22 n__law_claims.length b__law_claims ds Q X := pl_claims (h__law_claims__law_next) ds Q X h
def T23 : Tb := T22.add "_law_claims" ⟨61, 2, dcSs T22 b__law_claims, mClaims⟩
theorem G23 : Glc T23 := G22.add
theorem sc__law_subsets : scB n__law_subsets ["claims"] (defScope s__law_subsets) = true := by kernel_rfl
theorem ck__law_subsets : mSs T23 n__law_subsets o__law_subsets (defScope s__law_subsets) b__law_subsets (defBody s__law_subsets) = true := by kernel_rfl
theorem p__law_subsets (ds : List D) (Q : DK) (X : EK) (h : mSubs ds Q X) : wpF T23 n__law_subsets.length b__law_subsets ds Q X := pl_subs ds Q X h
def T24 : Tb := T23.add "_law_subsets" ⟨62, 1, dcSs T23 b__law_subsets, mSubs⟩
theorem G24 : Glc T24 := G23.add
theorem sc__law_longer : scB n__law_longer ["rows"] (defScope s__law_longer) = true := by kernel_rfl
theorem ck__law_longer : mSs T24 n__law_longer o__law_longer (defScope s__law_longer) b__law_longer (defBody s__law_longer) = true := by kernel_rfl
theorem p__law_longer (ds : List D) (Q : DK) (X : EK) (h : mLonger ds Q X) : wpF T24 n__law_longer.length b__law_longer ds Q X := pl_longer ds Q X h
def T25 : Tb := T24.add "_law_longer" ⟨63, 1, dcSs T24 b__law_longer, mLonger⟩
theorem G25 : Glc T25 := G24.add
theorem sc__law_all_labels : scB n__law_all_labels ["many"] (defScope s__law_all_labels) = true := by kernel_rfl
theorem ck__law_all_labels : mSs T25 n__law_all_labels o__law_all_labels (defScope s__law_all_labels) b__law_all_labels (defBody s__law_all_labels) = true := by kernel_rfl
theorem h__law_all_labels__law_longer : Has T25 "_law_longer" 1 mLonger := ⟨63, dcSs T24 b__law_longer, by kernel_rfl⟩
theorem p__law_all_labels (ds : List D) (Q : DK) (X : EK) (h : mLAll ds Q X) : wpF T25 n__law_all_labels.length b__law_all_labels ds Q X := pl_lall (h__law_all_labels__law_longer) ds Q X h
def T26 : Tb := T25.add "_law_all_labels" ⟨64, 1, dcSs T25 b__law_all_labels, mLAll⟩
theorem G26 : Glc T26 := G25.add
theorem sc__law_inner : scB n__law_inner ["formula"] (defScope s__law_inner) = true := by kernel_rfl
theorem ck__law_inner : mSs T26 n__law_inner o__law_inner (defScope s__law_inner) b__law_inner (defBody s__law_inner) = true := by kernel_rfl
theorem p__law_inner (ds : List D) (Q : DK) (X : EK) (h : mLInner ds Q X) : wpF T26 n__law_inner.length b__law_inner ds Q X := pl_linner ds Q X h
def T27 : Tb := T26.add "_law_inner" ⟨65, 1, dcSs T26 b__law_inner, mLInner⟩
theorem G27 : Glc T27 := G26.add
theorem sc__law_measure : scB n__law_measure ["formula"] (defScope s__law_measure) = true := by kernel_rfl
theorem ck__law_measure (e : Ent) : mSs (T27.add "_law_measure" e) n__law_measure o__law_measure (defScope s__law_measure) b__law_measure (defBody s__law_measure) = true := by kernel_rfl
def c__law_measure : Nat → Nat
  | 0 => 0
  | n + 1 => dcSs (T27.add "_law_measure" ⟨0, 1, c__law_measure n, fun _ _ _ => False⟩) b__law_measure
theorem k__law_measure (n k : Nat) (sp : DSp) : dcSs (T27.add "_law_measure" ⟨k, 1, c__law_measure n, sp⟩) b__law_measure = c__law_measure (n + 1) := by kernel_rfl
theorem z__law_measure (ds : List D) (Q : DK) (X : EK) (h : mLMeas 0 ds Q X) : False := by
  unfold mLMeas at h
  simp at h
theorem h__law_measure__law_inner (n k : Nat) : Has (T27.add "_law_measure" ⟨k, 1, c__law_measure n, mLMeas n⟩) "_law_inner" 1 mLInner := ⟨65, dcSs T26 b__law_inner, by kernel_rfl⟩
theorem h__law_measure__law_measure (n k : Nat) : Has (T27.add "_law_measure" ⟨k, 1, c__law_measure n, mLMeas n⟩) "_law_measure" 1 (mLMeas n) := ⟨k, c__law_measure n, by kernel_rfl⟩
theorem p__law_measure (n k : Nat) (ds : List D) (Q : DK) (X : EK) (h : mLMeas (n + 1) ds Q X) : wpF (T27.add "_law_measure" ⟨k, 1, c__law_measure n, mLMeas n⟩) n__law_measure.length b__law_measure ds Q X := pl_lmeas (h__law_measure__law_inner n k) (h__law_measure__law_measure n k) ds Q X h
def T28 : Tb := T27.add "_law_measure" ⟨78, 1, c__law_measure 12, (mLMeas 12)⟩
theorem G28 : Glc T28 := G27.add
theorem sc__law_true : scB n__law_true ["formula", "chosen"] (defScope s__law_true) = true := by kernel_rfl
theorem ck__law_true (e : Ent) : mSs (T28.add "_law_true" e) n__law_true o__law_true (defScope s__law_true) b__law_true (defBody s__law_true) = true := by kernel_rfl
def c__law_true : Nat → Nat
  | 0 => 0
  | n + 1 => dcSs (T28.add "_law_true" ⟨0, 2, c__law_true n, fun _ _ _ => False⟩) b__law_true
theorem k__law_true (n k : Nat) (sp : DSp) : dcSs (T28.add "_law_true" ⟨k, 2, c__law_true n, sp⟩) b__law_true = c__law_true (n + 1) := by kernel_rfl
theorem z__law_true (ds : List D) (Q : DK) (X : EK) (h : mLTrue 0 ds Q X) : False := by
  unfold mLTrue at h
  simp at h
theorem h__law_true__law_inner (n k : Nat) : Has (T28.add "_law_true" ⟨k, 2, c__law_true n, mLTrue n⟩) "_law_inner" 1 mLInner := ⟨65, dcSs T26 b__law_inner, by kernel_rfl⟩
theorem h__law_true__law_true (n k : Nat) : Has (T28.add "_law_true" ⟨k, 2, c__law_true n, mLTrue n⟩) "_law_true" 2 (mLTrue n) := ⟨k, c__law_true n, by kernel_rfl⟩
theorem p__law_true (n k : Nat) (ds : List D) (Q : DK) (X : EK) (h : mLTrue (n + 1) ds Q X) : wpF (T28.add "_law_true" ⟨k, 2, c__law_true n, mLTrue n⟩) n__law_true.length b__law_true ds Q X := pl_ltrue (h__law_true__law_inner n k) (h__law_true__law_true n k) ds Q X h
def T29 : Tb := T28.add "_law_true" ⟨91, 2, c__law_true 12, (mLTrue 12)⟩
theorem G29 : Glc T29 := G28.add
theorem sc__law_truths : scB n__law_truths ["book"] (defScope s__law_truths) = true := by kernel_rfl
theorem ck__law_truths : mSs T29 n__law_truths o__law_truths (defScope s__law_truths) b__law_truths (defBody s__law_truths) = true := by kernel_rfl
theorem h__law_truths__law_subsets : Has T29 "_law_subsets" 1 mSubs := ⟨62, dcSs T23 b__law_subsets, by kernel_rfl⟩
theorem h__law_truths__law_true : Has T29 "_law_true" 2 (mLTrue 12) := ⟨91, c__law_true 12, by kernel_rfl⟩
theorem p__law_truths (ds : List D) (Q : DK) (X : EK) (h : mTruths ds Q X) : wpF T29 n__law_truths.length b__law_truths ds Q X := pl_truths (h__law_truths__law_subsets) (h__law_truths__law_true) ds Q X h
def T30 : Tb := T29.add "_law_truths" ⟨92, 1, dcSs T29 b__law_truths, mTruths⟩
theorem G30 : Glc T30 := G29.add
theorem sc__law_formula : scB n__law_formula ["state", "claims", "deep"] (defScope s__law_formula) = true := by kernel_rfl
theorem ck__law_formula (e : Ent) : mSs (T30.add "_law_formula" e) n__law_formula o__law_formula (defScope s__law_formula) b__law_formula (defBody s__law_formula) = true := by kernel_rfl
def c__law_formula : Nat → Nat
  | 0 => 0
  | n + 1 => dcSs (T30.add "_law_formula" ⟨0, 3, c__law_formula n, fun _ _ _ => False⟩) b__law_formula
theorem k__law_formula (n k : Nat) (sp : DSp) : dcSs (T30.add "_law_formula" ⟨k, 3, c__law_formula n, sp⟩) b__law_formula = c__law_formula (n + 1) := by kernel_rfl
theorem z__law_formula (ds : List D) (Q : DK) (X : EK) (h : mForm 0 ds Q X) : False := by
  unfold mForm at h
  simp at h
theorem h__law_formula__law_next (n k : Nat) : Has (T30.add "_law_formula" ⟨k, 3, c__law_formula n, mForm n⟩) "_law_next" 2 mNext := ⟨1, 1, by kernel_rfl⟩
theorem h__law_formula__law_formula (n k : Nat) : Has (T30.add "_law_formula" ⟨k, 3, c__law_formula n, mForm n⟩) "_law_formula" 3 (mForm n) := ⟨k, c__law_formula n, by kernel_rfl⟩
theorem p__law_formula (n k : Nat) (ds : List D) (Q : DK) (X : EK) (h : mForm (n + 1) ds Q X) : wpF (T30.add "_law_formula" ⟨k, 3, c__law_formula n, mForm n⟩) n__law_formula.length b__law_formula ds Q X := pl_form (h__law_formula__law_next n k) (h__law_formula__law_formula n k) ds Q X h
def T31 : Tb := T30.add "_law_formula" ⟨97, 3, c__law_formula 4, (mForm 4)⟩
theorem G31 : Glc T31 := G30.add
theorem sc__law_conditions : scB n__law_conditions ["state", "most"] (defScope s__law_conditions) = true := by kernel_rfl
theorem ck__law_conditions : mSs T31 n__law_conditions o__law_conditions (defScope s__law_conditions) b__law_conditions (defBody s__law_conditions) = true := by kernel_rfl
theorem h__law_conditions__law_next : Has T31 "_law_next" 2 mNext := ⟨1, 1, by kernel_rfl⟩
theorem h__law_conditions__law_claims : Has T31 "_law_claims" 2 mClaims := ⟨61, dcSs T22 b__law_claims, by kernel_rfl⟩
theorem h__law_conditions__law_formula : Has T31 "_law_formula" 3 (mForm 4) := ⟨97, c__law_formula 4, by kernel_rfl⟩
theorem h__law_conditions__law_measure : Has T31 "_law_measure" 1 (mLMeas 12) := ⟨78, c__law_measure 12, by kernel_rfl⟩
theorem p__law_conditions (ds : List D) (Q : DK) (X : EK) (h : mConds ds Q X) : wpF T31 n__law_conditions.length b__law_conditions ds Q X := pl_conds (h__law_conditions__law_next) (h__law_conditions__law_claims) (h__law_conditions__law_formula) (h__law_conditions__law_measure) ds Q X h
def T32 : Tb := T31.add "_law_conditions" ⟨98, 2, dcSs T31 b__law_conditions, mConds⟩
theorem G32 : Glc T32 := G31.add
theorem sc__law_allowed : scB n__law_allowed ["book", "labels"] (defScope s__law_allowed) = true := by kernel_rfl
theorem ck__law_allowed : mSs T32 n__law_allowed o__law_allowed (defScope s__law_allowed) b__law_allowed (defBody s__law_allowed) = true := by kernel_rfl
theorem p__law_allowed (ds : List D) (Q : DK) (X : EK) (h : mLAllowed ds Q X) : wpF T32 n__law_allowed.length b__law_allowed ds Q X := pl_lallowed ds Q X h
def T33 : Tb := T32.add "_law_allowed" ⟨99, 2, dcSs T32 b__law_allowed, mLAllowed⟩
theorem G33 : Glc T33 := G32.add
theorem sc__law_next_labels : scB n__law_next_labels ["book", "truths", "labels"] (defScope s__law_next_labels) = true := by kernel_rfl
theorem ck__law_next_labels : mSs T33 n__law_next_labels o__law_next_labels (defScope s__law_next_labels) b__law_next_labels (defBody s__law_next_labels) = true := by kernel_rfl
theorem h__law_next_labels__law_allowed : Has T33 "_law_allowed" 2 mLAllowed := ⟨99, dcSs T32 b__law_allowed, by kernel_rfl⟩
theorem p__law_next_labels (ds : List D) (Q : DK) (X : EK) (h : mLNext ds Q X) : wpF T33 n__law_next_labels.length b__law_next_labels ds Q X := pl_lnext (h__law_next_labels__law_allowed) ds Q X h
def T34 : Tb := T33.add "_law_next_labels" ⟨100, 3, dcSs T33 b__law_next_labels, mLNext⟩
theorem G34 : Glc T34 := G33.add
theorem sc__law_agrees : scB n__law_agrees ["less", "more"] (defScope s__law_agrees) = true := by kernel_rfl
theorem ck__law_agrees : mSs T34 n__law_agrees o__law_agrees (defScope s__law_agrees) b__law_agrees (defBody s__law_agrees) = true := by kernel_rfl
theorem p__law_agrees (ds : List D) (Q : DK) (X : EK) (h : mAgrees ds Q X) : wpF T34 n__law_agrees.length b__law_agrees ds Q X := pl_lagrees ds Q X h
def T35 : Tb := T34.add "_law_agrees" ⟨101, 2, dcSs T34 b__law_agrees, mAgrees⟩
theorem G35 : Glc T35 := G34.add
theorem sc__law_is_stable_model : scB n__law_is_stable_model ["book", "truths", "labels"] (defScope s__law_is_stable_model) = true := by kernel_rfl
theorem ck__law_is_stable_model : mSs T35 n__law_is_stable_model o__law_is_stable_model (defScope s__law_is_stable_model) b__law_is_stable_model (defBody s__law_is_stable_model) = true := by kernel_rfl
theorem h__law_is_stable_model__law_next_labels : Has T35 "_law_next_labels" 3 mLNext := ⟨100, dcSs T33 b__law_next_labels, by kernel_rfl⟩
theorem p__law_is_stable_model (ds : List D) (Q : DK) (X : EK) (h : mLStab ds Q X) : wpF T35 n__law_is_stable_model.length b__law_is_stable_model ds Q X := pl_lstab (h__law_is_stable_model__law_next_labels) ds Q X h
def T36 : Tb := T35.add "_law_is_stable_model" ⟨102, 3, dcSs T35 b__law_is_stable_model, mLStab⟩
theorem G36 : Glc T36 := G35.add
theorem sc__law_condition_labels : scB n__law_condition_labels ["book", "way"] (defScope s__law_condition_labels) = true := by kernel_rfl
theorem ck__law_condition_labels : mSs T36 n__law_condition_labels o__law_condition_labels (defScope s__law_condition_labels) b__law_condition_labels (defBody s__law_condition_labels) = true := by kernel_rfl
theorem h__law_condition_labels__law_truths : Has T36 "_law_truths" 1 mTruths := ⟨92, dcSs T29 b__law_truths, by kernel_rfl⟩
theorem h__law_condition_labels__law_next_labels : Has T36 "_law_next_labels" 3 mLNext := ⟨100, dcSs T33 b__law_next_labels, by kernel_rfl⟩
theorem h__law_condition_labels__law_is_stable_model : Has T36 "_law_is_stable_model" 3 mLStab := ⟨102, dcSs T35 b__law_is_stable_model, by kernel_rfl⟩
theorem h__law_condition_labels__law_all_labels : Has T36 "_law_all_labels" 1 mLAll := ⟨64, dcSs T25 b__law_all_labels, by kernel_rfl⟩
theorem h__law_condition_labels__law_agrees : Has T36 "_law_agrees" 2 mAgrees := ⟨101, dcSs T34 b__law_agrees, by kernel_rfl⟩
theorem p__law_condition_labels (ds : List D) (Q : DK) (X : EK) (h : mLCond ds Q X) : wpF T36 n__law_condition_labels.length b__law_condition_labels ds Q X := pl_lcond (h__law_condition_labels__law_truths) (h__law_condition_labels__law_next_labels) (h__law_condition_labels__law_is_stable_model) (h__law_condition_labels__law_all_labels) (h__law_condition_labels__law_agrees) ds Q X h
def T37 : Tb := T36.add "_law_condition_labels" ⟨103, 2, dcSs T36 b__law_condition_labels, mLCond⟩
theorem G37 : Glc T37 := G36.add
theorem sc__law_told : scB n__law_told ["kind", "book", "way", "labels"] (defScope s__law_told) = true := by kernel_rfl
theorem ck__law_told : mSs T37 n__law_told o__law_told (defScope s__law_told) b__law_told (defBody s__law_told) = true := by kernel_rfl
theorem h__law_told_condition_labels : Has T37 "condition_labels" 2 mCond := ⟨56, dcSs T17 b_condition_labels, by kernel_rfl⟩
theorem h__law_told_labels_stand : Has T37 "labels_stand" 3 mStand := ⟨57, dcSs T18 b_labels_stand, by kernel_rfl⟩
theorem p__law_told (ds : List D) (Q : DK) (X : EK) (h : mTold ds Q X) : wpF T37 n__law_told.length b__law_told ds Q X := pl_told (h__law_told_condition_labels) (h__law_told_labels_stand) ds Q X h
def T38 : Tb := T37.add "_law_told" ⟨104, 4, dcSs T37 b__law_told, mTold⟩
theorem G38 : Glc T38 := G37.add
theorem sc_law : scB n_law ["script"] (defScope s_law) = true := by kernel_rfl
theorem ck_law : mSs T38 n_law o_law (defScope s_law) b_law (defBody s_law) = true := by kernel_rfl
theorem h_law__law_next : Has T38 "_law_next" 2 mNext := ⟨1, 1, by kernel_rfl⟩
theorem h_law__law_stream : Has T38 "_law_stream" 1 mStream := ⟨59, dcSs T20 b__law_stream, by kernel_rfl⟩
theorem h_law__law_conditions : Has T38 "_law_conditions" 2 mConds := ⟨98, dcSs T31 b__law_conditions, by kernel_rfl⟩
theorem h_law__law_condition_labels : Has T38 "_law_condition_labels" 2 mLCond := ⟨103, dcSs T36 b__law_condition_labels, by kernel_rfl⟩
theorem h_law__law_told : Has T38 "_law_told" 4 mTold := ⟨104, dcSs T37 b__law_told, by kernel_rfl⟩
theorem h_law__law_same : Has T38 "_law_same" 2 mSame := ⟨58, dcSs T19 b__law_same, by kernel_rfl⟩
theorem h_law__law_agrees : Has T38 "_law_agrees" 2 mAgrees := ⟨101, dcSs T34 b__law_agrees, by kernel_rfl⟩
theorem p_law (ds : List D) (Q : DK) (X : EK) (h : mLaw ds Q X) : wpF T38 n_law.length b_law ds Q X := pl_law ⟨G38, (h_law__law_next), (h_law__law_stream), (h_law__law_conditions), (h_law__law_condition_labels), (h_law__law_told), (h_law__law_same), (h_law__law_agrees)⟩ ds Q X h
theorem cost : dcSs T38 b_law ≤ big := Nat.le_of_ble_eq_true (by kernel_rfl)
end DL

/-! S1: each def keeps its promise -/
namespace DL
open PySem PySem.Spec PyProof.Rows L2
section
variable {P : Program} {w : World} {K : PySem.W.Frag} {h : Heap} {mg : Str → Option Value} (X : K.In h) (G : h.Ns mainGlobals mg) (c : He.SaysD faH fnH K) (ex : exH K = true) (ti : TabsIn tsH w K) (base : Heap)
include X G c ex
theorem err_ok : ErrOk P w K mg base := by
  obtain ⟨fd, F⟩ := F__law_error c
  obtain ⟨e0, k⟩ := and2 (and2 ex).1
  obtain ⟨e1, k⟩ := and2 k
  obtain ⟨e2, e3⟩ := and2 k
  exact err_fn F (by kernel_rfl) (by kernel_rfl) (F.bindsN fun _ _ _ _ _ _ us hl => match us, hl with | [_], _ => rfl) F.kp (g__law_error X G c) (f_isinstance X G c) (f_sum X G c) (f_int X G c)
    (g_NotAllowed X G c) (g_TooLarge X G c) (g_Missing X G c) (g_BadPaper X G c) (g_BadForm X G c) (errC_of e0).1 (errC_of e1).1 (errC_of e2).1 (errC_of e3).1
theorem glob_ok (x : Str) (d : D) (e : globH x = some d) : ∃ u v, mg x = some u ∧ RelV v u ∧ ∀ A H, Rep K A H d v := by
  have num : ∀ {n : Int}, (∃ t, mg x = some (.int n t)) → ∃ u v, mg x = some u ∧ RelV v u ∧ ∀ A H, Rep K A H (.int n) v := fun ⟨t, e⟩ => ⟨_, .int _, e, ⟨t, rfl⟩, fun _ _ => rfl⟩
  have txt : ∀ {n : Str}, (∃ t, mg x = some (.str n t)) → ∃ u v, mg x = some u ∧ RelV v u ∧ ∀ A H, Rep K A H (.str n) v := fun ⟨t, e⟩ => ⟨_, .str _, e, ⟨t, rfl⟩, fun _ _ => rfl⟩
  unfold globH at e
  split at e
  · rename_i z; cases e; subst z
    exact num (g_MAX_CONDITIONS X G c)
  split at e
  · rename_i z; cases e; subst z
    exact num (g_MAX_FORMULA X G c)
  split at e
  · rename_i z; cases e; subst z
    exact num (g_MAX_NESTED X G c)
  split at e
  · rename_i z; cases e; subst z
    exact txt (g_FIRST X G c)
  split at e
  · rename_i z; cases e; subst z
    exact txt (g_SIGNS X G c)
  split at e
  · rename_i z; cases e; subst z
    exact ⟨_, .ref _, g_LABELS X G c, rfl, fun A H => ⟨_, _, rfl, fun H => He.tupB_ok (and2 (and2 ex).2).1 H, ⟨_, _, rfl, rfl, _, _, rfl, rfl, _, _, rfl, rfl, rfl⟩⟩⟩
  split at e
  · rename_i z; cases e; subst z
    exact ⟨_, .ref _, g_CONDITION_WAYS X G c, rfl, fun A H => ⟨_, _, rfl, fun H => He.tupB_ok (and2 (and2 (and2 ex).2).2).1 H, ⟨_, _, rfl, rfl, _, _, rfl, rfl, _, _, rfl, rfl, _, _, rfl, rfl, _, _, rfl, rfl, _, _, rfl, rfl, rfl⟩⟩⟩
  split at e
  · rename_i z; cases e; subst z
    exact ⟨_, .ref _, g_PLAIN X G c, rfl, fun A H => ⟨_, _, rfl, fun H => He.tupB_ok (and2 (and2 (and2 (and2 ex).2).2).2).1 H, ⟨_, _, rfl, rfl, _, _, rfl, rfl, rfl⟩⟩⟩
  cases e
theorem exc_ok (x : Str) (e : excH x = true) : ExcD K mg x := by
  unfold excH at e
  rcases Bool.or_eq_true_iff.mp e with e | e
  ·
    rcases Bool.or_eq_true_iff.mp e with e | e
    ·
      rcases Bool.or_eq_true_iff.mp e with e | e
      ·
        have z := of_decide_eq_true e; subst z; exact x_NotAllowed X G c
      · have z := of_decide_eq_true e; subst z; exact x_TooLarge X G c
    · have z := of_decide_eq_true e; subst z; exact x_Missing X G c
  · have z := of_decide_eq_true e; subst z; exact x_BadPaper X G c
theorem free_all (f : BF) : mg (bfName f) = none := by
  cases f <;> first
    | exact f_len X G c | exact f_all X G c | exact f_any X G c | exact f_sum X G c | exact f_max X G c | exact f_min X G c | exact f_abs X G c | exact f_int X G c | exact f_str X G c | exact f_repr X G c | exact f_sorted X G c | exact f_list X G c | exact f_tuple X G c | exact f_set X G c | exact f_range X G c | exact f_enumerate X G c | exact f_zip X G c | exact f_dict X G c
theorem fld_ok (x f : Str) (e : fldH x f = true) : Cls K (He.ga K x) ∧ NoAttr K (He.ga K x) f := by
  unfold fldH at e
  split at e
  · rename_i z; obtain ⟨z1, z2⟩ := z; subst z1 z2
    exact ⟨cl_Conditions c, na_Conditions_order c⟩
  split at e
  · rename_i z; obtain ⟨z1, z2⟩ := z; subst z1 z2
    exact ⟨cl_Conditions c, na_Conditions_many c⟩
  split at e
  · rename_i z; obtain ⟨z1, z2⟩ := z; subst z1 z2
    exact ⟨cl_Conditions c, na_Conditions_choices c⟩
  split at e
  · rename_i z; obtain ⟨z1, z2⟩ := z; subst z1 z2
    exact ⟨cl_Conditions c, na_Conditions_places c⟩
  split at e
  · rename_i z; obtain ⟨z1, z2⟩ := z; subst z1 z2
    exact ⟨cl_Conditions c, na_Conditions_truths c⟩
  cases e
include ti
theorem tab_ok (x : Str) (l : List (Str × Int)) (e : tabH x = some l) : ∃ a, mg x = some (.ref a) ∧ TabAt K w a l := by
  unfold tabH at e
  split at e
  · rename_i z; cases e; subst z
    exact ⟨_, g_SIZES X G c, tabs_at ti 0 rfl (and2 (and2 (and2 (and2 ex).2).2).2).2⟩
  cases e
theorem tk0 : TOk P w K mg base T0 1 :=
  ⟨fun f e z => (by cases (show (none : Option Ent) = some e from z)), glob_ok X G c ex, exc_ok X G c ex, free_all X G c ex, f_set X G c, f_range X G c, f_enumerate X G c, f_zip X G c, f_dict X G c,
    fun _ => ⟨Nat.le_refl 1, err_ok X G c ex base, g_SayError X G c, exm_of (and2 ex).1⟩, fld_ok X G c ex, fun _ _ e z => (by cases (show (none : Option Ent) = some e from z)), tab_ok X G c ex ti, fun _ e z => (by cases (show (none : Option Ent) = some e from z))⟩
theorem tk1 : TOk P w K mg base T1 2 := by
  obtain ⟨fd, F⟩ := F_is_claim c
  exact fn_add (tk0 X G c ex ti base) F (g_is_claim X G c) n_is_claim o_is_claim b_is_claim ["text"] mClaim (F.bindsN fun _ _ _ _ _ _ us hl => match us, hl with | [_], _ => rfl) sc_is_claim ck_is_claim (by kernel_rfl) p_is_claim
theorem tk2 : TOk P w K mg base T2 3 := by
  obtain ⟨fd, F⟩ := F_rising c
  exact fn_add (tk1 X G c ex ti base) F (g_rising X G c) n_rising o_rising b_rising ["row"] mRising (F.bindsN fun _ _ _ _ _ _ us hl => match us, hl with | [_], _ => rfl) sc_rising ck_rising (by kernel_rfl) p_rising
theorem tk3 : TOk P w K mg base T3 4 := by
  obtain ⟨fd, F⟩ := F_all_labels c
  exact fn_add (tk2 X G c ex ti base) F (g_all_labels X G c) n_all_labels o_all_labels b_all_labels ["many"] mAll (F.bindsN fun _ _ _ _ _ _ us hl => match us, hl with | [_], _ => rfl) sc_all_labels ck_all_labels (by kernel_rfl) p_all_labels
theorem tk4 : TOk P w K mg base T4 5 := by
  obtain ⟨fd, F⟩ := F_inner_formulas c
  exact fn_add (tk3 X G c ex ti base) F (g_inner_formulas X G c) n_inner_formulas o_inner_formulas b_inner_formulas ["formula"] mInner (F.bindsN fun _ _ _ _ _ _ us hl => match us, hl with | [_], _ => rfl) sc_inner_formulas ck_inner_formulas (by kernel_rfl) p_inner_formulas
theorem tk5 : TOk P w K mg base T5 18 := by
  obtain ⟨fd, F⟩ := F_measured c
  exact rec_add (tk4 X G c ex ti base) F (g_measured X G c) n_measured o_measured b_measured ["formula"] mMeas c_measured (F.bindsN fun _ _ _ _ _ _ us hl => match us, hl with | [_], _ => rfl) sc_measured ck_measured (by kernel_rfl) z_measured k_measured p_measured 12
theorem tk6 : TOk P w K mg base T6 31 := by
  obtain ⟨fd, F⟩ := F_is_formula c
  exact rec_add (tk5 X G c ex ti base) F (g_is_formula X G c) n_is_formula o_is_formula b_is_formula ["formula", "claims"] mIsF c_is_formula (F.bindsN fun _ _ _ _ _ _ us hl => match us, hl with | [_, _], _ => rfl) sc_is_formula ck_is_formula (by kernel_rfl) z_is_formula k_is_formula p_is_formula 12
theorem tk7 : TOk P w K mg base T7 32 := by
  obtain ⟨fd, F⟩ := F_check_conditions c
  exact fn_add (tk6 X G c ex ti base) F (g_check_conditions X G c) n_check_conditions o_check_conditions b_check_conditions ["book"] mCheck (F.bindsN fun _ _ _ _ _ _ us hl => match us, hl with | [_], _ => rfl) sc_check_conditions ck_check_conditions (by kernel_rfl) p_check_conditions
theorem tk8 : TOk P w K mg base T8 33 := by
  obtain ⟨fd, F⟩ := F_check_condition_way c
  exact fn_add (tk7 X G c ex ti base) F (g_check_condition_way X G c) n_check_condition_way o_check_condition_way b_check_condition_way ["way"] mWay (F.bindsN fun _ _ _ _ _ _ us hl => match us, hl with | [_], _ => rfl) sc_check_condition_way ck_check_condition_way (by kernel_rfl) p_check_condition_way
theorem tk9 : TOk P w K mg base T9 34 := by
  obtain ⟨fd, F⟩ := F_check_book_labels c
  exact fn_add (tk8 X G c ex ti base) F (g_check_book_labels X G c) n_check_book_labels o_check_book_labels b_check_book_labels ["book", "labels"] mLabs (F.bindsN fun _ _ _ _ _ _ us hl => match us, hl with | [_, _], _ => rfl) sc_check_book_labels ck_check_book_labels (by kernel_rfl) p_check_book_labels
theorem tk10 : TOk P w K mg base T10 47 := by
  obtain ⟨fd, F⟩ := F_Conditions_holds c
  exact rec_addM (tk9 X G c ex ti base) F (cl_Conditions c) (me_Conditions_holds c) n_Conditions_holds o_Conditions_holds b_Conditions_holds ["self", "formula", "choice"] mHolds c_Conditions_holds (F.bindsN fun _ _ _ _ _ _ us hl => match us, hl with | [_, _, _], _ => rfl) sc_Conditions_holds ck_Conditions_holds (by kernel_rfl) z_Conditions_holds k_Conditions_holds p_Conditions_holds 12
theorem tk11 : TOk P w K mg base T11 49 := by
  obtain ⟨fd, F⟩ := F_Conditions___init__ c
  exact new_add (tk10 X G c ex ti base) F (mk_Conditions c) (g_Conditions X G c) (N := n_Conditions___init__) (ps := ["self", "book"]) (ow := o_Conditions___init__) (fs := b_Conditions___init__) (F.bindsN fun _ _ _ _ _ _ us hl => match us, hl with | [_, _], _ => rfl) sc_Conditions___init__ ck_Conditions___init__ (by kernel_rfl) (by kernel_rfl) (by decide) mMake p_Conditions___init__
theorem tk12 : TOk P w K mg base T12 50 := by
  obtain ⟨fd, F⟩ := F_Conditions_allowed c
  exact meth_add (tk11 X G c ex ti base) F (cl_Conditions c) (me_Conditions_allowed c) n_Conditions_allowed o_Conditions_allowed b_Conditions_allowed ["self", "labels"] mAllowed (F.bindsN fun _ _ _ _ _ _ us hl => match us, hl with | [_, _], _ => rfl) sc_Conditions_allowed ck_Conditions_allowed (by kernel_rfl) p_Conditions_allowed
theorem tk13 : TOk P w K mg base T13 51 := by
  obtain ⟨fd, F⟩ := F_Conditions_after c
  exact meth_add (tk12 X G c ex ti base) F (cl_Conditions c) (me_Conditions_after c) n_Conditions_after o_Conditions_after b_Conditions_after ["self", "labels"] mAfter (F.bindsN fun _ _ _ _ _ _ us hl => match us, hl with | [_, _], _ => rfl) sc_Conditions_after ck_Conditions_after (by kernel_rfl) p_Conditions_after
theorem tk14 : TOk P w K mg base T14 52 := by
  obtain ⟨fd, F⟩ := F_Conditions_least c
  exact meth_add (tk13 X G c ex ti base) F (cl_Conditions c) (me_Conditions_least c) n_Conditions_least o_Conditions_least b_Conditions_least ["self"] mLeast (F.bindsN fun _ _ _ _ _ _ us hl => match us, hl with | [_], _ => rfl) sc_Conditions_least ck_Conditions_least (by kernel_rfl) p_Conditions_least
theorem tk15 : TOk P w K mg base T15 53 := by
  obtain ⟨fd, F⟩ := F_Conditions_is_stable c
  exact meth_add (tk14 X G c ex ti base) F (cl_Conditions c) (me_Conditions_is_stable c) n_Conditions_is_stable o_Conditions_is_stable b_Conditions_is_stable ["self", "labels"] mStab (F.bindsN fun _ _ _ _ _ _ us hl => match us, hl with | [_, _], _ => rfl) sc_Conditions_is_stable ck_Conditions_is_stable (by kernel_rfl) p_Conditions_is_stable
theorem tk16 : TOk P w K mg base T16 54 := by
  obtain ⟨fd, F⟩ := F_agrees c
  exact fn_add (tk15 X G c ex ti base) F (g_agrees X G c) n_agrees o_agrees b_agrees ["less", "more"] mAgrees (F.bindsN fun _ _ _ _ _ _ us hl => match us, hl with | [_, _], _ => rfl) sc_agrees ck_agrees (by kernel_rfl) p_agrees
theorem tk17 : TOk P w K mg base T17 55 := by
  obtain ⟨fd, F⟩ := F_known_condition_labels c
  exact fn_add (tk16 X G c ex ti base) F (g_known_condition_labels X G c) n_known_condition_labels o_known_condition_labels b_known_condition_labels ["known", "way"] mKnown (F.bindsN fun _ _ _ _ _ _ us hl => match us, hl with | [_, _], _ => rfl) sc_known_condition_labels ck_known_condition_labels (by kernel_rfl) p_known_condition_labels
theorem tk18 : TOk P w K mg base T18 56 := by
  obtain ⟨fd, F⟩ := F_condition_labels c
  exact fn_add (tk17 X G c ex ti base) F (g_condition_labels X G c) n_condition_labels o_condition_labels b_condition_labels ["book", "way"] mCond (F.bindsN fun _ _ _ _ _ _ us hl => match us, hl with | [_, _], _ => rfl) sc_condition_labels ck_condition_labels (by kernel_rfl) p_condition_labels
theorem tk19 : TOk P w K mg base T19 57 := by
  obtain ⟨fd, F⟩ := F_labels_stand c
  exact fn_add (tk18 X G c ex ti base) F (g_labels_stand X G c) n_labels_stand o_labels_stand b_labels_stand ["book", "way", "labels"] mStand (F.bindsN fun _ _ _ _ _ _ us hl => match us, hl with | [_, _, _], _ => rfl) sc_labels_stand ck_labels_stand (by kernel_rfl) p_labels_stand
theorem tk20 : TOk P w K mg base T20 58 := by
  obtain ⟨fd, F⟩ := F__law_same c
  exact fn_add (tk19 X G c ex ti base) F (g__law_same X G c) n__law_same o__law_same b__law_same ["told", "due"] mSame (F.bindsN fun _ _ _ _ _ _ us hl => match us, hl with | [_, _], _ => rfl) sc__law_same ck__law_same (by kernel_rfl) p__law_same
theorem tk21 : TOk P w K mg base T21 59 := by
  obtain ⟨fd, F⟩ := F__law_stream c
  exact fn_add (tk20 X G c ex ti base) F (g__law_stream X G c) n__law_stream o__law_stream b__law_stream ["script"] mStream (F.bindsN fun _ _ _ _ _ _ us hl => match us, hl with | [_], _ => rfl) sc__law_stream ck__law_stream (by kernel_rfl) p__law_stream
theorem tk22 : TOk P w K mg base T22 60 := by
  obtain ⟨fd, F⟩ := F__law_next c
  exact (tk21 X G c ex ti base).add (e := ⟨1, 2, 1, mNext⟩) (ps := ["state", "many"]) rfl (by decide) (next_fn F (by kernel_rfl) (by kernel_rfl) (f_len X G c) (f_int X G c)) (g__law_next X G c) F.kp (F.bindsN fun _ _ _ _ _ _ us hl => match us, hl with | [_, _], _ => rfl)
theorem tk23 : TOk P w K mg base T23 61 := by
  obtain ⟨fd, F⟩ := F__law_claims c
  exact fn_add (tk22 X G c ex ti base) F (g__law_claims X G c) n__law_claims o__law_claims b__law_claims ["state", "many"] mClaims (F.bindsN fun _ _ _ _ _ _ us hl => match us, hl with | [_, _], _ => rfl) sc__law_claims ck__law_claims (by kernel_rfl) p__law_claims
theorem tk24 : TOk P w K mg base T24 62 := by
  obtain ⟨fd, F⟩ := F__law_subsets c
  exact fn_add (tk23 X G c ex ti base) F (g__law_subsets X G c) n__law_subsets o__law_subsets b__law_subsets ["claims"] mSubs (F.bindsN fun _ _ _ _ _ _ us hl => match us, hl with | [_], _ => rfl) sc__law_subsets ck__law_subsets (by kernel_rfl) p__law_subsets
theorem tk25 : TOk P w K mg base T25 63 := by
  obtain ⟨fd, F⟩ := F__law_longer c
  exact fn_add (tk24 X G c ex ti base) F (g__law_longer X G c) n__law_longer o__law_longer b__law_longer ["rows"] mLonger (F.bindsN fun _ _ _ _ _ _ us hl => match us, hl with | [_], _ => rfl) sc__law_longer ck__law_longer (by kernel_rfl) p__law_longer
theorem tk26 : TOk P w K mg base T26 64 := by
  obtain ⟨fd, F⟩ := F__law_all_labels c
  exact fn_add (tk25 X G c ex ti base) F (g__law_all_labels X G c) n__law_all_labels o__law_all_labels b__law_all_labels ["many"] mLAll (F.bindsN fun _ _ _ _ _ _ us hl => match us, hl with | [_], _ => rfl) sc__law_all_labels ck__law_all_labels (by kernel_rfl) p__law_all_labels
theorem tk27 : TOk P w K mg base T27 65 := by
  obtain ⟨fd, F⟩ := F__law_inner c
  exact fn_add (tk26 X G c ex ti base) F (g__law_inner X G c) n__law_inner o__law_inner b__law_inner ["formula"] mLInner (F.bindsN fun _ _ _ _ _ _ us hl => match us, hl with | [_], _ => rfl) sc__law_inner ck__law_inner (by kernel_rfl) p__law_inner
theorem tk28 : TOk P w K mg base T28 78 := by
  obtain ⟨fd, F⟩ := F__law_measure c
  exact rec_add (tk27 X G c ex ti base) F (g__law_measure X G c) n__law_measure o__law_measure b__law_measure ["formula"] mLMeas c__law_measure (F.bindsN fun _ _ _ _ _ _ us hl => match us, hl with | [_], _ => rfl) sc__law_measure ck__law_measure (by kernel_rfl) z__law_measure k__law_measure p__law_measure 12
theorem tk29 : TOk P w K mg base T29 91 := by
  obtain ⟨fd, F⟩ := F__law_true c
  exact rec_add (tk28 X G c ex ti base) F (g__law_true X G c) n__law_true o__law_true b__law_true ["formula", "chosen"] mLTrue c__law_true (F.bindsN fun _ _ _ _ _ _ us hl => match us, hl with | [_, _], _ => rfl) sc__law_true ck__law_true (by kernel_rfl) z__law_true k__law_true p__law_true 12
theorem tk30 : TOk P w K mg base T30 92 := by
  obtain ⟨fd, F⟩ := F__law_truths c
  exact fn_add (tk29 X G c ex ti base) F (g__law_truths X G c) n__law_truths o__law_truths b__law_truths ["book"] mTruths (F.bindsN fun _ _ _ _ _ _ us hl => match us, hl with | [_], _ => rfl) sc__law_truths ck__law_truths (by kernel_rfl) p__law_truths
theorem tk31 : TOk P w K mg base T31 97 := by
  obtain ⟨fd, F⟩ := F__law_formula c
  exact rec_add (tk30 X G c ex ti base) F (g__law_formula X G c) n__law_formula o__law_formula b__law_formula ["state", "claims", "deep"] mForm c__law_formula (F.bindsN fun _ _ _ _ _ _ us hl => match us, hl with | [_, _, _], _ => rfl) sc__law_formula ck__law_formula (by kernel_rfl) z__law_formula k__law_formula p__law_formula 4
theorem tk32 : TOk P w K mg base T32 98 := by
  obtain ⟨fd, F⟩ := F__law_conditions c
  exact fn_add (tk31 X G c ex ti base) F (g__law_conditions X G c) n__law_conditions o__law_conditions b__law_conditions ["state", "most"] mConds (F.bindsN fun _ _ _ _ _ _ us hl => match us, hl with | [_, _], _ => rfl) sc__law_conditions ck__law_conditions (by kernel_rfl) p__law_conditions
theorem tk33 : TOk P w K mg base T33 99 := by
  obtain ⟨fd, F⟩ := F__law_allowed c
  exact fn_add (tk32 X G c ex ti base) F (g__law_allowed X G c) n__law_allowed o__law_allowed b__law_allowed ["book", "labels"] mLAllowed (F.bindsN fun _ _ _ _ _ _ us hl => match us, hl with | [_, _], _ => rfl) sc__law_allowed ck__law_allowed (by kernel_rfl) p__law_allowed
theorem tk34 : TOk P w K mg base T34 100 := by
  obtain ⟨fd, F⟩ := F__law_next_labels c
  exact fn_add (tk33 X G c ex ti base) F (g__law_next_labels X G c) n__law_next_labels o__law_next_labels b__law_next_labels ["book", "truths", "labels"] mLNext (F.bindsN fun _ _ _ _ _ _ us hl => match us, hl with | [_, _, _], _ => rfl) sc__law_next_labels ck__law_next_labels (by kernel_rfl) p__law_next_labels
theorem tk35 : TOk P w K mg base T35 101 := by
  obtain ⟨fd, F⟩ := F__law_agrees c
  exact fn_add (tk34 X G c ex ti base) F (g__law_agrees X G c) n__law_agrees o__law_agrees b__law_agrees ["less", "more"] mAgrees (F.bindsN fun _ _ _ _ _ _ us hl => match us, hl with | [_, _], _ => rfl) sc__law_agrees ck__law_agrees (by kernel_rfl) p__law_agrees
theorem tk36 : TOk P w K mg base T36 102 := by
  obtain ⟨fd, F⟩ := F__law_is_stable_model c
  exact fn_add (tk35 X G c ex ti base) F (g__law_is_stable_model X G c) n__law_is_stable_model o__law_is_stable_model b__law_is_stable_model ["book", "truths", "labels"] mLStab (F.bindsN fun _ _ _ _ _ _ us hl => match us, hl with | [_, _, _], _ => rfl) sc__law_is_stable_model ck__law_is_stable_model (by kernel_rfl) p__law_is_stable_model
theorem tk37 : TOk P w K mg base T37 103 := by
  obtain ⟨fd, F⟩ := F__law_condition_labels c
  exact fn_add (tk36 X G c ex ti base) F (g__law_condition_labels X G c) n__law_condition_labels o__law_condition_labels b__law_condition_labels ["book", "way"] mLCond (F.bindsN fun _ _ _ _ _ _ us hl => match us, hl with | [_, _], _ => rfl) sc__law_condition_labels ck__law_condition_labels (by kernel_rfl) p__law_condition_labels
theorem tk38 : TOk P w K mg base T38 104 := by
  obtain ⟨fd, F⟩ := F__law_told c
  exact fn_add (tk37 X G c ex ti base) F (g__law_told X G c) n__law_told o__law_told b__law_told ["kind", "book", "way", "labels"] mTold (F.bindsN fun _ _ _ _ _ _ us hl => match us, hl with | [_, _, _, _], _ => rfl) sc__law_told ck__law_told (by kernel_rfl) p__law_told
end
end DL

/-! S2: the end -/
namespace DL
open PySem PySem.Spec PyProof.Rows L2
theorem facts {P : Program} {w : World} {K : PySem.W.Frag} {h : Heap} {mg : Str → Option Value} {f : Addr} (X : K.In h) (G : h.Ns mainGlobals mg) (hfa : mg ("law" : Str) = some (.ref f)) (c : He.SaysD faH fnH K) (ex : exH K = true) (ti : TabsIn tsH w K) :
    ∃ fd : FuncData, (∀ (s : Shared) (v : Value), BindsTo s fd ⟨[v], []⟩ [("script", v)]) ∧ ∀ base : Heap, K.In base → base.Ns mainGlobals mg → FnG P w K mg base 105 f fd ["script"] (spOf K 1 (dcSs T38 b_law) mLaw) := by
  obtain ⟨fd, F⟩ := F_law c
  have e := hfa.symm.trans (g_law X G c)
  cases e
  have b := FunD.bindsA (ps := ["script"]) F fun _ _ _ _ _ _ us hl => match us, hl with | [_], _ => rfl
  exact ⟨fd, fun s v => b s [v] rfl, fun base _ _ => (fn_rule (tk38 X G c ex ti base) F sc_law ck_law (by kernel_rfl)).imp (spOf_imp p_law)⟩
end DL
open PySem PySem.W PySem.Calls PyProof.Rows
theorem PySem.Challenge.cw_sayagainst_k33_whole_conditions_and_what_holds : PySem.Challenge.rw_sayagainst_k33_whole_conditions_and_what.Holds := by
  w_on; o_law
  refine HandSHeadRun.head_any (r := OpenLaw.row PySem.Challenge.rw_sayagainst_k33_whole_conditions_and_what) (q := view (OpenLaw.row PySem.Challenge.rw_sayagainst_k33_whole_conditions_and_what).prog [54]) (H := DL.hkH) (ob := DL.obH) (M := 6000) (loose := DL.looseH) (d := HandSHeadRun.topDef (OpenLaw.row PySem.Challenge.rw_sayagainst_k33_whole_conditions_and_what).prog 54) (kwd := []) DL.obH_eq
    (by kernel_rfl) (fun s => by kernel_rfl) DL.runH (by kernel_rfl) (by kernel_rfl) (by kernel_rfl) (by rfl) (by first | assumption | decide +kernel) (by decide +kernel) ⟨rfl, rfl, rfl, rfl, rfl, by decide +kernel⟩ ?hw ?hc
  case hw => w_witness2
  case hc =>
    refine DL.walkM (l := PySem.Challenge.rw_sayagainst_k33_whole_conditions_and_what) (n := 63) (k := 105) (c := DL.dcSs DL.T38 DL.b_law) (x := "script") (m := DL.mLaw) rfl (by decide) (by kernel_rfl) ⟨rfl, by decide, by decide⟩ DL.cost ?F fun ns hl => ⟨ns, rfl, hl, rfl⟩
    intro w mg fa h Y G hmg0
    obtain ⟨K, KX, c, ex, ti⟩ := Y
    have hmg : mg ("law" : PySem.Str) = some (.ref fa) := by
      have e : (HandSHeadRun.topDef (OpenLaw.row PySem.Challenge.rw_sayagainst_k33_whole_conditions_and_what).prog 54).name = ("law" : PySem.Str) := by kernel_rfl
      rw [← e]
      exact hmg0
    obtain ⟨fd, hb, hF⟩ := DL.facts (P := (PySem.Challenge.rw_sayagainst_k33_whole_conditions_and_what).prog) (w := w) KX G hmg c ex ti
    exact ⟨K, fd, KX, hb, hF⟩
