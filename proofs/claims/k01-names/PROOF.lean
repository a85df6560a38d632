import PyProof.Rows.All
import Wide.All
import OpenK.AllK
import Wide.FinOn
import HandS.ForMost
import HandS.More
import HandS.Conv
import HandS.Wide
import HandS.WordsExc
import HandS.Defaults
import KE.KDictKeyed
import KE.KDictWalk
import HandS.IsInst
import HandS.TupAny
import HandS.Deep
import HandS.StrMore
import HandS.CallSlots
import HandS.Walk
import HandS.Head0
import HandS.Head1
import HandS.Head2
import HandS.HeadEnd
import HandS.HeadHook1
import HandS.HeadHook2
import PySem.Challenge.RW_homequay_k01_names_and_numbers
set_option Elab.async false
set_option linter.all false
set_option maxRecDepth 100000
set_option maxHeartbeats 4000000
set_option autoImplicit false
/-! HQ1: data, values, memory of the evaluator; how they stand in the abstract heap. -/
namespace HQ
open PySem PySem.Spec PyProof.Rows L2

/-- data that never changes any more -/
inductive T where
  | non | bl (b : Bool) | int (i : Int) | str (s : Str) | ty (n : String)
  | fn (i : Nat) | cls (c : Nat)
  | tup (ts : List T) | lst (ts : List T) | scr (ns : List Int)
  | dic (ks vs : List T)
  | ins (c : Nat) (ns : List Str) (ts : List T)

/-- a value: data, a live object, a tuple with live objects in it -/
inductive W where
  | t (t : T) | ref (n : Nat) | tup (ws : List W)

/-- a live object -/
inductive O where
  | lst (ws : List W)
  | dic (ks : List T) (vs : List W)
  | ins (c : Nat) (ns : List Str) (ws : List W)
  | dead

abbrev Mem := List O
abbrev En := List (Option W)
abbrev Sg := L2.St

/-- where the program's defs and classes stand -/
structure Ad where
  fa : Nat → Addr
  ca : Nat → Addr

mutual
def keyT : T → Option NestedKey
  | .non => some .none
  | .bl b => some (.num (if b then 1 else 0))
  | .int i => some (.num i)
  | .str s => some (.text s)
  | .tup ts => (keyTs ts).map NestedKey.tup
  | _ => none
def keyTs : List T → Option (List NestedKey)
  | [] => some []
  | t :: ts => match keyT t, keyTs ts with
    | some k, some ks => some (k :: ks)
    | _, _ => none
end

/-- an entry of a dict -/
structure DE where
  k : NestedKey
  kv : V
  vv : V
/-- the object at a is a dict of these entries -/
def DicP (w : World) (a : Addr) (es : List DE) (h : Heap) : Prop :=
  (a == sysModules) = false ∧ es.length ≤ sizeLine ∧ ∃ (o : Obj) (xs : Array DictEntry) (ep : Nat), h.get? a = some o ∧ o.ExactDict ∧ o.data = .dict xs ep ∧
    Paired (fun (e : DE) (x : DictEntry) => x.hash = e.k.hash w ∧ RelV e.kv x.key ∧ RelV e.vv x.val) es xs.toList
def dicO (w : World) (a : Addr) (es : List DE) : HO := .ext (DicP w a es)

section
variable (D : Ad) (w : World)
mutual
def RT (F : Hp) : T → V → Prop
  | .non, v => v = .non
  | .bl b, v => v = .bl b
  | .int i, v => v = .int i
  | .str s, v => v = .str s
  | .ty n, v => v = .ty n
  | .fn i, v => v = .ref (D.fa i)
  | .cls c, v => v = .ref (D.ca c)
  | .tup ts, v => ∃ a vs, v = .ref a ∧ F a = some (.tup vs) ∧ RTs F ts vs
  | .lst ts, v => ∃ a vs, v = .ref a ∧ F a = some (.lst vs) ∧ RTs F ts vs
  | .scr ns, v => ∃ a o, v = .ref a ∧ F a = some (.frz o (.lst (ns.map V.int)))
  | .dic ks vs, v => ∃ a es, v = .ref a ∧ F a = some (dicO w a es) ∧ RTs F ks (es.map (·.kv)) ∧ RTs F vs (es.map (·.vv)) ∧ keyTs ks = some (es.map (·.k)) ∧ (es.map (·.k)).Nodup
  | .ins c ns ts, v => ∃ a dx fs, v = .ref a ∧ F a = some (.ins (D.ca c) dx fs) ∧ fs.map (·.1) = ns ∧ RTs F ts (fs.map (·.2))
def RTs (F : Hp) : List T → List V → Prop
  | [], vs => vs = []
  | t :: ts, vs => ∃ v r, vs = v :: r ∧ RT F t v ∧ RTs F ts r
end
mutual
def RW (F : Hp) (as : List Addr) : W → V → Prop
  | .t t, v => RT D w F t v
  | .ref n, v => ∃ a, as[n]? = some a ∧ v = .ref a
  | .tup ws, v => ∃ a vs, v = .ref a ∧ F a = some (.tup vs) ∧ RWs F as ws vs
def RWs (F : Hp) (as : List Addr) : List W → List V → Prop
  | [], vs => vs = []
  | u :: us, vs => ∃ v r, vs = v :: r ∧ RW F as u v ∧ RWs F as us r
end
/-- a live object stands so -/
def RO (F : Hp) (as : List Addr) (a : Addr) (o : Option HO) : O → Prop
  | .lst ws => ∃ vs, o = some (.lst vs) ∧ RWs D w F as ws vs
  | .dic ks ws => ∃ es, o = some (dicO w a es) ∧ RTs D w F ks (es.map (·.kv)) ∧ RWs D w F as ws (es.map (·.vv)) ∧ keyTs ks = some (es.map (·.k)) ∧ (es.map (·.k)).Nodup
  | .ins c ns ws => ∃ dx fs, o = some (.ins (D.ca c) dx fs) ∧ fs.map (·.1) = ns ∧ RWs D w F as ws (fs.map (·.2))
  | .dead => True

structure Sim (F H : Hp) (as : List Addr) (μ : Mem) : Prop where
  sub : Same F H
  len : as.length = μ.length
  nd : as.Nodup
  there : ∀ a ∈ as, H a ≠ none
  out : ∀ (n : Nat) a o, as[n]? = some a → μ[n]? = some o → o ≠ .dead → F a = none
  obj : ∀ (n : Nat) a o, as[n]? = some a → μ[n]? = some o → RO D w F as a (H a) o
end

/-- how a state goes on -/
structure Ext (F H : Hp) (as : List Addr) (F' H' : Hp) (as' : List Addr) : Prop where
  fs : Same F F'
  more : ∃ r, as' = as ++ r ∧ ∀ a ∈ r, H a = none
  keep : ∀ a o, H a = some o → a ∉ as → H' a = some o
  newF : ∀ a, F' a ≠ none → F a ≠ none ∨ H a = none ∨ a ∈ as

section
variable {F H F1 H1 F2 H2 : Hp} {as as1 as2 : List Addr}
theorem Ext.pre {F H : Hp} {as : List Addr} {F1 H1 : Hp} {as1 : List Addr} (e : Ext F H as F1 H1 as1) : ∃ r, as1 = as ++ r := let ⟨r, q, _⟩ := e.more; ⟨r, q⟩
theorem Ext.refl : Ext F H as F H as := ⟨Same.refl _, ⟨[], by simp, by simp⟩, fun _ _ h _ => h, fun _ h => .inl h⟩
theorem Ext.free (e : Ext F H as F1 H1 as1) {a : Addr} (h : H1 a = none) (hs : a ∉ as) : H a = none := by
  cases q : H a with
  | none => rfl
  | some o => rw [e.keep a o q hs] at h; cases h
theorem Ext.trans (a : Ext F H as F1 H1 as1) (b : Ext F1 H1 as1 F2 H2 as2) (live : ∀ x ∈ as1, H1 x ≠ none) : Ext F H as F2 H2 as2 := by
  obtain ⟨r1, e1, n1⟩ := a.more
  obtain ⟨r2, e2, n2⟩ := b.more
  refine ⟨a.fs.trans b.fs, ⟨r1 ++ r2, by rw [e2, e1, List.append_assoc], fun x hx => ?_⟩, fun x o h hn => ?_, fun x h => ?_⟩
  · rcases List.mem_append.mp hx with hx | hx
    · exact n1 x hx
    · refine a.free (n2 x hx) fun hm => ?_
      exact live x (by rw [e1]; exact List.mem_append_left _ hm) (n2 x hx)
  · refine b.keep x o (a.keep x o h hn) fun hm => ?_
    rw [e1] at hm
    rcases List.mem_append.mp hm with hm | hm
    · exact hn hm
    · rw [n1 x hm] at h; cases h
  · rcases b.newF x h with q | q | q
    · exact a.newF x q
    · by_cases hm : x ∈ as
      · exact .inr (.inr hm)
      · exact .inr (.inl (a.free q hm))
    · rw [e1] at q
      rcases List.mem_append.mp q with q | q
      · exact .inr (.inr q)
      · exact .inr (.inl (n1 x q))
end

theorem Rd.same {F F' : Hp} (h : Same F F') {a : Addr} {u : HO} (r : Rd F a u) : Rd F' a u := by
  rcases r with r | ⟨o, r⟩
  · exact .inl (h _ _ r)
  · exact .inr ⟨o, h _ _ r⟩
section
variable {D : Ad} {w : World} {F F' : Hp} (hs : Same F F')
include hs
mutual
theorem RT.mono : ∀ (t : T) (v : V), RT D w F t v → RT D w F' t v
  | .non, v, h => by simpa only [RT] using h
  | .bl b, v, h => by simpa only [RT] using h
  | .int i, v, h => by simpa only [RT] using h
  | .str s, v, h => by simpa only [RT] using h
  | .ty n, v, h => by simpa only [RT] using h
  | .fn i, v, h => by simpa only [RT] using h
  | .cls c, v, h => by simpa only [RT] using h
  | .tup ts, v, h => by
    simp only [RT] at h ⊢
    obtain ⟨a, vs, e, q, r⟩ := h
    exact ⟨a, vs, e, hs _ _ q, RTs.mono ts vs r⟩
  | .lst ts, v, h => by
    simp only [RT] at h ⊢
    obtain ⟨a, vs, e, q, r⟩ := h
    exact ⟨a, vs, e, hs _ _ q, RTs.mono ts vs r⟩
  | .scr ns, v, h => by
    simp only [RT] at h ⊢
    obtain ⟨a, o, e, q⟩ := h
    exact ⟨a, o, e, hs _ _ q⟩
  | .dic ks vs, v, h => by
    simp only [RT] at h ⊢
    obtain ⟨a, es, e, q, r1, r2, r3⟩ := h
    exact ⟨a, es, e, hs _ _ q, RTs.mono ks _ r1, RTs.mono vs _ r2, r3⟩
  | .ins c ns ts, v, h => by
    simp only [RT] at h ⊢
    obtain ⟨a, dx, fs, e, q, r1, r2⟩ := h
    exact ⟨a, dx, fs, e, hs _ _ q, r1, RTs.mono ts _ r2⟩
theorem RTs.mono : ∀ (ts : List T) (vs : List V), RTs D w F ts vs → RTs D w F' ts vs
  | [], vs, h => by simpa only [RTs] using h
  | t :: ts, vs, h => by
    simp only [RTs] at h ⊢
    obtain ⟨v, r, e, h1, h2⟩ := h
    exact ⟨v, r, e, RT.mono t v h1, RTs.mono ts r h2⟩
end
variable {as as' : List Addr} (ha : ∃ r, as' = as ++ r)
include ha
mutual
theorem RW.mono : ∀ (u : W) (v : V), RW D w F as u v → RW D w F' as' u v
  | .t t, v, h => by
    simp only [RW] at h ⊢
    exact RT.mono hs t v h
  | .ref n, v, h => by
    simp only [RW] at h ⊢
    obtain ⟨a, e, q⟩ := h
    obtain ⟨r, rfl⟩ := ha
    exact ⟨a, by rw [List.getElem?_append_left (List.getElem?_eq_some_iff.mp e).1]; exact e, q⟩
  | .tup ws, v, h => by
    simp only [RW] at h ⊢
    obtain ⟨a, vs, e, q, r⟩ := h
    exact ⟨a, vs, e, hs _ _ q, RWs.mono ws vs r⟩
theorem RWs.mono : ∀ (us : List W) (vs : List V), RWs D w F as us vs → RWs D w F' as' us vs
  | [], vs, h => by simpa only [RWs] using h
  | t :: ts, vs, h => by
    simp only [RWs] at h ⊢
    obtain ⟨v, r, e, h1, h2⟩ := h
    exact ⟨v, r, e, RW.mono t v h1, RWs.mono ts r h2⟩
end
theorem RO.mono {a : Addr} {o : Option HO} {x : O} (h : RO D w F as a o x) : RO D w F' as' a o x := by
  cases x with
  | lst ws =>
    obtain ⟨vs, e, r⟩ := h
    exact ⟨vs, e, RWs.mono hs ha ws vs r⟩
  | dic ks ws =>
    obtain ⟨es, e, r1, r2, r3⟩ := h
    exact ⟨es, e, RTs.mono hs ks _ r1, RWs.mono hs ha ws _ r2, r3⟩
  | ins c ns ws =>
    obtain ⟨dx, fs, e, r1, r2⟩ := h
    exact ⟨dx, fs, e, r1, RWs.mono hs ha ws _ r2⟩
  | dead => trivial
end

section
variable {D : Ad} {w : World} {F : Hp} {as : List Addr}
theorem RTs.len : ∀ {ts : List T} {vs : List V}, RTs D w F ts vs → ts.length = vs.length
  | [], vs, h => by simp only [RTs] at h; subst h; rfl
  | t :: ts, vs, h => by
    simp only [RTs] at h
    obtain ⟨v, r, rfl, h1, h2⟩ := h
    simp [RTs.len h2]
theorem RWs.len : ∀ {ts : List W} {vs : List V}, RWs D w F as ts vs → ts.length = vs.length
  | [], vs, h => by simp only [RWs] at h; subst h; rfl
  | t :: ts, vs, h => by
    simp only [RWs] at h
    obtain ⟨v, r, rfl, h1, h2⟩ := h
    simp [RWs.len h2]
theorem RTs.toW : ∀ {ts : List T} {vs : List V}, RTs D w F ts vs → RWs D w F as (ts.map .t) vs
  | [], vs, h => by simpa only [RTs, RWs, List.map_nil] using h
  | t :: ts, vs, h => by
    simp only [RTs, RWs, List.map_cons, RW] at h ⊢
    obtain ⟨v, r, rfl, h1, h2⟩ := h
    exact ⟨v, r, rfl, h1, RTs.toW h2⟩
theorem RWs.toT : ∀ {ts : List T} {vs : List V}, RWs D w F as (ts.map .t) vs → RTs D w F ts vs
  | [], vs, h => by simpa only [RTs, RWs, List.map_nil] using h
  | t :: ts, vs, h => by
    simp only [RTs, RWs, List.map_cons, RW] at h ⊢
    obtain ⟨v, r, rfl, h1, h2⟩ := h
    exact ⟨v, r, rfl, h1, RWs.toT h2⟩
theorem RWs.at_ : ∀ {us : List W} {vs : List V} {i : Nat} {u : W}, RWs D w F as us vs → us[i]? = some u → ∃ v, vs[i]? = some v ∧ RW D w F as u v
  | [], vs, i, u, h, e => by simp at e
  | x :: us, vs, 0, u, h, e => by
    simp only [RWs] at h
    obtain ⟨v, r, rfl, h1, h2⟩ := h
    simp at e; subst e
    exact ⟨v, by simp, h1⟩
  | x :: us, vs, i + 1, u, h, e => by
    simp only [RWs] at h
    obtain ⟨v, r, rfl, h1, h2⟩ := h
    obtain ⟨v', e', q⟩ := RWs.at_ (i := i) h2 (by simpa using e)
    exact ⟨v', by simpa using e', q⟩
theorem RWs.at' : ∀ {us : List W} {vs : List V} {i : Nat} {v : V}, RWs D w F as us vs → vs[i]? = some v → ∃ u, us[i]? = some u ∧ RW D w F as u v
  | [], vs, i, u, h, e => by simp only [RWs] at h; subst h; simp at e
  | x :: us, vs, 0, u, h, e => by
    simp only [RWs] at h
    obtain ⟨v, r, rfl, h1, h2⟩ := h
    simp at e; subst e
    exact ⟨x, by simp, h1⟩
  | x :: us, vs, i + 1, u, h, e => by
    simp only [RWs] at h
    obtain ⟨v, r, rfl, h1, h2⟩ := h
    obtain ⟨v', e', q⟩ := RWs.at' (i := i) h2 (by simpa using e)
    exact ⟨v', by simpa using e', q⟩
theorem RWs.app : ∀ {us us' : List W} {vs vs' : List V}, RWs D w F as us vs → RWs D w F as us' vs' → RWs D w F as (us ++ us') (vs ++ vs')
  | [], us', vs, vs', h, h' => by simp only [RWs] at h; subst h; simpa using h'
  | x :: us, us', vs, vs', h, h' => by
    simp only [RWs, List.cons_append] at h ⊢
    obtain ⟨v, r, rfl, h1, h2⟩ := h
    exact ⟨v, _, by simp, h1, RWs.app h2 h'⟩
theorem RWs.set : ∀ {us : List W} {vs : List V} {u : W} {v : V} (i : Nat), RWs D w F as us vs → RW D w F as u v → RWs D w F as (us.set i u) (vs.set i v)
  | [], vs, u, v, i, h, q => by simp only [RWs] at h; subst h; simp [RWs]
  | x :: us, vs, u, v, 0, h, q => by
    simp only [RWs, List.set_cons_zero] at h ⊢
    obtain ⟨v', r, rfl, h1, h2⟩ := h
    exact ⟨v, r, by simp, q, h2⟩
  | x :: us, vs, u, v, i + 1, h, q => by
    simp only [RWs, List.set_cons_succ] at h ⊢
    obtain ⟨v', r, rfl, h1, h2⟩ := h
    exact ⟨v', _, by simp, h1, RWs.set i h2 q⟩
theorem RWs.take : ∀ {us : List W} {vs : List V} (i : Nat), RWs D w F as us vs → RWs D w F as (us.take i) (vs.take i)
  | [], vs, i, h => by simp only [RWs] at h; subst h; simp [RWs]
  | x :: us, vs, 0, h => by simp [RWs]
  | x :: us, vs, i + 1, h => by
    simp only [RWs, List.take_succ_cons] at h ⊢
    obtain ⟨v', r, rfl, h1, h2⟩ := h
    exact ⟨v', _, by simp, h1, RWs.take i h2⟩
theorem RWs.drop : ∀ {us : List W} {vs : List V} (i : Nat), RWs D w F as us vs → RWs D w F as (us.drop i) (vs.drop i)
  | [], vs, i, h => by simp only [RWs] at h; subst h; simp [RWs]
  | x :: us, vs, 0, h => by simpa using h
  | x :: us, vs, i + 1, h => by
    simp only [RWs, List.drop_succ_cons] at h ⊢
    obtain ⟨v', r, rfl, h1, h2⟩ := h
    simpa using RWs.drop i h2
end

/-! ### outcomes -/
/-- an exception: its class, its attributes -/
structure XV where
  c : Nat
  ns : List Str
  ws : List W
inductive R (α : Type) where
  | ok (a : α) (μ : Mem)
  | exc (x : XV) (μ : Mem)
  | stuck
def R.bind {α β : Type} (r : R α) (f : α → Mem → R β) : R β := match r with
  | .ok a μ => f a μ
  | .exc x μ => .exc x μ
  | .stuck => .stuck
theorem R.ok_bind {α β : Type} (a : α) (μ : Mem) (f : α → Mem → R β) : (R.ok a μ).bind f = f a μ := rfl
theorem R.exc_bind {α β : Type} (x : XV) (μ : Mem) (f : α → Mem → R β) : (R.exc x μ : R α).bind f = .exc x μ := rfl
theorem R.stuck_bind {α β : Type} (f : α → Mem → R β) : (R.stuck : R α).bind f = .stuck := rfl

/-- an expression's meaning -/
abbrev ME := En → Mem → R W
abbrev MB := En → Mem → R Bool
abbrev MA := En → Mem → R (List W)
structure ER (D : Ad) (w : World) (F : Hp) (as : List Addr) (e : En) (σ : Sg) : Prop where
  len : e.length = σ.length
  at_ : ∀ (i : Nat) u, e[i]? = some (some u) → ∃ v, σ[i]? = some (some v) ∧ RW D w F as u v
theorem ER.mono {D : Ad} {w : World} {F F' : Hp} {as as' : List Addr} {e : En} {σ : Sg} (h : ER D w F as e σ) (hs : Same F F') (ha : ∃ r, as' = as ++ r) : ER D w F' as' e σ := ⟨h.len, fun i u q => by
  obtain ⟨v, h1, h2⟩ := h.at_ i u q
  exact ⟨v, h1, RW.mono hs ha u v h2⟩⟩
theorem ER.set {D : Ad} {w : World} {F : Hp} {as : List Addr} {e : En} {σ : Sg} {u : W} {v : V} (h : ER D w F as e σ) (i : Nat) (r : RW D w F as u v) : ER D w F as (e.set i (some u)) (σ.set i (some v)) := ⟨by simp [h.len], fun j x q => by
  by_cases e1 : i = j
  · subst e1
    by_cases hi : i < e.length
    · rw [List.getElem?_set_self hi] at q
      cases q
      exact ⟨v, List.getElem?_set_self (by rw [← h.len]; exact hi), r⟩
    · rw [List.getElem?_eq_none (by simpa using hi)] at q; cases q
  · rw [List.getElem?_set_ne e1] at q ⊢
    exact h.at_ j x q⟩
theorem ER.unset {D : Ad} {w : World} {F : Hp} {as : List Addr} {e : En} {σ : Sg} (h : ER D w F as e σ) (i : Nat) : ER D w F as (e.set i none) (σ.set i none) := ⟨by simp [h.len], fun j x q => by
  by_cases e1 : i = j
  · subst e1
    by_cases hi : i < e.length
    · rw [List.getElem?_set_self hi] at q; cases q
    · rw [List.getElem?_eq_none (by simpa using hi)] at q; cases q
  · rw [List.getElem?_set_ne e1] at q ⊢
    exact h.at_ j x q⟩
/-- an exception stands so: its own dict at d -/
def XR (D : Ad) (w : World) (F H : Hp) (as : List Addr) (x : XV) (d : Option Addr) : Prop :=
  ∃ fs, (match d with
    | some d => H d = some (.xd fs)
    | none => fs = []) ∧ fs.map (·.1) = x.ns ∧ RWs D w F as x.ws (fs.map (·.2))
section
variable (D : Ad) (w : World) (Wx : WX)
/-- what follows an outcome -/
def Po (σ : Sg) (F H : Hp) (as : List Addr) {α β : Type} (rel : Hp → List Addr → α → β → Prop) (r : R α) (Q : β → Hp → Prop) : Prop := match r with
  | .ok u μ => ∀ F' H' as' v, Ext F H as F' H' as' → Sim D w F' H' as' μ → rel F' as' u v → Q v H'
  | .exc x μ => ∀ F' H' as' d, Ext F H as F' H' as' → Sim D w F' H' as' μ → XR D w F' H' as' x d → Wx (.ref (D.ca x.c)) d σ H'
  | .stuck => False
abbrev relW : Hp → List Addr → W → V → Prop := fun F as u v => RW D w F as u v
abbrev relWs : Hp → List Addr → List W → List V → Prop := fun F as u v => RWs D w F as u v
abbrev relB : Hp → List Addr → Bool → Bool → Prop := fun _ _ a b => a = b
def RdE (m : ME) : TE := fun σ H Q => ∃ F as μ e, Sim D w F H as μ ∧ ER D w F as e σ ∧ Po D w Wx σ F H as (relW D w) (m e μ) Q
def RdB (m : MB) : TT := fun σ H Q => ∃ F as μ e, Sim D w F H as μ ∧ ER D w F as e σ ∧ Po D w Wx σ F H as relB (m e μ) Q
def RdA (m : MA) : TA := fun σ H Q => ∃ F as μ e, Sim D w F H as μ ∧ ER D w F as e σ ∧ Po D w Wx σ F H as (relWs D w) (m e μ) Q
end
section
variable {D : Ad} {w : World} {Wx : WX} {σ : Sg} {F H F1 H1 : Hp} {as as1 : List Addr} {α β γ δ : Type} {rel : Hp → List Addr → α → β → Prop} {rel' : Hp → List Addr → γ → δ → Prop}
theorem Po.from {r : R α} {Q : β → Hp → Prop} (h : Po D w Wx σ F H as rel r Q) (x : Ext F H as F1 H1 as1) (lv : ∀ a ∈ as1, H1 a ≠ none) : Po D w Wx σ F1 H1 as1 rel r Q := by
  cases r with
  | ok u μ => exact fun F' H' as' v y s q => h F' H' as' v (x.trans y lv) s q
  | exc u μ => exact fun F' H' as' v y s q => h F' H' as' v (x.trans y lv) s q
  | stuck => exact h
theorem Po.imp {r : R α} {Q Q' : β → Hp → Prop} (h : Po D w Wx σ F H as rel r Q) (k : ∀ v H, Q v H → Q' v H) : Po D w Wx σ F H as rel r Q' := by
  cases r with
  | ok u μ => exact fun F' H' as' v y s q => k _ _ (h F' H' as' v y s q)
  | exc u μ => exact h
  | stuck => exact h
/-- one after another -/
theorem Po.bind {r : R α} {f : α → Mem → R γ} {Q : δ → Hp → Prop} {Q1 : β → Hp → Prop} (h : Po D w Wx σ F H as rel' (r.bind f) Q)
    (k : ∀ u μ F' H' as' v, Ext F H as F' H' as' → Sim D w F' H' as' μ → rel F' as' u v → Po D w Wx σ F' H' as' rel' (f u μ) Q → Q1 v H') : Po D w Wx σ F H as rel r Q1 := by
  cases r with
  | ok u μ => exact fun F' H' as' v y s q => k u μ F' H' as' v y s q (Po.from h y s.there)
  | exc u μ => exact h
  | stuck => exact h
end
/-! ### weaker readings -/
theorem PE.weak {X : Cx} {e : Expr} {t t' : TE} (h : PE X e t) (k : ∀ σ H Q, t' σ H Q → t σ H Q) : PE X e t' := ⟨fun pins s σ H Q I q => h.run pins s σ H Q I (k σ H Q q)⟩
theorem PT.weak {X : Cx} {e : Expr} {t t' : TT} (h : PT X e t) (k : ∀ σ H Q, t' σ H Q → t σ H Q) : PT X e t' := ⟨fun pins s σ H Q I q => h.run pins s σ H Q I (k σ H Q q)⟩
theorem PA.weak {X : Cx} {e : List Expr} {t t' : TA} (h : PA X e t) (k : ∀ σ H Q, t' σ H Q → t σ H Q) : PA X e t' := ⟨fun pos pins s σ H Q I q => h.run pos pins s σ H Q I (k σ H Q q)⟩
theorem PS.weak {X : Cx} {e : Stmt} {t t' : TS} (h : PS X e t) (k : ∀ D σ H, t' D σ H → t D σ H) : PS X e t' := ⟨fun pins s σ H Q I q => h.run pins s σ H Q I (k Q σ H q)⟩
theorem PSs.weak {X : Cx} {e : List Stmt} {t t' : TS} (h : PSs X e t) (k : ∀ D σ H, t' D σ H → t D σ H) : PSs X e t' := ⟨fun pins s σ H Q I q => h.run pins s σ H Q I (k Q σ H q)⟩
theorem PE.ex {X : Cx} {e : Expr} {ι : Type} {t : ι → TE} (h : ∀ i, PE X e (t i)) : PE X e (fun σ H Q => ∃ i, t i σ H Q) := ⟨fun pins s σ H Q I ⟨i, q⟩ => (h i).run pins s σ H Q I q⟩

section
variable {X : Cx} {D : Ad} {w : World} {Wx : WX} {a b : Expr} {ma mb : ME}
/-- an operation on values keeps to a rule -/
def Op2 (D : Ad) (w : World) (Wx : WX) (r : R2) (f : W → W → Mem → R W) : Prop :=
  ∀ σ F H as μ u1 u2 v1 v2 (Q : VK), Sim D w F H as μ → RW D w F as u1 v1 → RW D w F as u2 v2 → Po D w Wx σ F H as (relW D w) (f u1 u2 μ) Q → r v1 v2 H Q
def Op1 (D : Ad) (w : World) (Wx : WX) (r : V → Hp → VK → Prop) (f : W → Mem → R W) : Prop :=
  ∀ σ F H as μ u v (Q : VK), Sim D w F H as μ → RW D w F as u v → Po D w Wx σ F H as (relW D w) (f u μ) Q → r v H Q
def OpA (D : Ad) (w : World) (Wx : WX) (r : List V → Hp → VK → Prop) (f : List W → Mem → R W) : Prop :=
  ∀ σ F H as μ us vs (Q : VK), Sim D w F H as μ → RWs D w F as us vs → Po D w Wx σ F H as (relW D w) (f us μ) Q → r vs H Q
def m2 (f : W → W → Mem → R W) (ma mb : ME) : ME := fun e μ => (ma e μ).bind fun u μ1 => (mb e μ1).bind fun u' μ2 => f u u' μ2
def m1 (f : W → Mem → R W) (ma : ME) : ME := fun e μ => (ma e μ).bind fun u μ1 => f u μ1
def mA (f : List W → Mem → R W) (ma : MA) : ME := fun e μ => (ma e μ).bind fun u μ1 => f u μ1
theorem rd2 {r : R2} {f : W → W → Mem → R W} (ho : Op2 D w Wx r f) (σ : Sg) (H : Hp) (Q : VK) (h : RdE D w Wx (m2 f ma mb) σ H Q) : tOp r (RdE D w Wx ma) (RdE D w Wx mb) σ H Q := by
  obtain ⟨F, as, μ, e, S, E, P⟩ := h
  refine ⟨F, as, μ, e, S, E, Po.bind (rel' := relW D w) P fun u μ1 F1 H1 as1 v X1 S1 R1 P1 => ?_⟩
  refine ⟨F1, as1, μ1, e, S1, E.mono X1.fs X1.pre, Po.bind (rel' := relW D w) P1 fun u' μ2 F2 H2 as2 v' X2 S2 R2 P2 => ?_⟩
  exact ho σ F2 H2 as2 μ2 u u' v v' Q S2 (RW.mono X2.fs X2.pre u v R1) R2 P2
theorem xe_op {op : Operator} {r : R2} {f : W → W → Mem → R W} {pos : Pos} (hr : OpR X (binaryOp op) r) (ho : Op2 D w Wx r f) (ha : PE X a (RdE D w Wx ma)) (hb : PE X b (RdE D w Wx mb)) : PE X (.BinOp a op b pos) (RdE D w Wx (m2 f ma mb)) :=
  PE.weak (pe_op hr ha hb) (rd2 ho)
theorem xe_cmp {op : CmpOp} {r : R2} {f : W → W → Mem → R W} {pos : Pos} (hr : OpR X (compareOp op) r) (ho : Op2 D w Wx r f) (ha : PE X a (RdE D w Wx ma)) (hb : PE X b (RdE D w Wx mb)) (hm : behindInMarks op b = false) : PE X (.Compare a [op] [b] pos) (RdE D w Wx (m2 f ma mb)) :=
  PE.weak (pe_cmpR hr ha hb hm) (rd2 ho)
end
end HQ
/-! HQ2: what is made, read, changed. -/
namespace HQ
open PySem PySem.Spec PyProof.Rows L2

theorem ix_nd {l : List Addr} (nd : l.Nodup) {i j : Nat} {a : Addr} (hi : l[i]? = some a) (hj : l[j]? = some a) : i = j := (List.getElem?_inj (List.getElem?_eq_some_iff.mp hi).1 nd).mp (hi.trans hj.symm)
section
variable {D : Ad} {w : World} {F H : Hp} {as : List Addr} {μ : Mem}
theorem Sim.freeF (S : Sim D w F H as μ) {p : Addr} (h : H p = none) : F p = none := by
  cases q : F p with
  | none => rfl
  | some o => rw [S.sub p o q] at h; cases h
theorem Sim.notIn (S : Sim D w F H as μ) {p : Addr} (h : H p = none) : p ∉ as := fun hm => S.there p hm h
theorem upd_sub {F : Hp} {p : Addr} {o : HO} (h : F p = none) : Same F (upd F p o) := fun b u e => by
  rw [upd_ne (ne_of_none e h)]; exact e
theorem upd_some {F : Hp} {p b : Addr} {o : HO} (h : upd F p o b ≠ none) : b = p ∨ F b ≠ none := by
  by_cases e : b = p
  · exact .inl e
  · rw [upd_ne e] at h; exact .inr h
/-- a new thing that never changes -/
theorem Sim.newF (S : Sim D w F H as μ) {p : Addr} (o : HO) (h : H p = none) : Sim D w (upd F p o) (upd H p o) as μ ∧ Ext F H as (upd F p o) (upd H p o) as := by
  have fp := S.freeF h
  have np := S.notIn h
  have ne : ∀ a ∈ as, a ≠ p := fun a ha e => np (e ▸ ha)
  refine ⟨⟨fun b u e => ?_, S.len, S.nd, fun a ha => ?_, fun n a x h1 h2 h3 => ?_, fun n a x h1 h2 => ?_⟩, ⟨upd_sub fp, ⟨[], by simp, by simp⟩, fun a u e _ => upd_sub h a u e, fun a q => ?_⟩⟩
  · by_cases q : b = p
    · subst q; rw [upd_same] at e ⊢; exact e
    · rw [upd_ne q] at e ⊢; exact S.sub b u e
  · rw [upd_ne (ne a ha)]; exact S.there a ha
  · rw [upd_ne (ne a (List.mem_of_getElem? h1))]; exact S.out n a x h1 h2 h3
  · rw [upd_ne (ne a (List.mem_of_getElem? h1))]; exact RO.mono (upd_sub fp) ⟨[], by simp⟩ (S.obj n a x h1 h2)
  · rcases upd_some q with e | e
    · subst e; exact .inr (.inl h)
    · exact .inl e
/-- a new live thing -/
theorem Sim.newL (S : Sim D w F H as μ) {p : Addr} {o : HO} {x : O} (h : H p = none) (r : RO D w F (as ++ [p]) p (some o) x) : Sim D w F (upd H p o) (as ++ [p]) (μ ++ [x]) ∧ Ext F H as F (upd H p o) (as ++ [p]) := by
  have fp := S.freeF h
  have np := S.notIn h
  have ne : ∀ a ∈ as, a ≠ p := fun a ha e => np (e ▸ ha)
  have cases_at : ∀ (n : Nat) a y, (as ++ [p])[n]? = some a → (μ ++ [x])[n]? = some y → (as[n]? = some a ∧ μ[n]? = some y) ∨ (a = p ∧ y = x) := fun n a y h1 h2 => by
    by_cases hn : n < as.length
    · rw [List.getElem?_append_left hn] at h1
      rw [List.getElem?_append_left (by rw [← S.len]; exact hn)] at h2
      exact .inl ⟨h1, h2⟩
    · have hn1 : n < (as ++ [p]).length := (List.getElem?_eq_some_iff.mp h1).1
      rw [List.length_append, List.length_singleton] at hn1
      have e : n = as.length := by omega
      subst e
      rw [List.getElem?_append_right (Nat.le_refl _)] at h1
      rw [S.len, List.getElem?_append_right (Nat.le_refl _)] at h2
      simp at h1 h2
      exact .inr ⟨h1.symm, h2.symm⟩
  refine ⟨⟨fun b u e => ?_, by simp [S.len], ?_, fun a ha => ?_, fun n a y h1 h2 h3 => ?_, fun n a y h1 h2 => ?_⟩, ⟨Same.refl _, ⟨[p], rfl, by simpa using h⟩, fun a u e _ => upd_sub h a u e, fun a q => .inl q⟩⟩
  · rw [upd_ne (ne_of_none e fp)]; exact S.sub b u e
  · rw [List.nodup_append]
    exact ⟨S.nd, by simp, fun a ha b hb => by simp at hb; subst hb; exact ne a ha⟩
  · rcases List.mem_append.mp ha with ha | ha
    · rw [upd_ne (ne a ha)]; exact S.there a ha
    · simp at ha; subst ha; rw [upd_same]; simp
  · rcases cases_at n a y h1 h2 with ⟨q1, q2⟩ | ⟨rfl, rfl⟩
    · exact S.out n a y q1 q2 h3
    · exact fp
  · rcases cases_at n a y h1 h2 with ⟨q1, q2⟩ | ⟨rfl, rfl⟩
    · rw [upd_ne (ne a (List.mem_of_getElem? q1))]; exact RO.mono (Same.refl _) ⟨[p], rfl⟩ (S.obj n a y q1 q2)
    · rw [upd_same]; exact r
/-- a live thing changes -/
theorem Sim.wrt (S : Sim D w F H as μ) {n : Nat} {a : Addr} {o : HO} {x y : O} (ha : as[n]? = some a) (hx : μ[n]? = some x) (hd : x ≠ .dead) (r : RO D w F as a (some o) y) : Sim D w F (upd H a o) as (μ.set n y) ∧ Ext F H as F (upd H a o) as := by
  have fa := S.out n a x ha hx hd
  have ma := List.mem_of_getElem? ha
  have ne : ∀ (j : Nat) b, as[j]? = some b → j ≠ n → b ≠ a := fun j b h1 h2 e => h2 (ix_nd S.nd h1 (show as[n]? = some b by rw [e]; exact ha))
  refine ⟨⟨fun b u e => ?_, by simp [S.len], S.nd, fun b hb => ?_, fun j b z h1 h2 h3 => ?_, fun j b z h1 h2 => ?_⟩, ⟨Same.refl _, ⟨[], by simp, by simp⟩, fun b u e hn => ?_, fun b q => .inl q⟩⟩
  · rw [upd_ne (ne_of_none e fa)]; exact S.sub b u e
  · by_cases e : b = a
    · subst e; rw [upd_same]; simp
    · rw [upd_ne e]; exact S.there b hb
  · by_cases e : j = n
    · subst e; rw [ha] at h1; cases h1; exact fa
    · rw [List.getElem?_set_ne (Ne.symm e)] at h2; exact S.out j b z h1 h2 h3
  · by_cases e : j = n
    · subst e
      rw [ha] at h1; cases h1
      rw [List.getElem?_set_self (List.getElem?_eq_some_iff.mp hx).1] at h2
      cases h2
      rw [upd_same]; exact r
    · rw [List.getElem?_set_ne (Ne.symm e)] at h2
      rw [upd_ne (ne j b h1 e)]; exact S.obj j b z h1 h2
  · rw [upd_ne (fun (q : b = a) => hn (by rw [q]; exact ma))]; exact e
end

/-! ### data out of values -/
def toT : W → Option T
  | .t t => some t
  | _ => none
def toTs : List W → Option (List T)
  | [] => some []
  | u :: us => match toT u, toTs us with
    | some t, some ts => some (t :: ts)
    | _, _ => none
theorem toTs_map : ∀ ts : List T, toTs (ts.map .t) = some ts
  | [] => rfl
  | t :: ts => by simp [toTs, toT, toTs_map ts]
theorem toTs_eq : ∀ {us : List W} {ts : List T}, toTs us = some ts → us = ts.map .t
  | [], ts, h => by simp [toTs] at h; subst h; rfl
  | u :: us, ts, h => by
    cases u with
    | t t =>
      simp only [toTs, toT] at h
      cases q : toTs us with
      | none => rw [q] at h; simp at h
      | some r =>
        rw [q] at h
        simp at h
        subst h
        simp [toTs_eq q]
    | ref n => simp [toTs, toT] at h
    | tup ws => simp [toTs, toT] at h
/-- a tuple of these -/
def mkTup (ws : List W) : W := match toTs ws with
  | some ts => .t (.tup ts)
  | none => .tup ws
/-- a new list of these: live, or for good -/
def mkL (live : Bool) (ws : List W) (μ : Mem) : R W := match live with
  | true => .ok (.ref μ.length) (μ ++ [.lst ws])
  | false => match toTs ws with
    | some ts => .ok (.t (.lst ts)) μ
    | none => .stuck
def bigL : Nat := 16777216
theorem bigL_le : bigL ≤ sizeLine := by rw [sizeLine_eq]; decide
/-- the items of a list (no locked one) -/
def getLT (u : W) (μ : Mem) : Option (List W) := match u with
  | .t (.lst ts) => some (ts.map .t)
  | .ref n => match μ[n]? with
    | some (.lst ws) => some ws
    | _ => none
  | _ => none
/-- the items of a list -/
def getL (u : W) (μ : Mem) : Option (List W) := match u with
  | .t (.scr ns) => some (ns.map fun n => .t (.int n))
  | u => getLT u μ
def getT (u : W) : Option (List W) := match u with
  | .t (.tup ts) => some (ts.map .t)
  | .tup ws => some ws
  | _ => none

section
variable {D : Ad} {w : World} {Wx : WX} {σ : Sg} {F H : Hp} {as : List Addr} {μ : Mem} {Q : VK}
/-- at once -/
theorem Po.now {α β : Type} {rel : Hp → List Addr → α → β → Prop} {u : α} {v : β} {Q : β → Hp → Prop} (h : Po D w Wx σ F H as rel (.ok u μ) Q) (S : Sim D w F H as μ) (r : rel F as u v) : Q v H := h F H as v Ext.refl S r
theorem Po.tup {ws : List W} {vs : List V} (h : Po D w Wx σ F H as (relW D w) (.ok (mkTup ws) μ) Q) (S : Sim D w F H as μ) (r : RWs D w F as ws vs) {p : Addr} (hp : H p = none) : Q (.ref p) (upd H p (.tup vs)) := by
  obtain ⟨S1, X1⟩ := S.newF (.tup vs) hp
  refine h _ _ _ _ X1 S1 ?_
  have r1 := RWs.mono X1.fs X1.pre ws vs r
  show RW D w (upd F p (.tup vs)) as (mkTup ws) (.ref p)
  unfold mkTup
  cases q : toTs ws with
  | none => simp only [RW]; exact ⟨p, vs, rfl, upd_same, r1⟩
  | some ts =>
    rw [toTs_eq q] at r1
    simp only [RW, RT]
    exact ⟨p, vs, rfl, upd_same, r1.toT⟩
theorem Po.lst {live : Bool} {ws : List W} {vs : List V} (h : Po D w Wx σ F H as (relW D w) (mkL live ws μ) Q) (S : Sim D w F H as μ) (r : RWs D w F as ws vs) {p : Addr} (hp : H p = none) : Q (.ref p) (upd H p (.lst vs)) := by
  cases live with
  | true =>
    obtain ⟨S1, X1⟩ := S.newL (x := .lst ws) (o := .lst vs) hp ⟨vs, rfl, RWs.mono (Same.refl _) ⟨[p], rfl⟩ ws vs r⟩
    refine h _ _ _ _ X1 S1 ?_
    show RW D w F (as ++ [p]) (.ref μ.length) (.ref p)
    simp only [RW]
    exact ⟨p, by rw [← S.len]; simp, rfl⟩
  | false =>
    unfold mkL at h
    cases q : toTs ws with
    | none => rw [q] at h; exact h.elim
    | some ts =>
      rw [q] at h
      obtain ⟨S1, X1⟩ := S.newF (.lst vs) hp
      refine h _ _ _ _ X1 S1 ?_
      have r1 := RWs.mono X1.fs X1.pre ws vs r
      rw [toTs_eq q] at r1
      show RW D w _ as (.t (.lst ts)) (.ref p)
      simp only [RW, RT]
      exact ⟨p, vs, rfl, upd_same, r1.toT⟩
theorem getLT_ok {u : W} {ws : List W} {v : V} (S : Sim D w F H as μ) (h : getLT u μ = some ws) (r : RW D w F as u v) : ∃ a vs, v = .ref a ∧ H a = some (.lst vs) ∧ RWs D w F as ws vs := by
  cases u with
  | t t =>
    cases t <;> simp [getLT] at h
    rename_i ts
    subst h
    simp only [RW, RT] at r
    obtain ⟨a, vs, e, q, r⟩ := r
    exact ⟨a, vs, e, S.sub _ _ q, r.toW⟩
  | ref n =>
    simp only [RW] at r
    obtain ⟨a, e, rfl⟩ := r
    simp only [getLT] at h
    cases q : μ[n]? with
    | none => rw [q] at h; cases h
    | some o =>
      rw [q] at h
      cases o <;> simp at h
      subst h
      obtain ⟨vs, e1, r1⟩ := S.obj n a _ e q
      exact ⟨a, vs, rfl, e1, r1⟩
  | tup ws => simp [getLT] at h
theorem rw_ints (ns : List Int) : RWs D w F as (ns.map fun n => .t (.int n)) (ns.map V.int) := by
  induction ns with
  | nil => simp [RWs]
  | cons n ns ih =>
    simp only [List.map_cons, RWs, RW, RT]
    exact ⟨_, _, rfl, rfl, ih⟩
theorem getL_ok {u : W} {ws : List W} {v : V} (S : Sim D w F H as μ) (h : getL u μ = some ws) (r : RW D w F as u v) : ∃ a vs, v = .ref a ∧ Rd H a (.lst vs) ∧ RWs D w F as ws vs := by
  unfold getL at h
  split at h
  · rename_i ns
    cases h
    simp only [RW, RT] at r
    obtain ⟨a, o, e, q⟩ := r
    exact ⟨a, _, e, .inr ⟨o, S.sub _ _ q⟩, rw_ints ns⟩
  · obtain ⟨a, vs, e, q, r⟩ := getLT_ok S h r
    exact ⟨a, vs, e, .inl q, r⟩
theorem getT_ok {u : W} {ws : List W} {v : V} (S : Sim D w F H as μ) (h : getT u = some ws) (r : RW D w F as u v) : ∃ a vs, v = .ref a ∧ H a = some (.tup vs) ∧ RWs D w F as ws vs := by
  cases u with
  | t t =>
    cases t <;> simp [getT] at h
    rename_i ts
    subst h
    simp only [RW, RT] at r
    obtain ⟨a, vs, e, q, r⟩ := r
    exact ⟨a, vs, e, S.sub _ _ q, r.toW⟩
  | ref n => simp [getT] at h
  | tup ws =>
    simp [getT] at h
    subst h
    simp only [RW] at r
    obtain ⟨a, vs, e, q, r⟩ := r
    exact ⟨a, vs, e, S.sub _ _ q, r⟩
end
end HQ
/-! HQ3: statements. -/
namespace HQ
open PySem PySem.Spec PyProof.Rows L2

inductive SR where
  | nx (e : En) (μ : Mem)
  | rt (u : W) (μ : Mem)
  | ct (e : En) (μ : Mem)
  | bk (e : En) (μ : Mem)
  | exc (x : XV) (e : En) (μ : Mem)
  | stuck
abbrev MS := En → Mem → SR
def SR.seq (r : SR) (k : MS) : SR := match r with
  | .nx e μ => k e μ
  | r => r
/-- an expression's outcome in a statement -/
def R.st {α : Type} (r : R α) (e : En) (k : α → Mem → SR) : SR := match r with
  | .ok a μ => k a μ
  | .exc x μ => .exc x e μ
  | .stuck => .stuck

section
variable (D : Ad) (w : World) (Wx : WX)
def PoS (F H : Hp) (as : List Addr) (r : SR) (N : Ends) : Prop := match r with
  | .nx e μ => ∀ F' H' as' σ', Ext F H as F' H' as' → Sim D w F' H' as' μ → ER D w F' as' e σ' → N.nx σ' H'
  | .ct e μ => ∀ F' H' as' σ', Ext F H as F' H' as' → Sim D w F' H' as' μ → ER D w F' as' e σ' → N.ct σ' H'
  | .bk e μ => ∀ F' H' as' σ', Ext F H as F' H' as' → Sim D w F' H' as' μ → ER D w F' as' e σ' → N.bk σ' H'
  | .rt u μ => ∀ F' H' as' v, Ext F H as F' H' as' → Sim D w F' H' as' μ → RW D w F' as' u v → N.rt v H'
  | .exc x e μ => ∀ F' H' as' σ' d, Ext F H as F' H' as' → Sim D w F' H' as' μ → ER D w F' as' e σ' → XR D w F' H' as' x d → Wx (.ref (D.ca x.c)) d σ' H'
  | .stuck => False
def RdS (m : MS) : TS := fun N σ H => ∃ F as μ e, Sim D w F H as μ ∧ ER D w F as e σ ∧ PoS D w Wx F H as (m e μ) N
end
section
variable {D : Ad} {w : World} {Wx : WX} {F H F1 H1 : Hp} {as as1 : List Addr} {N N' : Ends}
theorem PoS.from {r : SR} (h : PoS D w Wx F H as r N) (x : Ext F H as F1 H1 as1) (lv : ∀ a ∈ as1, H1 a ≠ none) : PoS D w Wx F1 H1 as1 r N := by
  cases r with
  | nx e μ => exact fun F' H' as' v y => h F' H' as' v (x.trans y lv)
  | ct e μ => exact fun F' H' as' v y => h F' H' as' v (x.trans y lv)
  | bk e μ => exact fun F' H' as' v y => h F' H' as' v (x.trans y lv)
  | rt e μ => exact fun F' H' as' v y => h F' H' as' v (x.trans y lv)
  | exc e μ => exact fun F' H' as' v d y => h F' H' as' v d (x.trans y lv)
  | stuck => exact h
/-- an expression first -/
theorem PoS.ex {α β : Type} {rel : Hp → List Addr → α → β → Prop} {r : R α} {e : En} {σ : Sg} {k : α → Mem → SR} {Q : β → Hp → Prop} (h : PoS D w Wx F H as (r.st e k) N) (E : ER D w F as e σ)
    (q : ∀ u μ F' H' as' v, Ext F H as F' H' as' → Sim D w F' H' as' μ → ER D w F' as' e σ → rel F' as' u v → PoS D w Wx F' H' as' (k u μ) N → Q v H') : Po D w Wx σ F H as rel r Q := by
  cases r with
  | ok u μ => exact fun F' H' as' v y s r => q u μ F' H' as' v y s (E.mono y.fs y.pre) r (PoS.from h y s.there)
  | exc u μ => exact fun F' H' as' d y s r => h F' H' as' σ d y s (E.mono y.fs y.pre) r
  | stuck => exact h
theorem PoS.seq {r : SR} {k : MS} {M : Ends} (h : PoS D w Wx F H as (r.seq k) N) (hr : M.rt = N.rt) (hb : M.bk = N.bk) (hc : M.ct = N.ct)
    (q : ∀ e μ F' H' as' σ', Ext F H as F' H' as' → Sim D w F' H' as' μ → ER D w F' as' e σ' → PoS D w Wx F' H' as' (k e μ) N → M.nx σ' H') : PoS D w Wx F H as r M := by
  cases r with
  | nx e μ => exact fun F' H' as' σ' y s E => q e μ F' H' as' σ' y s E (PoS.from h y s.there)
  | ct e μ => exact fun F' H' as' σ' y s E => by rw [hc]; exact h F' H' as' σ' y s E
  | bk e μ => exact fun F' H' as' σ' y s E => by rw [hb]; exact h F' H' as' σ' y s E
  | rt e μ => exact fun F' H' as' σ' y s E => by rw [hr]; exact h F' H' as' σ' y s E
  | exc e μ => exact h
  | stuck => exact h
end

/-! ### statements -/
section
variable {X : Cx} {D : Ad} {w : World} {Wx : WX}
def sNil : MS := fun e μ => .nx e μ
def sSeq (a b : MS) : MS := fun e μ => (a e μ).seq b
def sEx (m : ME) : MS := fun e μ => (m e μ).st e fun _ μ1 => .nx e μ1
def sRet (m : ME) : MS := fun e μ => (m e μ).st e fun u μ1 => .rt u μ1
def sRetN : MS := fun _ μ => .rt (.t .non) μ
def sIf (t : MB) (a b : MS) : MS := fun e μ => (t e μ).st e fun c μ1 => if c = true then a e μ1 else b e μ1
theorem xs_nil : PSs X [] (RdS D w Wx sNil) := PSs.weak pss_nil fun N σ H ⟨F, as, μ, e, S, E, P⟩ => P F H as σ Ext.refl S E
theorem xs_cons {st : Stmt} {rest : List Stmt} {a b : MS} (h1 : PS X st (RdS D w Wx a)) (h2 : PSs X rest (RdS D w Wx b)) : PSs X (st :: rest) (RdS D w Wx (sSeq a b)) :=
  PSs.weak (pss_cons h1 h2) fun N σ H ⟨F, as, μ, e, S, E, P⟩ => ⟨F, as, μ, e, S, E, PoS.seq (M := { N with nx := RdS D w Wx b N }) P rfl rfl rfl fun e μ F' H' as' σ' y s E P => ⟨F', as', μ, e, s, E, P⟩⟩
theorem xs_ex {e : Expr} {m : ME} {pos : Pos} (he : PE X e (RdE D w Wx m)) (hs : swapsWith e none pos.line X.env = pure false) : PS X (.Expr e pos) (RdS D w Wx (sEx m)) :=
  PS.weak (ps_expr he hs) fun N σ H ⟨F, as, μ, e, S, E, P⟩ => ⟨F, as, μ, e, S, E, PoS.ex P E fun u μ F' H' as' v y s E r P => P F' H' as' σ Ext.refl s E⟩
theorem xs_ret {e : Expr} {m : ME} {pos : Pos} (he : PE X e (RdE D w Wx m)) : PS X (.Return (some e) pos) (RdS D w Wx (sRet m)) :=
  PS.weak (ps_ret he) fun N σ H ⟨F, as, μ, e, S, E, P⟩ => ⟨F, as, μ, e, S, E, PoS.ex P E fun u μ F' H' as' v y s E r P => P F' H' as' v Ext.refl s r⟩
theorem xs_retN {pos : Pos} : PS X (.Return none pos) (RdS D w Wx sRetN) :=
  PS.weak ps_retN fun N σ H ⟨F, as, μ, e, S, E, P⟩ => P F H as .non Ext.refl S (by simp only [RW, RT])
theorem xs_if {c : Expr} {a b : List Stmt} {t : MB} {ma mb : MS} {pos : Pos} (hc : PT X c (RdB D w Wx t)) (ha : PSs X a (RdS D w Wx ma)) (hb : PSs X b (RdS D w Wx mb)) : PS X (.If c a b pos) (RdS D w Wx (sIf t ma mb)) :=
  PS.weak (ps_if hc ha hb) fun N σ H ⟨F, as, μ, e, S, E, P⟩ => ⟨F, as, μ, e, S, E, PoS.ex P E fun u μ F' H' as' v y s E r P => by
    cases r
    cases u with
    | true => exact ⟨F', as', μ, e, s, E, P⟩
    | false => exact ⟨F', as', μ, e, s, E, P⟩⟩
/-! ### targets -/
/-- what a target does with a value -/
abbrev MG := W → En → Mem → Option En
def RdG (D : Ad) (w : World) (own : List Nat) (m : MG) : TG := fun v σ H Q => ∃ F as μ e u, Sim D w F H as μ ∧ ER D w F as e σ ∧ RW D w F as u v ∧ ∃ e', m u e μ = some e' ∧ ∀ σ', ER D w F as e' σ' → (∀ vs, (∀ i ∈ own, i ∈ vs) → wipe σ' vs = wipe σ vs) → Q σ' H
theorem wipe_set {σ : Sg} {i : Nat} {x : Option V} : ∀ {vs : List Nat}, i ∈ vs → wipe (σ.set i x) vs = wipe σ vs
  | [], h => nomatch h
  | v :: vs, h => by
    unfold wipe
    by_cases hv : i ∈ vs
    · rw [wipe_set hv]
    · have e : i = v := by
        rcases List.mem_cons.mp h with h | h
        · exact h
        · exact absurd h hv
      subst e
      have : ∀ {vs : List Nat}, i ∉ vs → wipe (σ.set i x) vs = (wipe σ vs).set i x := fun {vs} hn => by
        induction vs with
        | nil => rfl
        | cons u us ih =>
          unfold wipe
          rw [ih (fun q => hn (List.mem_cons_of_mem _ q)), List.set_comm _ _ (fun q => hn (by rw [q]; exact List.mem_cons_self))]
      rw [this hv, List.set_set]
def gN (i : Nat) : MG := fun u e _ => some (e.set i (some u))
theorem xg_name {i : Nat} {x : Str} {pos : Pos} (hN : X.N.Nodup) (hi : X.N[i]? = some x) (hx : Loc X.env.scope x) (hf : X.fn x = true ∨ X.env.scope.names.lookup x = some .local) : PG X (.Name x pos) (RdG D w [i] (gN i)) :=
  ⟨fun pins s σ H v u Q I r ⟨F, as, μ, e, u', S, E, R, e', he, k⟩ => (pg_name hN hi hx hf).run pins s σ H v u Q I r (by
    cases he
    exact k _ (E.set i R) fun vs h => wipe_set (h i (by simp)))⟩
def sAsg (m : ME) (g : MG) : MS := fun e μ => (m e μ).st e fun u μ1 => match g u e μ1 with
  | some e' => .nx e' μ1
  | none => .stuck
theorem xs_asg {tg e : Expr} {m : ME} {g : MG} {own : List Nat} {pos : Pos} (he : PE X e (RdE D w Wx m)) (hg : PG X tg (RdG D w own g)) (hs : swapsWithSole [tg] e pos.line X.env = pure false) (hw : swappedStores [tg] e X.env = pure none)
    (h1 : (assignEach [tg] X.env).map (·.2) = [assign tg X.env]) : PS X (.Assign [tg] e pos) (RdS D w Wx (sAsg m g)) :=
  PS.weak (ps_asg he hg hs hw h1) fun N σ H ⟨F, as, μ, e, S, E, P⟩ => ⟨F, as, μ, e, S, E, PoS.ex P E fun u μ F' H' as' v y s E r P => by
    cases q : g u e μ with
    | none => simp only [q] at P; exact P.elim
    | some e' =>
      simp only [q] at P
      exact ⟨F', as', μ, e, u, s, E, r, e', q, fun σ' E' _ => P F' H' as' σ' Ext.refl s E'⟩⟩
end

/-! ### loops -/
/-- the iterator J goes over ys while gd stands -/
def Walks (D : Ad) (w : World) (J : It) (gd : Mem → Prop) (ys : List W) (F0 : Hp) (as0 : List Addr) : Prop :=
  ∀ i F H as μ, Sim D w F H as μ → Same F0 F → (∃ r, as = as0 ++ r) → gd μ →
    (∀ y, ys[i]? = some y → J.go i H ∧ ∀ x H', J.yld i H x H' → ∃ F', Sim D w F' H' as μ ∧ Ext F H as F' H' as ∧ RW D w F' as y x) ∧ (ys.length = i → J.stop i H)
/-- what is walked: the guard, the items -/
structure WK where
  gd : Mem → Prop
  ys : List W
abbrev MI := En → Mem → R WK
def PoI (D : Ad) (w : World) (Wx : WX) (σ : Sg) (F H : Hp) (as : List Addr) (r : R WK) (Rr : It → Hp → Prop) : Prop := match r with
  | .ok k μ1 => ∀ F' H' as' J, Ext F H as F' H' as' → Sim D w F' H' as' μ1 → Walks D w J k.gd k.ys F' as' → Rr J H'
  | .exc x μ1 => ∀ F' H' as' d, Ext F H as F' H' as' → Sim D w F' H' as' μ1 → XR D w F' H' as' x d → Wx (.ref (D.ca x.c)) d σ H'
  | .stuck => False
def RdI (D : Ad) (w : World) (Wx : WX) (m : MI) : TI := fun σ H Rr => ∃ F as μ e, Sim D w F H as μ ∧ ER D w F as e σ ∧ PoI D w Wx σ F H as (m e μ) Rr
theorem PoI.from {D : Ad} {w : World} {Wx : WX} {σ : Sg} {F H F1 H1 : Hp} {as as1 : List Addr} {r : R WK} {Rr : It → Hp → Prop} (h : PoI D w Wx σ F H as r Rr) (x : Ext F H as F1 H1 as1) (lv : ∀ a ∈ as1, H1 a ≠ none) : PoI D w Wx σ F1 H1 as1 r Rr := by
  cases r with
  | ok u μ => exact fun F' H' as' v y s q => h F' H' as' v (x.trans y lv) s q
  | exc u μ => exact fun F' H' as' v y s q => h F' H' as' v (x.trans y lv) s q
  | stuck => exact h
theorem PoI.bind {D : Ad} {w : World} {Wx : WX} {α β : Type} {rel : Hp → List Addr → α → β → Prop} {σ : Sg} {H F : Hp} {as : List Addr} {Rr : It → Hp → Prop} {r : R α} {f : α → Mem → R WK} {Q1 : β → Hp → Prop} (P : PoI D w Wx σ F H as (r.bind f) Rr)
    (k : ∀ u μ F' H' as' v, Ext F H as F' H' as' → Sim D w F' H' as' μ → rel F' as' u v → PoI D w Wx σ F' H' as' (f u μ) Rr → Q1 v H') : Po D w Wx σ F H as rel r Q1 := by
  cases r with
  | ok u μ => exact fun F' H' as' v y s q => k u μ F' H' as' v y s q (PoI.from P y s.there)
  | exc x μ => exact P
  | stuck => exact P
open Classical in
noncomputable def loopM (gd : Mem → Prop) (g : MG) (b : MS) : List W → MS
  | [], e, μ => if gd μ then .nx e μ else .stuck
  | y :: ys, e, μ => if gd μ then (match g y e μ with
    | some e1 => (match b e1 μ with
      | .nx e2 μ2 => loopM gd g b ys e2 μ2
      | .ct e2 μ2 => loopM gd g b ys e2 μ2
      | .bk e2 μ2 => .nx e2 μ2
      | r => r)
    | none => .stuck) else .stuck
noncomputable def sFor (i : MI) (g : MG) (b : MS) : MS := fun e μ => (i e μ).st e fun k μ1 => loopM k.gd g b k.ys e μ1
section
variable {X : Cx} {D : Ad} {w : World} {Wx : WX}
theorem PoS.loop {F H : Hp} {as : List Addr} {gd : Mem → Prop} {g : MG} {b : MS} {y : W} {ys : List W} {e : En} {μ : Mem} {N : Ends} (h : PoS D w Wx F H as (loopM gd g b (y :: ys) e μ) N) :
    gd μ ∧ ∃ e1, g y e μ = some e1 ∧ ∀ M : Ends, M.rt = N.rt → M.bk = N.nx → (∀ e2 μ2 F' H' as' σ', Ext F H as F' H' as' → Sim D w F' H' as' μ2 → ER D w F' as' e2 σ' → PoS D w Wx F' H' as' (loopM gd g b ys e2 μ2) N → M.nx σ' H' ∧ M.ct σ' H') → PoS D w Wx F H as (b e1 μ) M := by
  unfold loopM at h
  by_cases q : gd μ
  · rw [if_pos q] at h
    refine ⟨q, ?_⟩
    cases q1 : g y e μ with
    | none => simp only [q1] at h; exact h.elim
    | some e1 =>
      refine ⟨e1, rfl, fun M h1 h2 h3 => ?_⟩
      simp only [q1] at h
      cases q2 : b e1 μ with
      | nx e2 μ2 =>
        simp only [q2] at h
        exact fun F' H' as' σ' y s E => (h3 e2 μ2 F' H' as' σ' y s E (PoS.from h y s.there)).1
      | ct e2 μ2 =>
        simp only [q2] at h
        exact fun F' H' as' σ' y s E => (h3 e2 μ2 F' H' as' σ' y s E (PoS.from h y s.there)).2
      | bk e2 μ2 =>
        simp only [q2] at h
        exact fun F' H' as' σ' y s E => by rw [h2]; exact h F' H' as' σ' y s E
      | rt u μ2 =>
        simp only [q2] at h
        exact fun F' H' as' σ' y s E => by rw [h1]; exact h F' H' as' σ' y s E
      | exc x e2 μ2 =>
        simp only [q2] at h
        exact h
      | stuck => simp only [q2] at h; exact h.elim
  · rw [if_neg q] at h; exact h.elim
theorem PoS.loopN {F H : Hp} {as : List Addr} {gd : Mem → Prop} {g : MG} {b : MS} {e : En} {μ : Mem} {N : Ends} (h : PoS D w Wx F H as (loopM gd g b [] e μ) N) : gd μ ∧ PoS D w Wx F H as (.nx e μ) N := by
  unfold loopM at h
  by_cases q : gd μ
  · rw [if_pos q] at h; exact ⟨q, h⟩
  · rw [if_neg q] at h; exact h.elim
theorem xs_for {tg iter : Expr} {body : List Stmt} {i : MI} {g : MG} {own : List Nat} {b : MS} {pos : Pos} (hp : PassesOwn (model X.prog X.w) X.A X.env X.xe) (hc : X.calm = true) (hi : PI X tg iter (RdI D w Wx i)) (hg : PG X tg (RdG D w own g)) (hb : PSs X body (RdS D w Wx b))
    (hs : ∀ x, foldedSetIterable iter X.env x = pure x) : PS X (.For tg iter body [] pos) (RdS D w Wx (sFor i g b)) := by
  refine PS.weak (ps_for hp hc hi hg hb hs) fun N σ H ⟨F, as, μ, e, S, E, P⟩ => ?_
  refine ⟨F, as, μ, e, S, E, ?_⟩
  unfold sFor at P
  cases qi : i e μ with
  | stuck => rw [qi] at P; exact P.elim
  | exc x μ1 =>
    rw [qi] at P
    exact fun F' H' as' d y s r => P F' H' as' σ d y s (E.mono y.fs y.pre) r
  | ok k μ1 =>
    rw [qi] at P
    intro F0 H0 as0 J y0 S0 hw
    have P0 : PoS D w Wx F0 H0 as0 (loopM k.gd g b k.ys e μ1) N := PoS.from P y0 S0.there
    refine ⟨fun i m σ H => m = k.ys.length - i ∧ i ≤ k.ys.length ∧ ∃ F as μ e, Sim D w F H as μ ∧ ER D w F as e σ ∧ Same F0 F ∧ (∃ r, as = as0 ++ r) ∧ PoS D w Wx F H as (loopM k.gd g b (k.ys.drop i) e μ) N, ⟨_, rfl, Nat.zero_le _, F0, as0, μ1, e, S0, E.mono y0.fs y0.pre, Same.refl _, ⟨[], by simp⟩, by simpa using P0⟩, ?_⟩
    rintro i m σ H ⟨rfl, hi, F, as, μ, e, S, E, sF, ha, P⟩
    by_cases hlt : i < k.ys.length
    · have ed : k.ys.drop i = k.ys[i] :: k.ys.drop (i + 1) := List.drop_eq_getElem_cons hlt
      rw [ed] at P
      obtain ⟨hgd, e1, he1, P⟩ := PoS.loop P
      obtain ⟨h1, _⟩ := hw i F H as μ S sF ha hgd
      obtain ⟨hgo, hyl⟩ := h1 k.ys[i] (List.getElem?_eq_getElem hlt)
      refine .inr ⟨hgo, fun σ' H' => ∃ F as μ e, Sim D w F H' as μ ∧ ER D w F as e σ' ∧ Same F0 F ∧ (∃ r, as = as0 ++ r) ∧ PoS D w Wx F H' as (loopM k.gd g b (k.ys.drop (i + 1)) e μ) N, fun σ' H' q => ⟨_, by omega, rfl, hlt, q⟩, fun x H' hx => ?_⟩
      obtain ⟨F1, S1, X1, R1⟩ := hyl x H' hx
      refine ⟨F1, as, μ, e, k.ys[i], S1, E.mono X1.fs X1.pre, R1, e1, he1, fun σ' E' _ => ⟨F1, as, μ, e1, S1, E', ?_⟩⟩
      refine PoS.from (P _ rfl rfl ?_) X1 S1.there
      intro e2 μ2 F' H2 as' σ2 y2 s2 E2 P2
      have z : ∃ F as μ e, Sim D w F H2 as μ ∧ ER D w F as e σ2 ∧ Same F0 F ∧ (∃ r, as = as0 ++ r) ∧ PoS D w Wx F H2 as (loopM k.gd g b (k.ys.drop (i + 1)) e μ) N :=
        ⟨F', as', μ2, e2, s2, E2, sF.trans y2.fs, (by obtain ⟨r, rfl⟩ := ha; obtain ⟨r2, rfl⟩ := y2.pre; exact ⟨r ++ r2, by simp⟩), P2⟩
      exact ⟨z, z⟩
    · have e0 : k.ys.drop i = [] := List.drop_eq_nil_of_le (by omega)
      rw [e0] at P
      obtain ⟨hgd, P⟩ := PoS.loopN P
      exact .inl ⟨(hw i F H as μ S sF ha hgd).2 (by omega), P F H as σ Ext.refl S E⟩
/-- while, n turns at most -/
def whM (t : MB) (b : MS) : Nat → MS
  | 0, _, _ => .stuck
  | n + 1, e, μ => (t e μ).st e fun c μ1 => if c = true then (match b e μ1 with
      | .nx e2 μ2 => whM t b n e2 μ2
      | .ct e2 μ2 => whM t b n e2 μ2
      | .bk e2 μ2 => .nx e2 μ2
      | r => r) else .nx e μ1
theorem xs_while {c : Expr} {body : List Stmt} {t : MB} {b : MS} {pos : Pos} (n : Nat) (hp : PassesOwn (model X.prog X.w) X.A X.env X.xe) (hc : PT X c (RdB D w Wx t)) (hb : PSs X body (RdS D w Wx b)) : PS X (.While c body [] pos) (RdS D w Wx (whM t b n)) := by
  refine PS.weak (ps_while hp hc hb) fun N σ H h => ?_
  refine ⟨fun m σ H => RdS D w Wx (whM t b m) N σ H, ⟨n, h⟩, ?_⟩
  rintro m σ H ⟨F, as, μ, e, S, E, P⟩
  cases m with
  | zero => exact P.elim
  | succ m =>
    refine ⟨F, as, μ, e, S, E, PoS.ex (rel := relB) P E fun u μ F' H' as' v y s E r P => ?_⟩
    cases r
    cases u with
    | false => exact P F' H' as' σ Ext.refl s E
    | true =>
      refine ⟨fun σ' H' => RdS D w Wx (whM t b m) N σ' H', fun σ' H' q => ⟨m, Nat.lt_succ_self m, q⟩, F', as', μ, e, s, E, ?_⟩
      rw [if_pos rfl] at P
      cases q2 : b e μ with
      | nx e2 μ2 =>
        simp only [q2] at P
        exact fun F' H' as' σ' y s E => ⟨F', as', μ2, e2, s, E, PoS.from P y s.there⟩
      | ct e2 μ2 =>
        simp only [q2] at P
        exact fun F' H' as' σ' y s E => ⟨F', as', μ2, e2, s, E, PoS.from P y s.there⟩
      | bk e2 μ2 => simp only [q2] at P; exact P
      | rt u μ2 => simp only [q2] at P; exact P
      | exc x e2 μ2 => simp only [q2] at P; exact P
      | stuck => simp only [q2] at P; exact P.elim
end
end HQ
/-! HQ4: expressions. -/
namespace HQ
open PySem PySem.Spec PyProof.Rows L2

section
variable {X : Cx} {D : Ad} {w : World} {Wx : WX}
def mVar (i : Nat) : ME := fun e μ => match e[i]? with
  | some (some u) => .ok u μ
  | _ => .stuck
def mT (t : T) : ME := fun _ μ => .ok (.t t) μ
theorem xe_var {i : Nat} {x : Str} {pos : Pos} (hN : X.N[i]? = some x) (hv : Vis X.env.scope x) (hd : (x == ("__debug__" : Str)) = false) (hcd : (x == ("__classdict__" : Str)) = false) : PE X (.Name x pos) (RdE D w Wx (mVar i)) :=
  PE.weak (pe_var hN hv hd hcd) fun σ H Q ⟨F, as, μ, e, S, E, P⟩ => by
    unfold mVar at P
    cases q : e[i]? with
    | none => simp only [q] at P; exact P.elim
    | some o =>
      cases o with
      | none => simp only [q] at P; exact P.elim
      | some u =>
        simp only [q] at P
        obtain ⟨v, h1, h2⟩ := E.at_ i u q
        exact ⟨v, h1, Po.now P S h2⟩
theorem xe_c {x : Expr} {t : T} {v : V} (h : PE X x (tC v)) (r : ∀ F, RT D w F t v) : PE X x (RdE D w Wx (mT t)) :=
  PE.weak h fun σ H Q ⟨F, as, μ, e, S, E, P⟩ => Po.now P S (by simp only [relW, RW]; exact r F)
theorem xe_int {i j pos} : PE X (.Constant (.int i) j pos) (RdE D w Wx (mT (.int i))) := xe_c pe_int fun F => by simp only [RT]
theorem xe_bl {b j pos} : PE X (.Constant (.bool b) j pos) (RdE D w Wx (mT (.bl b))) := xe_c pe_bl fun F => by simp only [RT]
theorem xe_non {j pos} : PE X (.Constant .none j pos) (RdE D w Wx (mT .non)) := xe_c pe_non fun F => by simp only [RT]
theorem xe_str {z j pos} : PE X (.Constant (.str z) j pos) (RdE D w Wx (mT (.str z))) := xe_c pe_str fun F => by simp only [RT]

/-! ### tests -/
def asB (u : W) (μ : Mem) : R Bool := match u with
  | .t (.bl b) => .ok b μ
  | _ => .stuck
def bOf (m : ME) : MB := fun e μ => (m e μ).bind asB
def bNot (t : MB) : MB := fun e μ => (t e μ).bind fun b μ1 => .ok (!b) μ1
def bAnd (a b : MB) : MB := fun e μ => (a e μ).bind fun c μ1 => if c = true then b e μ1 else .ok false μ1
def bOr (a b : MB) : MB := fun e μ => (a e μ).bind fun c μ1 => if c = true then .ok true μ1 else b e μ1
theorem bl_of {u : W} {v : V} {F : Hp} {as : List Addr} {μ : Mem} {σ : Sg} {H : Hp} {Q : Bool → Hp → Prop} (S : Sim D w F H as μ) (r : RW D w F as u v)
    (P : Po D w Wx σ F H as relB (asB u μ) Q) : ∃ c, v = .bl c ∧ Q c H := by
  cases u with
  | t t =>
    cases t <;> first | exact P.elim | skip
    simp only [RW, RT] at r
    exact ⟨_, r, Po.now P S rfl⟩
  | ref n => exact P.elim
  | tup ws => exact P.elim
theorem rdB {m : ME} (σ : Sg) (H : Hp) (Q : Bool → Hp → Prop) (h : RdB D w Wx (bOf m) σ H Q) : RdE D w Wx m σ H fun x H1 => ∃ c, x = .bl c ∧ Q c H1 := by
  obtain ⟨F, as, μ, e, S, E, P⟩ := h
  exact ⟨F, as, μ, e, S, E, Po.bind P fun u μ1 F1 H1 as1 v X1 S1 R1 P1 => bl_of S1 R1 P1⟩
theorem xt_val {a : Expr} {m : ME} (h : PE X a (RdE D w Wx m)) (he : ∀ whole, isTrue a X.env whole = (do let v ← whole; standAt a.pos; holding [v] (truthy v))) : PT X a (RdB D w Wx (bOf m)) :=
  PT.weak (pt_val h he) fun σ H Q q => rdB σ H Q q
theorem xt_cmp {op : CmpOp} {r : R2} {f : W → W → Mem → R W} {a b : Expr} {ma mb : ME} {pos : Pos} (hr : OpR X (compareOp op) r) (ho : Op2 D w Wx r f) (ha : PE X a (RdE D w Wx ma)) (hb : PE X b (RdE D w Wx mb)) (hm : behindInMarks op b = false) : PT X (.Compare a [op] [b] pos) (RdB D w Wx (bOf (m2 f ma mb))) :=
  PT.weak (pt_cmpR hr ha hb hm) fun σ H Q q => rd2 ho σ H _ (rdB σ H Q q)
theorem xt_not {a : Expr} {t : MB} {pos : Pos} (h : PT X a (RdB D w Wx t)) : PT X (.UnaryOp .Not a pos) (RdB D w Wx (bNot t)) :=
  PT.weak (pt_not h) fun σ H Q ⟨F, as, μ, e, S, E, P⟩ => ⟨F, as, μ, e, S, E, Po.bind P fun u μ1 F1 H1 as1 v X1 S1 R1 P1 => by cases R1; exact Po.now P1 S1 rfl⟩
theorem PW.weak {e : Expr} {t t' : TT} (h : PW X e t) (k : ∀ σ H Q, t' σ H Q → t σ H Q) : PW X e t' := ⟨fun wh pins s σ H Q I q => h.run wh pins s σ H Q I (k σ H Q q)⟩
theorem xw_and1 {a : Expr} {t : MB} {pos : Pos} (h : PT X a (RdB D w Wx t)) : PW X (.BoolOp .And [a] pos) (RdB D w Wx t) := pw_and1 h
theorem xw_or1 {a : Expr} {t : MB} {pos : Pos} (h : PT X a (RdB D w Wx t)) : PW X (.BoolOp .Or [a] pos) (RdB D w Wx t) := pw_or1 h
theorem xw_and {a b : Expr} {rest : List Expr} {t u : MB} {pos : Pos} (h : PT X a (RdB D w Wx t)) (h2 : PW X (.BoolOp .And (b :: rest) pos) (RdB D w Wx u)) : PW X (.BoolOp .And (a :: b :: rest) pos) (RdB D w Wx (bAnd t u)) :=
  PW.weak (pw_and h h2) fun σ H Q ⟨F, as, μ, e, S, E, P⟩ => ⟨F, as, μ, e, S, E, Po.bind P fun c μ1 F1 H1 as1 v X1 S1 R1 P1 => by
    cases R1
    cases c with
    | true => exact ⟨F1, as1, μ1, e, S1, E.mono X1.fs X1.pre, P1⟩
    | false => exact Po.now P1 S1 rfl⟩
theorem xw_or {a b : Expr} {rest : List Expr} {t u : MB} {pos : Pos} (h : PT X a (RdB D w Wx t)) (h2 : PW X (.BoolOp .Or (b :: rest) pos) (RdB D w Wx u)) : PW X (.BoolOp .Or (a :: b :: rest) pos) (RdB D w Wx (bOr t u)) :=
  PW.weak (pw_or h h2) fun σ H Q ⟨F, as, μ, e, S, E, P⟩ => ⟨F, as, μ, e, S, E, Po.bind P fun c μ1 F1 H1 as1 v X1 S1 R1 P1 => by
    cases R1
    cases c with
    | true => exact Po.now P1 S1 rfl
    | false => exact ⟨F1, as1, μ1, e, S1, E.mono X1.fs X1.pre, P1⟩⟩
/-- and, or, not as values -/
def mAndV (a b : ME) : ME := fun e μ => (bOf a e μ).bind fun c μ1 => if c = true then b e μ1 else .ok (.t (.bl false)) μ1
def mOrV (a b : ME) : ME := fun e μ => (bOf a e μ).bind fun c μ1 => if c = true then .ok (.t (.bl true)) μ1 else b e μ1
def mNotV (a : ME) : ME := fun e μ => (bOf a e μ).bind fun c μ1 => .ok (.t (.bl (!c))) μ1
theorem rdBV {β γ : Type} {rel : Hp → List Addr → β → γ → Prop} {m : ME} {F : Hp} {as : List Addr} {e : En} {μ : Mem} {σ : Sg} {H : Hp} {k : Bool → Mem → R β} {Q : γ → Hp → Prop} {Q1 : Bool → Hp → Prop} (P : Po D w Wx σ F H as rel ((bOf m e μ).bind k) Q)
    (h : ∀ c μ F' H' as', Ext F H as F' H' as' → Sim D w F' H' as' μ → Po D w Wx σ F' H' as' rel (k c μ) Q → Q1 c H') : Po D w Wx σ F H as (relW D w) (m e μ) fun x H1 => ∃ c, x = .bl c ∧ Q1 c H1 := by
  unfold bOf at P
  cases q : m e μ with
  | stuck => rw [q] at P; exact P.elim
  | exc x μ1 => rw [q] at P; exact P
  | ok u μ1 =>
    rw [q] at P
    intro F' H' as' v y s r
    cases u with
    | t t =>
      cases t <;> first | exact P.elim | skip
      simp only [relW, RW, RT] at r
      exact ⟨_, r, h _ _ _ _ _ y s (Po.from P y s.there)⟩
    | ref n => exact P.elim
    | tup ws => exact P.elim
theorem xe_one {op : BoolOp} {a : Expr} {m : ME} {pos : Pos} (h : PE X a (RdE D w Wx m)) : PE X (.BoolOp op [a] pos) (RdE D w Wx m) := pe_one h
theorem xe_and {a b : Expr} {rest : List Expr} {ma mb : ME} {pos : Pos} (ha : PE X a (RdE D w Wx ma)) (hb : PE X (.BoolOp .And (b :: rest) pos) (RdE D w Wx mb)) : PE X (.BoolOp .And (a :: b :: rest) pos) (RdE D w Wx (mAndV ma mb)) :=
  PE.weak (pe_and ha hb) fun σ H Q ⟨F, as, μ, e, S, E, P⟩ => ⟨F, as, μ, e, S, E, rdBV P fun c μ1 F1 H1 as1 X1 S1 P1 => by
    cases c with
    | true => exact ⟨F1, as1, μ1, e, S1, E.mono X1.fs X1.pre, P1⟩
    | false => exact Po.now P1 S1 (by simp only [relW, RW, RT])⟩
theorem xe_or {a b : Expr} {rest : List Expr} {ma mb : ME} {pos : Pos} (ha : PE X a (RdE D w Wx ma)) (hb : PE X (.BoolOp .Or (b :: rest) pos) (RdE D w Wx mb)) : PE X (.BoolOp .Or (a :: b :: rest) pos) (RdE D w Wx (mOrV ma mb)) :=
  PE.weak (pe_or ha hb) fun σ H Q ⟨F, as, μ, e, S, E, P⟩ => ⟨F, as, μ, e, S, E, rdBV P fun c μ1 F1 H1 as1 X1 S1 P1 => by
    cases c with
    | true => exact Po.now P1 S1 (by simp only [relW, RW, RT])
    | false => exact ⟨F1, as1, μ1, e, S1, E.mono X1.fs X1.pre, P1⟩⟩
theorem xe_not {a : Expr} {ma : ME} {pos : Pos} (ha : PE X a (RdE D w Wx ma)) : PE X (.UnaryOp .Not a pos) (RdE D w Wx (mNotV ma)) :=
  PE.weak (pe_not ha) fun σ H Q ⟨F, as, μ, e, S, E, P⟩ => ⟨F, as, μ, e, S, E, rdBV P fun c μ1 F1 H1 as1 X1 S1 P1 => Po.now P1 S1 (by simp only [relW, RW, RT])⟩
def mIf (t : MB) (a b : ME) : ME := fun e μ => (t e μ).bind fun c μ1 => if c = true then a e μ1 else b e μ1
theorem xe_if {c a b : Expr} {t : MB} {ma mb : ME} {pos : Pos} (hc : PT X c (RdB D w Wx t)) (ha : PE X a (RdE D w Wx ma)) (hb : PE X b (RdE D w Wx mb)) : PE X (.IfExp c a b pos) (RdE D w Wx (mIf t ma mb)) :=
  PE.weak (pe_ifExp hc ha hb) fun σ H Q ⟨F, as, μ, e, S, E, P⟩ => ⟨F, as, μ, e, S, E, Po.bind P fun c μ1 F1 H1 as1 v X1 S1 R1 P1 => by
    cases R1
    cases c with
    | true => exact ⟨F1, as1, μ1, e, S1, E.mono X1.fs X1.pre, P1⟩
    | false => exact ⟨F1, as1, μ1, e, S1, E.mono X1.fs X1.pre, P1⟩⟩

/-! ### arguments, displays -/
def aNil : MA := fun _ μ => .ok [] μ
def aCons (a : ME) (as : MA) : MA := fun e μ => (a e μ).bind fun u μ1 => (as e μ1).bind fun us μ2 => .ok (u :: us) μ2
theorem xa_nil : PA X [] (RdA D w Wx aNil) := PA.weak pa_nil fun σ H Q ⟨F, as, μ, e, S, E, P⟩ => Po.now P S (by simp only [relWs, RWs])
theorem xa_cons {a : Expr} {es : List Expr} {ma : ME} {ms : MA} (ha : PE X a (RdE D w Wx ma)) (hs : PA X es (RdA D w Wx ms)) (he : starEach (a :: es) X.env = (false, eval a X.env) :: starEach es X.env) : PA X (a :: es) (RdA D w Wx (aCons ma ms)) :=
  PA.weak (pa_cons ha hs he) fun σ H Q ⟨F, as, μ, e, S, E, P⟩ => ⟨F, as, μ, e, S, E, Po.bind P fun u μ1 F1 H1 as1 v X1 S1 R1 P1 => ⟨F1, as1, μ1, e, S1, E.mono X1.fs X1.pre, Po.bind P1 fun us μ2 F2 H2 as2 vs X2 S2 R2 P2 => Po.now P2 S2 (by
    simp only [relWs, RWs]
    exact ⟨v, vs, rfl, RW.mono X2.fs X2.pre u v R1, R2⟩)⟩⟩
def mTup (ms : MA) : ME := fun e μ => (ms e μ).bind fun us μ1 => if us.length ≤ bigL then .ok (mkTup us) μ1 else .stuck
def mLst (live : Bool) (ms : MA) : ME := fun e μ => (ms e μ).bind fun us μ1 => if us.length ≤ bigL then mkL live us μ1 else .stuck
theorem xe_tup {es : List Expr} {k : Nat} {ms : MA} {pos : Pos} (h : PA X es (RdA D w Wx ms)) : PE X (.Tuple es k pos) (RdE D w Wx (mTup ms)) :=
  PE.weak (pe_tup h) fun σ H Q ⟨F, as, μ, e, S, E, P⟩ => ⟨F, as, μ, e, S, E, Po.bind P fun us μ1 F1 H1 as1 vs X1 S1 R1 P1 => by
    by_cases hl : us.length ≤ bigL
    · rw [if_pos hl] at P1
      exact ⟨by rw [← RWs.len R1]; exact Nat.le_trans hl bigL_le, fun p hp => Po.tup P1 S1 R1 hp⟩
    · rw [if_neg hl] at P1; exact P1.elim⟩
theorem xe_lst {es : List Expr} {live : Bool} {ms : MA} {pos : Pos} (h : PA X es (RdA D w Wx ms)) : PE X (.List es pos) (RdE D w Wx (mLst live ms)) :=
  PE.weak (pe_lst h) fun σ H Q ⟨F, as, μ, e, S, E, P⟩ => ⟨F, as, μ, e, S, E, Po.bind P fun us μ1 F1 H1 as1 vs X1 S1 R1 P1 => by
    by_cases hl : us.length ≤ bigL
    · rw [if_pos hl] at P1
      exact ⟨by rw [← RWs.len R1]; exact Nat.le_trans hl bigL_le, fun p hp => Po.lst P1 S1 R1 hp⟩
    · rw [if_neg hl] at P1; exact P1.elim⟩
end
/-! ### operators by rules -/
section
variable {X : Cx} {D : Ad} {w : World} {Wx : WX} {a b : Expr} {ma mb : ME} {ms : MA}
theorem rd1 {r : V → Hp → VK → Prop} {f : W → Mem → R W} (ho : Op1 D w Wx r f) (σ : Sg) (H : Hp) (Q : VK) (h : RdE D w Wx (m1 f ma) σ H Q) : RdE D w Wx ma σ H fun x H1 => r x H1 Q := by
  obtain ⟨F, as, μ, e, S, E, P⟩ := h
  exact ⟨F, as, μ, e, S, E, Po.bind P fun u μ1 F1 H1 as1 v X1 S1 R1 P1 => ho σ F1 H1 as1 μ1 u v Q S1 R1 P1⟩
theorem rdA {r : List V → Hp → VK → Prop} {f : List W → Mem → R W} (ho : OpA D w Wx r f) (σ : Sg) (H : Hp) (Q : VK) (h : RdE D w Wx (mA f ms) σ H Q) : RdA D w Wx ms σ H fun xs H1 => r xs H1 Q := by
  obtain ⟨F, as, μ, e, S, E, P⟩ := h
  exact ⟨F, as, μ, e, S, E, Po.bind P fun u μ1 F1 H1 as1 v X1 S1 R1 P1 => ho σ F1 H1 as1 μ1 u v Q S1 R1 P1⟩
theorem xe_un {op : UnaryOp} {r : V → Hp → VK → Prop} {f : W → Mem → R W} {pos : Pos} (hr : UnR X (unaryOp op) r) (ho : Op1 D w Wx r f) (ha : PE X a (RdE D w Wx ma)) : PE X (.UnaryOp op a pos) (RdE D w Wx (m1 f ma)) := PE.weak (pe_un hr ha) (rd1 ho)
theorem xe_ix {r : R2} {f : W → W → Mem → R W} {pos : Pos} (hr : IxR X r) (ho : Op2 D w Wx r f) (ha : PE X a (RdE D w Wx ma)) (hb : PE X b (RdE D w Wx mb)) (hs : PlainIx b) : PE X (.Subscript a b pos) (RdE D w Wx (m2 f ma mb)) := PE.weak (pe_ix hr ha hb hs) (rd2 ho)
theorem xe_callB {x : Str} {id : String} {r : List V → Hp → VK → Prop} {f : List W → Mem → R W} {e : Expr} {es : List Expr} {p pos : Pos} (hc : CallR X (.builtin id) r) (ho : OpA D w Wx r f) (hg : Gl X x) (hm : X.mg x = none) (hv : bootBuiltins x = some (.builtin id)) (ha : PA X (e :: es) (RdA D w Wx ms))
    (hn : x ≠ "__name__") (hdb : (x == ("__debug__" : Str)) = false) (he : starEach (e :: es) X.env = (false, eval e X.env) :: starEach es X.env) (hpl : (backTo pos (starEach es X.env)).any (·.1) = false) : PE X (.Call (.Name x p) (e :: es) [] pos) (RdE D w Wx (mA f ms)) :=
  PE.weak (pe_callB hc hg hm hv ha hn hdb he hpl) (rdA ho)
theorem xe_callTy {x : Str} {n : String} {r : List V → Hp → VK → Prop} {f : List W → Mem → R W} {e : Expr} {es : List Expr} {p pos : Pos} (hc : CallR X (.type n) r) (ho : OpA D w Wx r f) (hg : Gl X x) (hm : X.mg x = none) (hv : bootBuiltins x = some (.type n)) (ha : PA X (e :: es) (RdA D w Wx ms))
    (hn : x ≠ "__name__") (hdb : (x == ("__debug__" : Str)) = false) (he : starEach (e :: es) X.env = (false, eval e X.env) :: starEach es X.env) (hpl : (backTo pos (starEach es X.env)).any (·.1) = false) : PE X (.Call (.Name x p) (e :: es) [] pos) (RdE D w Wx (mA f ms)) :=
  PE.weak (pe_callTy hc hg hm hv ha hn hdb he hpl) (rdA ho)
/-- a call of a built-in method by values: the receiver among the arguments -/
def OpM (D : Ad) (w : World) (Wx : WX) (K : PySem.W.Frag) (T : String) (r : V → List V → Hp → VK → Prop) (f : W → List W → Mem → R W) : Prop :=
  ∀ σ F H as μ u us v vs (Q : VK), Sim D w F H as μ → RW D w F as u v → RWs D w F as us vs → Po D w Wx σ F H as (relW D w) (f u us μ) Q → r v vs H Q
end
end HQ
/-! HQ5: operations on values. -/
namespace HQ
open PySem PySem.Spec PyProof.Rows L2

section
variable {X : Cx} {D : Ad} {w : World} {Wx : WX}
/-! ### whole numbers -/
def iop (C : Int → Int → Bool) (g : Int → Int → T) (a b : W) (μ : Mem) : R W := match a, b with
  | .t (.int i), .t (.int j) => if C i j = true then .ok (.t (g i j)) μ else .stuck
  | _, _ => .stuck
theorem iop_ok {C : Int → Int → Bool} {C' : Int → Int → Prop} {g : Int → Int → T} {gv : Int → Int → V} (hc : ∀ i j, C i j = true → C' i j) (hr : ∀ F i j, RT D w F (g i j) (gv i j)) : Op2 D w Wx (rI C' gv) (iop C g) := by
  intro σ F H as μ u1 u2 v1 v2 Q S r1 r2 P
  unfold iop at P
  split at P
  · rename_i i j
    by_cases h : C i j = true
    · rw [if_pos h] at P
      simp only [RW, RT] at r1 r2
      exact ⟨i, j, r1, r2, hc i j h, Po.now P S (by simp only [relW, RW]; exact hr F i j)⟩
    · rw [if_neg h] at P; exact P.elim
  · exact P.elim
def yes2 (_ _ : Int) : Bool := true
def bigE : Nat := 900000
def cMul (i j : Int) : Bool := decide (i.natAbs.log2 + j.natAbs.log2 < 1000000)
def cDiv (_ j : Int) : Bool := decide (0 < j) && decide (j.natAbs.log2 < 9000)
def cMod (_ j : Int) : Bool := decide (0 < j)
def cPow (i j : Int) : Bool := decide (0 ≤ j ∧ j ≤ 1000000 ∧ i.natAbs < 2 ^ 64)
def cShr (_ j : Int) : Bool := decide (0 ≤ j)
abbrev fSub := iop yes2 fun i j => .int (i - j)
abbrev fDiv := iop cDiv fun i j => .int (i / j)
abbrev fMod := iop cMod fun i j => .int (i % j)
abbrev fPow := iop cPow fun i j => .int (i ^ j.toNat)
abbrev fShl := iop cPow fun i j => .int (i * 2 ^ j.toNat)
abbrev fShr := iop cShr fun i j => .int (i / 2 ^ j.toNat)
abbrev fAnd := iop yes2 fun i j => .int (Builtin.bitAnd i j)
abbrev fOr := iop yes2 fun i j => .int (Builtin.bitOr i j)
theorem rI_tt {g : Int → Int → V} {f : Value → Value → Sem Value} (h : OpR X f (rI0 g)) : OpR X f (rI (fun _ _ => True) g) := fun pins s σ H x y v u Q I rx ry ⟨i, j, e1, e2, _, q⟩ => h pins s σ H x y v u Q I rx ry ⟨i, j, e1, e2, q⟩
theorem rt_int {D : Ad} {w : World} {F : Hp} {i : Int} : RT D w F (.int i) (.int i) := by simp only [RT]
theorem rt_bl {D : Ad} {w : World} {F : Hp} {i : Bool} : RT D w F (.bl i) (.bl i) := by simp only [RT]
theorem rt_str {D : Ad} {w : World} {F : Hp} {i : Str} : RT D w F (.str i) (.str i) := by simp only [RT]
theorem sub_ok : Op2 D w Wx (rI (fun _ _ => True) fun i j => .int (i - j)) fSub := iop_ok (fun _ _ _ => trivial) fun _ _ _ => rt_int
theorem div_ok : Op2 D w Wx (rI CDivW fun i j => .int (i / j)) fDiv := iop_ok (fun i j h => by simpa [cDiv, CDivW] using h) fun _ _ _ => rt_int
theorem mod_ok : Op2 D w Wx (rI (fun _ j => 0 < j) fun i j => .int (i % j)) fMod := iop_ok (fun i j h => by simpa [cMod] using h) fun _ _ _ => rt_int
theorem pow_ok : Op2 D w Wx (rI CPow fun i j => .int (i ^ j.toNat)) fPow := iop_ok (fun i j h => by simpa [cPow, CPow] using h) fun _ _ _ => rt_int
theorem shl_ok : Op2 D w Wx (rI CPow fun i j => .int (i * 2 ^ j.toNat)) fShl := iop_ok (fun i j h => by simpa [cPow, CPow] using h) fun _ _ _ => rt_int
theorem shr_ok : Op2 D w Wx (rI (fun _ j => 0 ≤ j) fun i j => .int (i / 2 ^ j.toNat)) fShr := iop_ok (fun i j h => by simpa [cShr] using h) fun _ _ _ => rt_int
theorem and_ok : Op2 D w Wx (rI (fun _ _ => True) fun i j => .int (Builtin.bitAnd i j)) fAnd := iop_ok (fun _ _ _ => trivial) fun _ _ _ => rt_int
theorem or_ok : Op2 D w Wx (rI (fun _ _ => True) fun i j => .int (Builtin.bitOr i j)) fOr := iop_ok (fun _ _ _ => trivial) fun _ _ _ => rt_int
/-- two rules in one -/
theorem Op2.or {r1 r2 : R2} {f : W → W → Mem → R W} (h : ∀ σ F H as μ u1 u2 v1 v2 (Q : VK), Sim D w F H as μ → RW D w F as u1 v1 → RW D w F as u2 v2 → Po D w Wx σ F H as (relW D w) (f u1 u2 μ) Q → r1 v1 v2 H Q ∨ r2 v1 v2 H Q) : Op2 D w Wx (fun x y H Q => r1 x y H Q ∨ r2 x y H Q) f :=
  fun σ F H as μ u1 u2 v1 v2 Q S q1 q2 P => h σ F H as μ u1 u2 v1 v2 Q S q1 q2 P
/-! ### + -/
def fAddS (live : Bool) (a b : W) (μ : Mem) : R W := match getLT a μ, getLT b μ with
  | some xs, some ys => if xs.length + ys.length ≤ bigL then mkL live (xs ++ ys) μ else .stuck
  | _, _ => match getT a, getT b with
    | some xs, some ys => if xs.length + ys.length ≤ bigL then .ok (mkTup (xs ++ ys)) μ else .stuck
    | _, _ => .stuck
def fAdd (live : Bool) (a b : W) (μ : Mem) : R W := match a, b with
  | .t (.int i), .t (.int j) => .ok (.t (.int (i + j))) μ
  | .t (.str x), .t (.str y) => if x.length + y.length ≤ bigL then .ok (.t (.str (x ++ y))) μ else .stuck
  | a, b => fAddS live a b μ
def rAddA (K : PySem.W.Frag) : R2 := fun x y H Q => (rI (fun _ _ => True) (fun i j => .int (i + j))) x y H Q ∨ (∃ i j, x = .str i ∧ y = .str j ∧ i.length + j.length ≤ sizeLine ∧ Q (.str (i ++ j)) H) ∨ rCat x y H Q ∨ rCatA K x y H Q
theorem op_addA : OpR X (binaryOp .Add) (rAddA X.K) := OpR.or (rI_tt op_add) (OpR.or op_add_str (OpR.or op_cat op_catA))
theorem mkTup_nil : mkTup [] = .t (.tup []) := rfl
theorem rw_mkTup {F : Hp} {as : List Addr} {a : Addr} {ws : List W} {vs : List V} (h : F a = some (.tup vs)) (r : RWs D w F as ws vs) : RW D w F as (mkTup ws) (.ref a) := by
  unfold mkTup
  cases q : toTs ws with
  | none => simp only [RW]; exact ⟨a, vs, rfl, h, r⟩
  | some ts =>
    rw [toTs_eq q] at r
    simp only [RW, RT]
    exact ⟨a, vs, rfl, h, r.toT⟩
theorem getT_F {F : Hp} {as : List Addr} {u : W} {ws : List W} {v : V} (h : getT u = some ws) (r : RW D w F as u v) : ∃ a vs, v = .ref a ∧ F a = some (.tup vs) ∧ RWs D w F as ws vs := by
  cases u with
  | t t =>
    cases t <;> simp [getT] at h
    rename_i ts
    subst h
    simp only [RW, RT] at r
    obtain ⟨a, vs, e, q, r⟩ := r
    exact ⟨a, vs, e, q, r.toW⟩
  | ref n => simp [getT] at h
  | tup ws =>
    simp [getT] at h
    subst h
    simpa only [RW] using r
theorem addS_ok {σ : Sg} {F H : Hp} {as : List Addr} {μ : Mem} {live : Bool} {a b : W} {v1 v2 : V} {Q : VK} {K : PySem.W.Frag} (S : Sim D w F H as μ) (r1 : RW D w F as a v1) (r2 : RW D w F as b v2) (P : Po D w Wx σ F H as (relW D w) (fAddS live a b μ) Q) : rCat v1 v2 H Q ∨ rCatA K v1 v2 H Q := by
  unfold fAddS at P
  split at P
  · rename_i xs ys h1 h2
    obtain ⟨p, vs, rfl, q1, s1⟩ := getLT_ok S h1 r1
    obtain ⟨q, us, rfl, q2, s2⟩ := getLT_ok S h2 r2
    split at P
    · rename_i hl
      exact .inl ⟨p, q, vs, us, rfl, rfl, q1, q2, by rw [← s1.len, ← s2.len]; exact Nat.le_trans hl bigL_le, fun z hz => Po.lst P S (s1.app s2) hz⟩
    · exact P.elim
  · split at P
    · rename_i xs ys h1 h2
      obtain ⟨p, vs, rfl, q1, s1⟩ := getT_F h1 r1
      obtain ⟨q, us, rfl, q2, s2⟩ := getT_F h2 r2
      split at P
      · rename_i hl
        refine .inr ⟨p, q, vs, us, rfl, rfl, SqT.of (S.sub _ _ q1), SqT.of (S.sub _ _ q2), by rw [← s1.len, ← s2.len]; exact Nat.le_trans hl bigL_le, fun e => ?_, fun _ e => ?_, fun _ _ z hz => Po.tup P S (s1.app s2) hz⟩
        · subst e
          have e : xs = [] := List.length_eq_zero_iff.mp s1.len
          subst e
          exact Po.now P S (rw_mkTup q2 s2)
        · subst e
          have e : ys = [] := List.length_eq_zero_iff.mp s2.len
          subst e
          rw [List.append_nil] at P
          exact Po.now P S (rw_mkTup q1 s1)
      · exact P.elim
    · exact P.elim
theorem add_ok {live : Bool} {K : PySem.W.Frag} : Op2 D w Wx (rAddA K) (fAdd live) := by
  intro σ F H as μ u1 u2 v1 v2 Q S r1 r2 P
  unfold fAdd at P
  split at P
  · simp only [RW, RT] at r1 r2
    exact .inl ⟨_, _, r1, r2, trivial, Po.now P S (by simp only [relW, RW, RT])⟩
  · simp only [RW, RT] at r1 r2
    split at P
    · rename_i hl
      exact .inr (.inl ⟨_, _, r1, r2, Nat.le_trans hl bigL_le, Po.now P S (by simp only [relW, RW, RT])⟩)
    · exact P.elim
  · exact .inr (.inr (addS_ok S r1 r2 P))
end
end HQ
/-! HQ6: comparisons, subscripts, slices, len, isinstance. -/
namespace HQ
open PySem PySem.Spec PyProof.Rows L2

/-! ### data of the library -/
mutual
def toD : Nat → T → Option PyData
  | _, .non => some .none
  | _, .bl b => some (.bool b)
  | _, .int i => some (.int i)
  | _, .str x => if PyData.strOk x = true then some (.str x) else none
  | n + 1, .tup ts => (toDs n ts).map PyData.tuple
  | n + 1, .lst ts => (toDs n ts).map PyData.list
  | _, _ => none
def toDs : Nat → List T → Option (List PyData)
  | _, [] => some []
  | n, t :: ts => match toD n t, toDs n ts with
    | some d, some ds => some (d :: ds)
    | _, _ => none
end
/-- data of a value -/
def toDW (u : W) (μ : Mem) : Option PyData := match u with
  | .t (.scr ns) => some (.list (ns.map .int))
  | .t t => toD 60 t
  | .ref n => match μ[n]? with
    | some (.lst ws) => match toTs ws with
      | some ts => (toDs 59 ts).map PyData.list
      | none => none
    | _ => none
  | .tup _ => none
section
variable {D : Ad} {w : World} {F H : Hp} {K : PySem.W.Frag}
mutual
theorem toD_ok : ∀ (n : Nat) (t : T) (d : PyData) (v : V), n ≤ 60 → Same F H → toD n t = some d → RT D w F t v → Dp K H v d ∧ d.canLay0 = true ∧ d.depth ≤ n
  | n, .non, d, v, hn, hs, h, r => by
    simp only [toD, Option.some.injEq] at h; subst h
    simp only [RT] at r; subst r
    exact ⟨.non, by simp [PyData.canLay0], by simp [PyData.depth]⟩
  | n, .bl b, d, v, hn, hs, h, r => by
    simp only [toD, Option.some.injEq] at h; subst h
    simp only [RT] at r; subst r
    exact ⟨.bl b, by simp [PyData.canLay0], by simp [PyData.depth]⟩
  | n, .int i, d, v, hn, hs, h, r => by
    simp only [toD, Option.some.injEq] at h; subst h
    simp only [RT] at r; subst r
    exact ⟨.int i, by simp [PyData.canLay0], by simp [PyData.depth]⟩
  | n, .str x, d, v, hn, hs, h, r => by
    simp only [toD] at h
    by_cases q : PyData.strOk x = true
    · rw [if_pos q] at h
      simp only [Option.some.injEq] at h; subst h
      simp only [RT] at r; subst r
      exact ⟨.str x, by simp [PyData.canLay0, q], by simp [PyData.depth]⟩
    · rw [if_neg q] at h; cases h
  | 0, .tup ts, d, v, hn, hs, h, r => by simp [toD] at h
  | n + 1, .tup ts, d, v, hn, hs, h, r => by
    simp only [toD] at h
    cases q : toDs n ts with
    | none => rw [q] at h; simp at h
    | some ds =>
      rw [q] at h
      simp only [Option.map_some, Option.some.injEq] at h; subst h
      simp only [RT] at r
      obtain ⟨a, vs, rfl, e, r⟩ := r
      obtain ⟨h1, h2, h3⟩ := toDs_ok n ts ds vs (by omega) hs q r
      exact ⟨.tup (SqT.of (hs _ _ e)) h1, by simp [PyData.canLay0, h2], by simp only [PyData.depth]; omega⟩
  | 0, .lst ts, d, v, hn, hs, h, r => by simp [toD] at h
  | n + 1, .lst ts, d, v, hn, hs, h, r => by
    simp only [toD] at h
    cases q : toDs n ts with
    | none => rw [q] at h; simp at h
    | some ds =>
      rw [q] at h
      simp only [Option.map_some, Option.some.injEq] at h; subst h
      simp only [RT] at r
      obtain ⟨a, vs, rfl, e, r⟩ := r
      obtain ⟨h1, h2, h3⟩ := toDs_ok n ts ds vs (by omega) hs q r
      exact ⟨.lst (SqL.of (hs _ _ e)) h1, by simp [PyData.canLay0, h2], by simp only [PyData.depth]; omega⟩
  | n, .scr _, d, v, hn, hs, h, r => by simp [toD] at h
  | n, .ty _, d, v, hn, hs, h, r => by simp [toD] at h
  | n, .fn _, d, v, hn, hs, h, r => by simp [toD] at h
  | n, .cls _, d, v, hn, hs, h, r => by simp [toD] at h
  | n, .dic _ _, d, v, hn, hs, h, r => by simp [toD] at h
  | n, .ins _ _ _, d, v, hn, hs, h, r => by simp [toD] at h
theorem toDs_ok : ∀ (n : Nat) (ts : List T) (ds : List PyData) (vs : List V), n ≤ 60 → Same F H → toDs n ts = some ds → RTs D w F ts vs → DpAll K H vs ds ∧ PyData.canLayAll0 ds = true ∧ PyData.depthAll ds ≤ n
  | n, [], ds, vs, hn, hs, h, r => by
    simp only [toDs, Option.some.injEq] at h; subst h
    simp only [RTs] at r; subst r
    exact ⟨.nil, by simp [PyData.canLayAll0], by simp [PyData.depthAll]⟩
  | n, t :: ts, ds, vs, hn, hs, h, r => by
    simp only [toDs] at h
    cases q1 : toD n t with
    | none => rw [q1] at h; simp at h
    | some d =>
      cases q2 : toDs n ts with
      | none => rw [q1, q2] at h; simp at h
      | some ds' =>
        rw [q1, q2] at h
        simp only [Option.some.injEq] at h; subst h
        simp only [RTs] at r
        obtain ⟨v, vs', rfl, r1, r2⟩ := r
        obtain ⟨a1, a2, a3⟩ := toD_ok n t d v hn hs q1 r1
        obtain ⟨b1, b2, b3⟩ := toDs_ok n ts ds' vs' hn hs q2 r2
        exact ⟨.cons a1 b1, by simp [PyData.canLayAll0, a2, b2], by simp only [PyData.depthAll]; omega⟩
end
theorem ints_dp (ns : List Int) : DpAll K H (ns.map V.int) (ns.map PyData.int) ∧ PyData.canLayAll0 (ns.map PyData.int) = true ∧ PyData.depthAll (ns.map PyData.int) ≤ 1 := by
  induction ns with
  | nil => exact ⟨.nil, by simp [PyData.canLayAll0], by simp [PyData.depthAll]⟩
  | cons n ns ih => exact ⟨.cons (.int n) ih.1, by simp [PyData.canLayAll0, PyData.canLay0, ih.2.1], by simp only [List.map_cons, PyData.depthAll, PyData.depth]; omega⟩
variable {as : List Addr} {μ : Mem}
theorem toDW_ok {u : W} {d : PyData} {v : V} (S : Sim D w F H as μ) (h : toDW u μ = some d) (r : RW D w F as u v) : Dp K H v d ∧ SeqAt.shaped d = true := by
  have sh : ∀ {d : PyData}, d.canLay0 = true → d.depth ≤ 60 → SeqAt.shaped d = true := fun {d} h1 h2 => by
    unfold SeqAt.shaped
    rw [h1]
    simpa using by omega
  unfold toDW at h
  split at h
  · rename_i ns
    cases h
    simp only [RW, RT] at r
    obtain ⟨a, o, rfl, e⟩ := r
    obtain ⟨h1, h2, h3⟩ := ints_dp (K := K) (H := H) ns
    exact ⟨.lst (.inl (.inr ⟨o, S.sub _ _ e⟩)) h1, sh (by simp [PyData.canLay0, h2]) (by simp only [PyData.depth]; omega)⟩
  · rename_i t _
    simp only [RW] at r
    obtain ⟨h1, h2, h3⟩ := toD_ok 60 t d v (Nat.le_refl _) S.sub h r
    exact ⟨h1, sh h2 h3⟩
  · rename_i n
    split at h
    · rename_i ws q
      split at h
      · rename_i ts qt
        cases q3 : toDs 59 ts with
        | none => rw [q3] at h; simp at h
        | some ds =>
          rw [q3] at h
          simp only [Option.map_some, Option.some.injEq] at h; subst h
          simp only [RW] at r
          obtain ⟨a, e, rfl⟩ := r
          obtain ⟨vs, e1, r1⟩ := S.obj n a _ e q
          rw [toTs_eq qt] at r1
          obtain ⟨h1, h2, h3⟩ := toDs_ok (K := K) 59 ts ds vs (by omega) S.sub q3 r1.toT
          exact ⟨.lst (SqL.of e1) h1, sh (by simp [PyData.canLay0, h2]) (by simp only [PyData.depth]; omega)⟩
      · cases h
    · cases h
  · cases h
end

/-! ### == -/
def eqSc : T → T → Option Bool
  | .non, .non => some true
  | .non, .int _ => some false
  | .int _, .non => some false
  | .non, .bl _ => some false
  | .bl _, .non => some false
  | .non, .str _ => some false
  | .str _, .non => some false
  | .int i, .int j => some (decide (i = j))
  | .bl i, .bl j => some (decide (i = j))
  | .str i, .str j => some (decide (i = j))
  | .int _, .str _ => some false
  | .str _, .int _ => some false
  | .bl _, .str _ => some false
  | .str _, .bl _ => some false
  | _, _ => none
def eqW (u v : W) (μ : Mem) : Option Bool := match u, v with
  | .t a, .t b => match eqSc a b with
    | some r => some r
    | none => match toDW (.t a) μ, toDW (.t b) μ with
      | some d, some e => some (PyData.eqv d e)
      | _, _ => none
  | u, v => match toDW u μ, toDW v μ with
    | some d, some e => some (PyData.eqv d e)
    | _, _ => none
def fEq (neg : Bool) (u v : W) (μ : Mem) : R W := match eqW u v μ with
  | some b => .ok (.t (.bl (if neg = true then !b else b))) μ
  | none => .stuck
section
variable {X : Cx} {D : Ad} {w : World} {Wx : WX} {K : PySem.W.Frag}
def rEqA (K : PySem.W.Frag) : R2 := fun x y H Q => rEq x y H Q ∨ rEqD K x y H Q
def rNeA (K : PySem.W.Frag) : R2 := fun x y H Q => rNe x y H Q ∨ rNeD K x y H Q
theorem op_eqA (hu : X.A.units + 64 < cLine) : OpR X (compareOp .Eq) (rEqA X.K) := OpR.or op_eq (op_eqD hu)
theorem op_neA (hu : X.A.units + 64 < cLine) : OpR X (compareOp .NotEq) (rNeA X.K) := OpR.or op_ne (op_neD hu)
theorem eqSc_ok {F : Hp} {a b : T} {x y : V} {r : Bool} (h : eqSc a b = some r) (h1 : RT D w F a x) (h2 : RT D w F b y) : scal x y = true ∧ r = decide (x = y) := by
  cases a <;> cases b <;> simp only [eqSc, Option.some.injEq, reduceCtorEq] at h <;> simp only [RT] at h1 h2 <;> subst h1 h2 h <;> simp [scal]
theorem eqW_ok {F H : Hp} {as : List Addr} {μ : Mem} {u v : W} {x y : V} {r : Bool} (S : Sim D w F H as μ) (h : eqW u v μ = some r) (h1 : RW D w F as u x) (h2 : RW D w F as v y) :
    (scal x y = true ∧ r = decide (x = y)) ∨ ∃ d e, Dp K H x d ∧ Dp K H y e ∧ SeqAt.shaped d = true ∧ SeqAt.shaped e = true ∧ r = PyData.eqv d e := by
  have dd : ∀ {u v : W} {r : Bool}, RW D w F as u x → RW D w F as v y → (match toDW u μ, toDW v μ with
      | some d, some e => some (PyData.eqv d e)
      | _, _ => none) = some r → ∃ d e, Dp K H x d ∧ Dp K H y e ∧ SeqAt.shaped d = true ∧ SeqAt.shaped e = true ∧ r = PyData.eqv d e := fun {u v r} h1 h2 h => by
    split at h
    · rename_i d e q1 q2
      cases h
      obtain ⟨a1, a2⟩ := toDW_ok (K := K) S q1 h1
      obtain ⟨b1, b2⟩ := toDW_ok (K := K) S q2 h2
      exact ⟨d, e, a1, b1, a2, b2, rfl⟩
    · cases h
  unfold eqW at h
  split at h
  · rename_i a b
    split at h
    · rename_i r' q
      cases h
      simp only [RW] at h1 h2
      exact .inl (eqSc_ok q h1 h2)
    · exact .inr (dd h1 h2 h)
  · exact .inr (dd h1 h2 h)
theorem eq_ok : Op2 D w Wx (rEqA K) (fEq false) := by
  intro σ F H as μ u1 u2 v1 v2 Q S r1 r2 P
  unfold fEq at P
  split at P
  · rename_i b q
    rcases eqW_ok (K := K) S q r1 r2 with ⟨h1, rfl⟩ | ⟨d, e, h1, h2, h3, h4, rfl⟩
    · exact .inl ⟨h1, Po.now P S (by simp [relW, RW, RT])⟩
    · exact .inr ⟨d, e, h1, h2, h3, h4, Po.now P S (by simp [relW, RW, RT])⟩
  · exact P.elim
theorem ne_ok : Op2 D w Wx (rNeA K) (fEq true) := by
  intro σ F H as μ u1 u2 v1 v2 Q S r1 r2 P
  unfold fEq at P
  split at P
  · rename_i b q
    rcases eqW_ok (K := K) S q r1 r2 with ⟨h1, rfl⟩ | ⟨d, e, h1, h2, h3, h4, rfl⟩
    · exact .inl ⟨h1, Po.now P S (by simp [relW, RW, RT])⟩
    · exact .inr ⟨d, e, h1, h2, h3, h4, Po.now P S (by simp [relW, RW, RT])⟩
  · exact P.elim
/-! ### order -/
def icmp (g : Int → Int → Bool) (a b : W) (μ : Mem) : R W := match a, b with
  | .t (.int i), .t (.int j) => .ok (.t (.bl (g i j))) μ
  | _, _ => .stuck
theorem icmp_ok {g : Int → Int → Bool} : Op2 D w Wx (rI0 fun i j => .bl (g i j)) (icmp g) := by
  intro σ F H as μ u1 u2 v1 v2 Q S r1 r2 P
  unfold icmp at P
  split at P
  · simp only [RW, RT] at r1 r2
    exact ⟨_, _, r1, r2, Po.now P S (by simp only [relW, RW, RT])⟩
  · exact P.elim
/-- the ints of a tuple -/
def intsT : List T → Option (List Int)
  | [] => some []
  | .int i :: ts => (intsT ts).map (i :: ·)
  | _ :: _ => none
theorem intsT_eq : ∀ {ts : List T} {ns : List Int}, intsT ts = some ns → ts = ns.map .int
  | [], ns, h => by simp [intsT] at h; subst h; rfl
  | t :: ts, ns, h => by
    cases t <;> simp only [intsT, reduceCtorEq] at h
    rename_i i
    cases q : intsT ts with
    | none => rw [q] at h; simp at h
    | some r => rw [q] at h; simp at h; subst h; simp [intsT_eq q]
theorem rts_ints {F : Hp} : ∀ {ns : List Int} {vs : List V}, RTs D w F (ns.map .int) vs → vs = ns.map V.int
  | [], vs, h => by simpa [RTs] using h
  | n :: ns, vs, h => by
    simp only [List.map_cons, RTs, RT] at h
    obtain ⟨v, r, rfl, rfl, h⟩ := h
    simp [rts_ints h]
def fLt (a b : W) (μ : Mem) : R W := match a, b with
  | .t (.int i), .t (.int j) => .ok (.t (.bl (decide (i < j)))) μ
  | .t (.str i), .t (.str j) => .ok (.t (.bl (decide (i.cps.toList < j.cps.toList)))) μ
  | .t (.tup ts), .t (.tup us) => match intsT ts, intsT us with
    | some ns, some ms => .ok (.t (.bl (HT.lexLt ns ms))) μ
    | _, _ => .stuck
  | _, _ => .stuck
def rLtA (K : PySem.W.Frag) : R2 := fun x y H Q => rI0 (fun i j => .bl (decide (i < j))) x y H Q ∨ (∃ i j, x = .str i ∧ y = .str j ∧ Q (.bl (decide (i.cps.toList < j.cps.toList))) H) ∨ rLtT K x y H Q
theorem op_ltA (hu : X.A.units < cLine) : OpR X (compareOp .Lt) (rLtA X.K) := OpR.or op_lt (OpR.or op_lt_str (op_ltT hu))
theorem lt_ok : Op2 D w Wx (rLtA K) fLt := by
  intro σ F H as μ u1 u2 v1 v2 Q S r1 r2 P
  unfold fLt at P
  split at P
  · simp only [RW, RT] at r1 r2
    exact .inl ⟨_, _, r1, r2, Po.now P S (by simp only [relW, RW, RT])⟩
  · simp only [RW, RT] at r1 r2
    exact .inr (.inl ⟨_, _, r1, r2, Po.now P S (by simp only [relW, RW, RT])⟩)
  · split at P
    · rename_i ts us ns ms q1 q2
      simp only [RW, RT] at r1 r2
      obtain ⟨a, vs, rfl, e1, s1⟩ := r1
      obtain ⟨b, ws, rfl, e2, s2⟩ := r2
      rw [intsT_eq q1] at s1
      rw [intsT_eq q2] at s2
      rw [rts_ints s1] at e1
      rw [rts_ints s2] at e2
      exact .inr (.inr ⟨a, b, ns, ms, rfl, rfl, SqT.of (S.sub _ _ e1), SqT.of (S.sub _ _ e2), Po.now P S (by simp only [relW, RW, RT])⟩)
    · exact P.elim
  · exact P.elim
/-! ### is None -/
def isNonW : W → Bool
  | .t .non => true
  | _ => false
def fIsN (neg : Bool) (a b : W) (μ : Mem) : R W := match b with
  | .t .non => .ok (.t (.bl (if neg = true then !isNonW a else isNonW a))) μ
  | _ => .stuck
theorem nonV {F : Hp} {as : List Addr} {u : W} {v : V} (r : RW D w F as u v) : decide (v = .non) = isNonW u := by
  cases u with
  | t t => cases t <;> simp only [RW, RT] at r <;> first | (subst r; rfl) | (obtain ⟨a, _, rfl, _⟩ := r; rfl) | (obtain ⟨a, _, _, rfl, _⟩ := r; rfl)
  | ref n => simp only [RW] at r; obtain ⟨a, _, rfl⟩ := r; rfl
  | tup ws => simp only [RW] at r; obtain ⟨a, _, rfl, _⟩ := r; rfl
theorem isN_ok : Op2 D w Wx (fun x y H Q => y = .non ∧ Q (.bl (decide (x = .non))) H) (fIsN false) := by
  intro σ F H as μ u1 u2 v1 v2 Q S r1 r2 P
  unfold fIsN at P
  split at P
  · simp only [RW, RT] at r2
    refine ⟨r2, Po.now P S ?_⟩
    rw [nonV r1]
    simp [relW, RW, RT]
  · exact P.elim
theorem notN_ok : Op2 D w Wx (fun x y H Q => y = .non ∧ Q (.bl (!decide (x = .non))) H) (fIsN true) := by
  intro σ F H as μ u1 u2 v1 v2 Q S r1 r2 P
  unfold fIsN at P
  split at P
  · simp only [RW, RT] at r2
    refine ⟨r2, Po.now P S ?_⟩
    rw [nonV r1]
    simp [relW, RW, RT]
  · exact P.elim
end
end HQ
/-! HQ7: in, subscripts, slices, types, conversions, methods. -/
namespace HQ
open PySem PySem.Spec PyProof.Rows L2

section
variable {X : Cx} {D : Ad} {w : World} {Wx : WX} {K : PySem.W.Frag}
/-! ### in -/
/-- a flat value -/
def vT : W → Option V
  | .t .non => some .non
  | .t (.bl b) => some (.bl b)
  | .t (.int i) => some (.int i)
  | .t (.str x) => some (.str x)
  | _ => none
def vTs : List W → Option (List V)
  | [] => some []
  | u :: us => match vT u, vTs us with
    | some v, some vs => some (v :: vs)
    | _, _ => none
theorem vT_ok {F : Hp} {as : List Addr} {u : W} {v x : V} (h : vT u = some x) (r : RW D w F as u v) : v = x ∧ flatV x = true := by
  unfold vT at h
  split at h <;> simp only [Option.some.injEq, reduceCtorEq] at h <;> subst h <;> simp only [RW, RT] at r <;> subst r <;> exact ⟨rfl, rfl⟩
theorem vTs_ok {F : Hp} {as : List Addr} : ∀ {us : List W} {vs xs : List V}, vTs us = some xs → RWs D w F as us vs → vs = xs ∧ xs.all flatV = true
  | [], vs, xs, h, r => by
    simp only [vTs, Option.some.injEq] at h; subst h
    simp only [RWs] at r; subst r
    exact ⟨rfl, rfl⟩
  | u :: us, vs, xs, h, r => by
    simp only [vTs] at h
    split at h
    · rename_i x ys q1 q2
      simp only [Option.some.injEq] at h; subst h
      simp only [RWs] at r
      obtain ⟨v, vs', rfl, r1, r2⟩ := r
      obtain ⟨e1, f1⟩ := vT_ok q1 r1
      obtain ⟨e2, f2⟩ := vTs_ok q2 r2
      subst e1 e2
      exact ⟨rfl, by simp [f1, f2]⟩
    · cases h
def signIn (x y : Str) : Bool := decide (x.cps.getD 0 0 ∈ y.cps.toList)
/-- x in y -/
def inW (u v : W) (μ : Mem) : Option Bool := match u, v with
  | .t (.str x), .t (.str y) => if x.cps.size = 1 then some (signIn x y) else none
  | u, v => match getT v with
    | some ws => match vT u, vTs ws with
      | some x, some xs => some (inV x xs)
      | _, _ => none
    | none => match toDW u μ, toDW v μ with
      | some d, some (.list ds) => some (ds.any fun z => PyData.eqv z d)
      | _, _ => none
def fIn (neg : Bool) (u v : W) (μ : Mem) : R W := match inW u v μ with
  | some b => .ok (.t (.bl (if neg = true then !b else b))) μ
  | none => .stuck
def rSign (neg : Bool) : R2 := fun x y H Q => ∃ (c : Nat) (z : Str), x = .str ⟨#[c]⟩ ∧ y = .str z ∧ Q (.bl (if neg = true then !decide (c ∈ z.cps.toList) else decide (c ∈ z.cps.toList))) H
def rInA (K : PySem.W.Frag) (neg : Bool) : R2 := fun x y H Q => rSign neg x y H Q ∨ rIn K neg x y H Q ∨
  ∃ d ds, Dp K H x d ∧ Dp K H y (.list ds) ∧ SeqAt.shaped d = true ∧ SeqAt.shaped (.list ds) = true ∧ Q (.bl (if neg = true then !(ds.any fun z => PyData.eqv z d) else ds.any fun z => PyData.eqv z d)) H
theorem op_inA (hu : X.A.units + 65 < cLine) : OpR X (compareOp .In) (rInA X.K false) := fun pins s σ H x y v u Q I rx ry h => by
  rcases h with ⟨c, z, e1, e2, q⟩ | h | ⟨d, ds, h1, h2, h3, h4, q⟩
  · exact op_in_sign pins s σ H x y v u Q I rx ry ⟨c, z, e1, e2, by simpa using q⟩
  · exact op_in_seq pins s σ H x y v u Q I rx ry h
  · exact op_inD hu pins s σ H x y v u Q I rx ry ⟨d, ds, h1, h2, h3, h4, by simpa using q⟩
theorem op_notInA (hu : X.A.units + 65 < cLine) : OpR X (compareOp .NotIn) (rInA X.K true) := fun pins s σ H x y v u Q I rx ry h => by
  rcases h with ⟨c, z, e1, e2, q⟩ | h | ⟨d, ds, h1, h2, h3, h4, q⟩
  · exact op_notIn_sign pins s σ H x y v u Q I rx ry ⟨c, z, e1, e2, by simpa using q⟩
  · exact op_notIn_seq pins s σ H x y v u Q I rx ry h
  · exact op_notInD hu pins s σ H x y v u Q I rx ry ⟨d, ds, h1, h2, h3, h4, by simpa using q⟩
theorem one_sign {x : Str} (h : x.cps.size = 1) : x = ⟨#[x.cps.getD 0 0]⟩ := by
  obtain ⟨⟨l⟩⟩ := x
  match l, h with
  | [c], _ => rfl
theorem in_ok {neg : Bool} : Op2 D w Wx (rInA K neg) (fIn neg) := by
  intro σ F H as μ u1 u2 v1 v2 Q S r1 r2 P
  unfold fIn at P
  split at P
  · rename_i b q
    have P' := Po.now P S (v := .bl (if neg = true then !b else b)) (by simp only [relW, RW, RT])
    unfold inW at q
    split at q
    · rename_i x y
      split at q
      · rename_i h1
        cases q
        simp only [RW, RT] at r1 r2
        subst r1 r2
        exact .inl ⟨x.cps.getD 0 0, y, congrArg V.str (one_sign h1), rfl, P'⟩
      · cases q
    · split at q
      · rename_i ws qt
        split at q
        · rename_i x xs qx qs
          cases q
          obtain ⟨a, vs, rfl, e, r⟩ := getT_ok S qt r2
          obtain ⟨rfl, f1⟩ := vT_ok qx r1
          obtain ⟨rfl, f2⟩ := vTs_ok qs r
          exact .inr (.inl ⟨a, vs, rfl, .inr (SqT.of e), f1, f2, P'⟩)
        · cases q
      · split at q
        · rename_i d ds qd qe
          cases q
          obtain ⟨h1, h3⟩ := toDW_ok (K := K) S qd r1
          obtain ⟨h2, h4⟩ := toDW_ok (K := K) S qe r2
          exact .inr (.inr ⟨d, ds, h1, h2, h3, h4, P'⟩)
        · cases q
  · exact P.elim
/-! ### a[i] -/
def fIdx (u v : W) (μ : Mem) : R W := match v with
  | .t (.int i) => match u with
    | .t (.str z) => match atI z.cps.toList i with
      | some c => if z.length ≤ bigL then .ok (.t (.str ⟨#[c]⟩)) μ else .stuck
      | none => .stuck
    | u => match getL u μ with
      | some ws => match atI ws i with
        | some x => .ok x μ
        | none => .stuck
      | none => match getT u with
        | some ws => match atI ws i with
          | some x => .ok x μ
          | none => .stuck
        | none => .stuck
  | _ => .stuck
theorem atI_rw {F : Hp} {as : List Addr} {ws : List W} {vs : List V} {i : Int} {x : W} (r : RWs D w F as ws vs) (h : atI ws i = some x) : ∃ v, atI vs i = some v ∧ RW D w F as x v := by
  unfold atI at h ⊢
  rw [← r.len]
  cases q : ixN ws.length i with
  | none => rw [q] at h; cases h
  | some j =>
    rw [q] at h
    exact r.at_ h
def rIxA (K : PySem.W.Frag) : R2 := fun x y H Q => rIxS x y H Q ∨ rIxL K x y H Q ∨ rIxT K x y H Q
theorem ix_A : IxR X (rIxA X.K) := IxR.or ix_str (IxR.or ix_list ix_tup)
theorem idx_ok : Op2 D w Wx (rIxA K) fIdx := by
  intro σ F H as μ u1 u2 v1 v2 Q S r1 r2 P
  unfold fIdx at P
  split at P
  · rename_i i
    simp only [RW, RT] at r2
    subst r2
    split at P
    · rename_i z
      simp only [RW, RT] at r1
      subst r1
      split at P
      · rename_i c q
        split at P
        · rename_i hz
          exact .inl ⟨z, i, c, rfl, rfl, Nat.le_trans hz bigL_le, q, Po.now P S (by simp only [relW, RW, RT])⟩
        · exact P.elim
      · exact P.elim
    · split at P
      · rename_i ws q
        obtain ⟨a, vs, rfl, e, r⟩ := getL_ok S q r1
        split at P
        · rename_i x qx
          obtain ⟨v, q1, q2⟩ := atI_rw r qx
          exact .inr (.inl ⟨a, vs, i, v, rfl, rfl, .inl e, q1, Po.now P S q2⟩)
        · exact P.elim
      · split at P
        · rename_i ws q
          obtain ⟨a, vs, rfl, e, r⟩ := getT_ok S q r1
          split at P
          · rename_i x qx
            obtain ⟨v, q1, q2⟩ := atI_rw r qx
            exact .inr (.inr ⟨a, vs, i, v, rfl, rfl, SqT.of e, q1, Po.now P S q2⟩)
          · exact P.elim
        · exact P.elim
  · exact P.elim
/-! ### slices -/
def cutA {α : Type} (xs : List α) (lo hi : Option Int) : List α := (xs.drop (HT.sIx xs.length 0 lo)).take (HT.sIx xs.length xs.length hi - HT.sIx xs.length 0 lo)
theorem rws_cut {F : Hp} {as : List Addr} {ws : List W} {vs : List V} (r : RWs D w F as ws vs) (lo hi : Option Int) : RWs D w F as (cutA ws lo hi) (cutV vs lo hi) := by
  unfold cutA cutV
  rw [← r.len]
  exact (r.drop _).take _
abbrev MO := En → Mem → R (Option Int)
def oNone : MO := fun _ μ => .ok none μ
def oSome (m : ME) : MO := fun e μ => (m e μ).bind fun u μ1 => match u with
  | .t (.int i) => .ok (some i) μ1
  | _ => .stuck
def fSl (live : Bool) (u : W) (lo hi : Option Int) (μ : Mem) : R W := match u with
  | .t (.str z) => if z.length ≤ bigL then .ok (.t (.str (cutS z lo hi))) μ else .stuck
  | u => match getL u μ with
    | some ws => mkL live (cutA ws lo hi) μ
    | none => match getT u with
      | some ws => .ok (mkTup (cutA ws lo hi)) μ
      | none => .stuck
def rSlAll (K : PySem.W.Frag) : V → Option Int → Option Int → Hp → VK → Prop := fun x lo hi H Q => rSlS x lo hi H Q ∨ rSlL K x lo hi H Q ∨ rSlA K x lo hi H Q
theorem sl_all : SlR X (rSlAll X.K) := SlR.or sl_str (SlR.or sl_list sl_tupA)
theorem sl_ok {live : Bool} {σ : Sg} {F H : Hp} {as : List Addr} {μ : Mem} {u : W} {v : V} {lo hi : Option Int} {Q : VK} (S : Sim D w F H as μ) (r1 : RW D w F as u v) (P : Po D w Wx σ F H as (relW D w) (fSl live u lo hi μ) Q) : rSlAll K v lo hi H Q := by
  unfold fSl at P
  split at P
  · rename_i z
    simp only [RW, RT] at r1
    subst r1
    split at P
    · rename_i hz
      exact .inl ⟨z, rfl, Nat.le_trans hz bigL_le, Po.now P S (by simp only [relW, RW, RT])⟩
    · exact P.elim
  · split at P
    · rename_i ws q
      obtain ⟨a, vs, rfl, e, r⟩ := getL_ok S q r1
      exact .inr (.inl ⟨a, vs, rfl, .inl e, fun p hp => Po.lst P S (rws_cut r lo hi) hp⟩)
    · split at P
      · rename_i ws q
        obtain ⟨a, vs, rfl, e, r⟩ := getT_F q r1
        refine .inr (.inr ⟨a, vs, rfl, SqT.of (S.sub _ _ e), fun h => ?_, fun _ p hp => Po.tup P S (rws_cut r lo hi) hp⟩)
        have e1 : cutA ws lo hi = ws := by
          unfold cutA
          rw [r.len, h.1, h.2]
          simp only [List.drop_zero, Nat.sub_zero]
          exact List.take_of_length_le (by rw [r.len]; exact Nat.le_refl _)
        rw [e1] at P
        exact Po.now P S (rw_mkTup e r)
      · exact P.elim
theorem xo_none : PO X none (fun σ H Q => ∃ F as μ e, Sim D w F H as μ ∧ ER D w F as e σ ∧ Po D w Wx σ F H as (fun _ _ a b => a = b) (oNone e μ) Q) :=
  ⟨fun pins s σ H Q I ⟨F, as, μ, e, S, E, P⟩ => po_none.run pins s σ H Q I (Po.now P S rfl)⟩
theorem xo_some {a : Expr} {m : ME} (h : PE X a (RdE D w Wx m)) : PO X (some a) (fun σ H Q => ∃ F as μ e, Sim D w F H as μ ∧ ER D w F as e σ ∧ Po D w Wx σ F H as (fun _ _ a b => a = b) (oSome m e μ) Q) :=
  ⟨fun pins s σ H Q I ⟨F, as, μ, e, S, E, P⟩ => (po_some h).run pins s σ H Q I ⟨F, as, μ, e, S, E, Po.bind P fun u μ1 F1 H1 as1 v X1 S1 R1 P1 => by
    cases u with
    | t t =>
      cases t <;> first | exact P1.elim | skip
      simp only [relW, RW, RT] at R1
      exact ⟨_, R1, Po.now P1 S1 rfl⟩
    | ref n => exact P1.elim
    | tup ws => exact P1.elim⟩⟩
def mSl (live : Bool) (a : ME) (lo hi : MO) : ME := fun e μ => (a e μ).bind fun u μ1 => (lo e μ1).bind fun l μ2 => (hi e μ2).bind fun h μ3 => fSl live u l h μ3
theorem xe_sl {live : Bool} {a : Expr} {lo hi : Option Expr} {ma : ME} {ml mh : MO} {pos p2 : Pos} (ha : PE X a (RdE D w Wx ma))
    (hl : PO X lo (fun σ H Q => ∃ F as μ e, Sim D w F H as μ ∧ ER D w F as e σ ∧ Po D w Wx σ F H as (fun _ _ a b => a = b) (ml e μ) Q))
    (hh : PO X hi (fun σ H Q => ∃ F as μ e, Sim D w F H as μ ∧ ER D w F as e σ ∧ Po D w Wx σ F H as (fun _ _ a b => a = b) (mh e μ) Q)) : PE X (.Subscript a (.Slice lo hi none p2) pos) (RdE D w Wx (mSl live ma ml mh)) :=
  PE.weak (pe_slice sl_all ha hl hh) fun σ H Q ⟨F, as, μ, e, S, E, P⟩ => ⟨F, as, μ, e, S, E, Po.bind P fun u μ1 F1 H1 as1 v X1 S1 R1 P1 =>
    ⟨F1, as1, μ1, e, S1, E.mono X1.fs X1.pre, Po.bind P1 fun l μ2 F2 H2 as2 l' X2 S2 e2 P2 => ⟨F2, as2, μ2, e, S2, (E.mono X1.fs X1.pre).mono X2.fs X2.pre, Po.bind P2 fun h μ3 F3 H3 as3 h' X3 S3 e3 P3 => by
      subst e2 e3
      exact sl_ok S3 (RW.mono X3.fs X3.pre _ _ (RW.mono X2.fs X2.pre _ _ R1)) P3⟩⟩⟩
/-! ### len -/
def fLen (us : List W) (μ : Mem) : R W := match us with
  | [.t (.str z)] => if z.length ≤ bigL then .ok (.t (.int z.length)) μ else .stuck
  | [u] => match getL u μ with
    | some ws => .ok (.t (.int ws.length)) μ
    | none => match getT u with
      | some ws => .ok (.t (.int ws.length)) μ
      | none => .stuck
  | _ => .stuck
theorem rw1 {F : Hp} {as : List Addr} {u : W} {vs : List V} (r : RWs D w F as [u] vs) : ∃ v, vs = [v] ∧ RW D w F as u v := by
  simp only [RWs] at r
  obtain ⟨v, _, rfl, h, rfl⟩ := r
  exact ⟨v, rfl, h⟩
theorem rw2 {F : Hp} {as : List Addr} {u u' : W} {vs : List V} (r : RWs D w F as [u, u'] vs) : ∃ v v', vs = [v, v'] ∧ RW D w F as u v ∧ RW D w F as u' v' := by
  simp only [RWs] at r
  obtain ⟨v, _, rfl, h, v', _, rfl, h', rfl⟩ := r
  exact ⟨v, v', rfl, h, h'⟩
def rLenA (K : PySem.W.Frag) : List V → Hp → VK → Prop := fun xs H Q => (∃ p ys, xs = [.ref p] ∧ (SqL K H p ys ∨ SqT K H p ys) ∧ Q (.int ys.length) H) ∨ ∃ z, xs = [.str z] ∧ z.length ≤ sizeLine ∧ Q (.int z.length) H
theorem call_lenA : CallR X (.builtin "len") (rLenA X.K) := fun pins s σ H xs us Q I r h => by
  rcases h with h | h
  · exact call_len_seq pins s σ H xs us Q I r h
  · exact call_len_str pins s σ H xs us Q I r h
theorem len_ok : OpA D w Wx (rLenA K) fLen := by
  intro σ F H as μ us vs Q S r P
  unfold fLen at P
  split at P
  · rename_i z
    obtain ⟨v, rfl, h⟩ := rw1 r
    simp only [RW, RT] at h
    subst h
    split at P
    · rename_i hz
      exact .inr ⟨z, rfl, Nat.le_trans hz bigL_le, Po.now P S (by simp only [relW, RW, RT])⟩
    · exact P.elim
  · rename_i u _
    obtain ⟨v, rfl, h⟩ := rw1 r
    split at P
    · rename_i ws q
      obtain ⟨a, vs, rfl, e, r⟩ := getL_ok S q h
      exact .inl ⟨a, vs, rfl, .inl (.inl e), Po.now P S (by simp [relW, RW, RT, r.len])⟩
    · split at P
      · rename_i ws q
        obtain ⟨a, vs, rfl, e, r⟩ := getT_ok S q h
        exact .inl ⟨a, vs, rfl, .inr (SqT.of e), Po.now P S (by simp [relW, RW, RT, r.len])⟩
      · exact P.elim
  · exact P.elim
end
end HQ
/-! HQ8: types, conversions, methods of texts. -/
namespace HQ
open PySem PySem.Spec PyProof.Rows L2

/-- a type: a built-in one, one of the program's classes -/
inductive TyC where
  | b (n : String)
  | c (c : Nat)
def tyT : T → Option TyC
  | .non => some (.b "NoneType")
  | .bl _ => some (.b "bool")
  | .int _ => some (.b "int")
  | .str _ => some (.b "str")
  | .tup _ => some (.b "tuple")
  | .lst _ => some (.b "list")
  | .scr _ => some (.b "list")
  | .dic _ _ => some (.b "dict")
  | .ins c _ _ => some (.c c)
  | _ => none
def tyW (u : W) (μ : Mem) : Option TyC := match u with
  | .t t => tyT t
  | .tup _ => some (.b "tuple")
  | .ref n => match μ[n]? with
    | some (.lst _) => some (.b "list")
    | some (.dic _ _) => some (.b "dict")
    | some (.ins c _ _) => some (.c c)
    | _ => none
section
variable {X : Cx} {D : Ad} {w : World} {Wx : WX} {K : PySem.W.Frag}
def TyC.v (D : Ad) : TyC → Value
  | .b n => .type n
  | .c k => .ref (D.ca k)
/-- what isinstance asks of an own class -/
structure IsC (K : PySem.W.Frag) (C : Addr) : Prop where
  cl : Cls K C
  ha : PySem.W.findIn K (.ref C) "__class__" = some (some (.builtin "object.__class__"))
  hn : PySem.W.specialIn K (.builtin "object.__class__") "__get__" = some (some (.builtin "getset_descriptor.__get__"))
  tk : PySem.W.takesIn K (.builtin "object.__class__") = some true
  mr : PySem.W.mroIn K C (.type "object") = some true
/-- the table of types: kt a b: is a thing of the type a one of b -/
structure KT (K : PySem.W.Frag) (D : Ad) (kt : TyC → TyC → Option Bool) : Prop where
  one : ∀ a b r, kt a b = some r → PySem.W.kitOne K (a.v D) (b.v D) = some r
  own : ∀ c b r, kt (.c c) b = some r → IsC K (D.ca c)
/-- a value's type, dicts too -/
inductive TyA (K : PySem.W.Frag) (w : World) (H : Hp) : V → Value → Prop where
  | x {v : V} {t : Value} (h : TyX K H v t) : TyA K w H v t
  | dic {a : Addr} {es : List DE} (e : H a = some (dicO w a es)) : TyA K w H (.ref a) (.type "dict")
theorem dic_at {P : Program} {w' : World} {H : Hp} {h : Heap} {a : Addr} {es : List DE} (hok : HOk P w' H h) (e : H a = some (dicO w a es)) : DicP w a es h := (hok a _ e).1
theorem kit_A {pins : List (Addr × Obj)} {σ : Sg} {H : Hp} {s : Shared} {x : V} {u t : Value} (I : Inv X pins σ H s) (rx : RelV x u) (ty : TyA X.K w H x t) : ∃ P : Heap → Prop, PySem.W.KitX X.K u t P ∧ P s.heap ∧ u ≠ .builtin "__main__.__loader__#opaque" := by
  cases ty with
  | x h => exact kit_of I rx h
  | @dic a es e =>
    cases rx
    obtain ⟨_, _, o, xs, ep, h1, h2, _⟩ := dic_at I.hok e
    exact ⟨_, PySem.W.kitx_dict, ⟨o, h1, h2.1⟩, fun z => nomatch z⟩
def rIsiA (K : PySem.W.Frag) (w : World) : List V → Hp → VK → Prop := fun xs H Q =>
  (∃ (x c : V) (t u : Value) (b : Bool), xs = [x, c] ∧ ClsV c u ∧ TyA K w H x t ∧ PySem.W.kitOne K t u = some b ∧ Q (.bl b) H) ∨
  ∃ (x : V) (tp : Addr) (cs : List V) (t : Value) (us : List Value) (b : Bool), xs = [x, .ref tp] ∧ H tp = some (.tup cs) ∧ Paired ClsV cs us ∧ TyA K w H x t ∧ PySem.W.kitAny K t us = some b ∧ Q (.bl b) H
theorem call_isiA : CallR X (.builtin "isinstance") (rIsiA X.K w) := by
  intro pins s σ H xs us Q I r h
  rcases h with ⟨x, c, t, u, b, rfl, k, ty, e, q⟩ | ⟨x, tp, cs, t, ws, b, rfl, hT, k, ty, e, q⟩
  · obtain ⟨u1, u2, rfl, r1, r2⟩ := vals2 r
    have e2 := k.eq r2
    subst e2
    obtain ⟨P, Z, p, hx⟩ := kit_A I r1 ty
    exact PySem.W.kia_one Z I.kIn p e hx fun tk => ⟨.bl b, H, I.tok tk, rfl, q⟩
  · obtain ⟨u1, u2, rfl, r1, r2⟩ := vals2 r
    cases r2
    obtain ⟨P, Z, p, hx⟩ := kit_A I r1 ty
    have q0 := I.hok tp _ hT
    obtain ⟨_, its, rv, o, h1, h2, n, h3⟩ := q0
    have e3 := ClsV.all k rv
    subst e3
    obtain ⟨oc, od, dt, sl⟩ := o
    dsimp only at h2 h3
    subst h2 h3
    exact PySem.W.kia_tup Z I.kIn p h1 e hx fun tk => ⟨.bl b, H, I.tok tk, rfl, q⟩
theorem tyW_ok {kt : TyC → TyC → Option Bool} (hk : KT K D kt) {F H : Hp} {as : List Addr} {μ : Mem} {u : W} {v : V} {a b : TyC} {r : Bool} (S : Sim D w F H as μ) (h : tyW u μ = some a) (hb : kt a b = some r) (rr : RW D w F as u v) : TyA K w H v (a.v D) := by
  have own : ∀ {c a dx fs}, kt (.c c) b = some r → H a = some (.ins (D.ca c) dx fs) → TyA K w H (.ref a) ((TyC.c c).v D) := fun {c a dx fs} q e => by
    obtain ⟨h1, h2, h3, h4, h5⟩ := hk.own c b r q
    exact .x (.base (.ins e h1 h2 h3 h4 h5))
  cases u with
  | t t =>
    cases t <;> simp only [tyW, tyT, Option.some.injEq, reduceCtorEq] at h <;> subst h <;> simp only [RW, RT] at rr
    case non => subst rr; exact .x (.base .non)
    case bl => subst rr; exact .x (.base (.bl _))
    case int => subst rr; exact .x (.base (.int _))
    case str => subst rr; exact .x (.base (.str _))
    case tup => obtain ⟨a, vs, rfl, e, _⟩ := rr; exact .x (.base (.tup (S.sub _ _ e)))
    case lst => obtain ⟨a, vs, rfl, e, _⟩ := rr; exact .x (.base (.lst (S.sub _ _ e)))
    case scr => obtain ⟨a, o, rfl, e⟩ := rr; exact .x (.base (.frz (S.sub _ _ e)))
    case dic => obtain ⟨a, es, rfl, e, _⟩ := rr; exact .dic (S.sub _ _ e)
    case ins => obtain ⟨a, dx, fs, rfl, e, _⟩ := rr; exact own hb (S.sub _ _ e)
  | ref n =>
    simp only [RW] at rr
    obtain ⟨a, e, rfl⟩ := rr
    simp only [tyW] at h
    cases q : μ[n]? with
    | none => rw [q] at h; cases h
    | some o =>
      rw [q] at h
      have ob := S.obj n a o e q
      cases o <;> simp only [Option.some.injEq, reduceCtorEq] at h <;> subst h
      case lst => obtain ⟨vs, e1, _⟩ := ob; exact .x (.base (.lst e1))
      case dic => obtain ⟨es, e1, _⟩ := ob; exact .dic e1
      case ins => obtain ⟨dx, fs, e1, _⟩ := ob; exact own hb e1
  | tup ws =>
    simp only [tyW, Option.some.injEq] at h
    subst h
    simp only [RW] at rr
    obtain ⟨a, vs, rfl, e, _⟩ := rr
    exact .x (.base (.tup (S.sub _ _ e)))
def tyOf1 : T → Option TyC
  | .ty n => some (.b n)
  | .cls c => some (.c c)
  | _ => none
def isAny (kt : TyC → TyC → Option Bool) (a : TyC) : List T → Option Bool
  | [] => some false
  | t :: ts => match tyOf1 t with
    | some b => match kt a b with
      | some true => some true
      | some false => isAny kt a ts
      | none => none
    | none => none
def fIsi (kt : TyC → TyC → Option Bool) (us : List W) (μ : Mem) : R W := match us with
  | [u, .t (.tup (t :: ts))] => match tyW u μ with
    | some a => match tyOf1 t with
      | some b => match kt a b with
        | some true => if (ts.all fun t => (tyOf1 t).isSome) = true then .ok (.t (.bl true)) μ else .stuck
        | some false => match isAny kt a ts with
          | some r => if (ts.all fun t => (tyOf1 t).isSome) = true then .ok (.t (.bl r)) μ else .stuck
          | none => .stuck
        | none => .stuck
      | none => .stuck
    | none => .stuck
  | [u, .t t] => match tyW u μ, tyOf1 t with
    | some a, some b => match kt a b with
      | some r => .ok (.t (.bl r)) μ
      | none => .stuck
    | _, _ => .stuck
  | _ => .stuck
theorem tyOf1_ok {F : Hp} {t : T} {b : TyC} {v : V} (h : tyOf1 t = some b) (r : RT D w F t v) : ClsV v (b.v D) := by
  cases t <;> simp only [tyOf1, Option.some.injEq, reduceCtorEq] at h <;> subst h <;> simp only [RT] at r <;> subst r
  · exact .ty _
  · exact .own _
theorem tyOfs_ok {F : Hp} : ∀ {ts : List T} {vs : List V}, (ts.all fun t => (tyOf1 t).isSome) = true → RTs D w F ts vs → ∃ bs : List TyC, ts.map tyOf1 = bs.map some ∧ Paired ClsV vs (bs.map (TyC.v D))
  | [], vs, h, r => by simp only [RTs] at r; subst r; exact ⟨[], rfl, .nil⟩
  | t :: ts, vs, h, r => by
    simp only [RTs] at r
    obtain ⟨v, vs', rfl, r1, r2⟩ := r
    simp only [List.all_cons, Bool.and_eq_true] at h
    obtain ⟨b, hb⟩ := Option.isSome_iff_exists.mp h.1
    obtain ⟨bs, e, p⟩ := tyOfs_ok h.2 r2
    exact ⟨b :: bs, by simp [hb, e], .cons (tyOf1_ok hb r1) p⟩
theorem isAny_ok {kt : TyC → TyC → Option Bool} (hk : KT K D kt) {a : TyC} : ∀ {ts : List T} {bs : List TyC} {r : Bool}, ts.map tyOf1 = bs.map some → isAny kt a ts = some r → PySem.W.kitAny K (a.v D) (bs.map (TyC.v D)) = some r
  | [], bs, r, e, h => by
    cases bs with
    | nil => simp only [isAny, Option.some.injEq] at h; subst h; rfl
    | cons b bs => simp at e
  | t :: ts, bs, r, e, h => by
    cases bs with
    | nil => simp at e
    | cons b bs =>
      simp only [List.map_cons, List.cons.injEq] at e
      simp only [isAny, e.1] at h
      simp only [List.map_cons]
      split at h
      · rename_i q
        simp only [Option.some.injEq] at h; subst h
        exact kitAny_cons (hk.one _ _ _ q) (fun z => by cases z) fun _ => rfl
      · rename_i q
        exact kitAny_cons (hk.one _ _ _ q) (fun _ => isAny_ok hk e.2 h) fun z => by cases z
      · cases h
theorem isi_ok {kt : TyC → TyC → Option Bool} (hk : KT K D kt) : OpA D w Wx (rIsiA K w) (fIsi kt) := by
  intro σ F H as μ us vs Q S r P
  unfold fIsi at P
  split at P
  · rename_i u t ts
    obtain ⟨v, v', rfl, r1, r2⟩ := rw2 r
    simp only [RW, RT] at r2
    obtain ⟨tp, cs, rfl, e, r2⟩ := r2
    split at P
    · rename_i a qa
      split at P
      · rename_i b qb
        have fin : ∀ (r0 : Bool), kt a b = some r0 → (ts.all fun t => (tyOf1 t).isSome) = true → isAny kt a (t :: ts) = some r0 → Po D w Wx σ F H as (relW D w) (.ok (.t (.bl r0)) μ) Q → rIsiA K w [v, V.ref tp] H Q := fun r0 q h1 h2 P => by
          obtain ⟨bs, e1, e2⟩ := tyOfs_ok (ts := t :: ts) (by simp only [List.all_cons, qb, h1]; rfl) r2
          exact .inr ⟨v, tp, cs, a.v D, _, r0, rfl, S.sub _ _ e, e2, tyW_ok hk S qa q r1, isAny_ok hk e1 h2, Po.now P S (by simp only [relW, RW, RT])⟩
        split at P
        · rename_i q
          split at P
          · rename_i h1
            exact fin true q h1 (by simp only [isAny, qb, q]) P
          · exact P.elim
        · rename_i q
          split at P
          · rename_i r0 q2
            split at P
            · rename_i h1
              obtain ⟨bs, e1, e2⟩ := tyOfs_ok (ts := t :: ts) (by simp only [List.all_cons, qb, h1]; rfl) r2
              exact .inr ⟨v, tp, cs, a.v D, _, r0, rfl, S.sub _ _ e, e2, tyW_ok hk S qa q r1, isAny_ok hk e1 (by simp only [isAny, qb, q, q2]), Po.now P S (by simp only [relW, RW, RT])⟩
            · exact P.elim
          · exact P.elim
        · exact P.elim
      · exact P.elim
    · exact P.elim
  · rename_i u t _
    obtain ⟨v, v', rfl, r1, r2⟩ := rw2 r
    simp only [RW] at r2
    split at P
    · rename_i a b qa qb
      split at P
      · rename_i r0 q
        exact .inl ⟨v, v', _, _, r0, rfl, tyOf1_ok qb r2, tyW_ok hk S qa q r1, hk.one _ _ _ q, Po.now P S (by simp only [relW, RW, RT])⟩
      · exact P.elim
    · exact P.elim
  · exact P.elim
/-! ### max, min, int, str -/
def fMax (us : List W) (μ : Mem) : R W := match us with
  | [.t (.int i), .t (.int j)] => .ok (.t (.int (if j > i then j else i))) μ
  | _ => .stuck
def fMin (us : List W) (μ : Mem) : R W := match us with
  | [.t (.int i), .t (.int j)] => .ok (.t (.int (if j < i then j else i))) μ
  | _ => .stuck
theorem max_ok : OpA D w Wx (fun xs H Q => ∃ i j, xs = [.int i, .int j] ∧ Q (.int (if j > i then j else i)) H) fMax := by
  intro σ F H as μ us vs Q S r P
  unfold fMax at P
  split at P
  · obtain ⟨v, v', rfl, r1, r2⟩ := rw2 r
    simp only [RW, RT] at r1 r2
    subst r1 r2
    exact ⟨_, _, rfl, Po.now P S (by simp only [relW, RW, RT])⟩
  · exact P.elim
theorem min_ok : OpA D w Wx (fun xs H Q => ∃ i j, xs = [.int i, .int j] ∧ Q (.int (if j < i then j else i)) H) fMin := by
  intro σ F H as μ us vs Q S r P
  unfold fMin at P
  split at P
  · obtain ⟨v, v', rfl, r1, r2⟩ := rw2 r
    simp only [RW, RT] at r1 r2
    subst r1 r2
    exact ⟨_, _, rfl, Po.now P S (by simp only [relW, RW, RT])⟩
  · exact P.elim
def fInt (us : List W) (μ : Mem) : R W := match us with
  | [.t (.int i)] => .ok (.t (.int i)) μ
  | [.t (.bl b)] => .ok (.t (.int (if b = true then 1 else 0))) μ
  | [.t (.str x)] => match PySem.intText? x with
    | some n => if x.length ≤ 640 then .ok (.t (.int n)) μ else .stuck
    | none => .stuck
  | _ => .stuck
def rIntA : List V → Hp → VK → Prop := fun xs H Q => ((∃ i, xs = [.int i] ∧ Q (.int i) H) ∨ ∃ k, xs = [.bl k] ∧ Q (.int (if k then 1 else 0)) H) ∨ ∃ a n, xs = [.str a] ∧ PySem.intText? a = some n ∧ a.length ≤ 640 ∧ Q (.int n) H
theorem call_intA : CallR X (.type "int") rIntA := fun pins s σ H xs us Q I r h => by
  rcases h with h | h
  · exact call_int1 pins s σ H xs us Q I r h
  · exact call_int_str pins s σ H xs us Q I r h
theorem int_ok : OpA D w Wx rIntA fInt := by
  intro σ F H as μ us vs Q S r P
  unfold fInt at P
  split at P
  · obtain ⟨v, rfl, h⟩ := rw1 r
    simp only [RW, RT] at h
    subst h
    exact .inl (.inl ⟨_, rfl, Po.now P S (by simp only [relW, RW, RT])⟩)
  · obtain ⟨v, rfl, h⟩ := rw1 r
    simp only [RW, RT] at h
    subst h
    exact .inl (.inr ⟨_, rfl, Po.now P S (by simp only [relW, RW, RT])⟩)
  · obtain ⟨v, rfl, h⟩ := rw1 r
    simp only [RW, RT] at h
    subst h
    split at P
    · rename_i n q
      split at P
      · rename_i hl
        exact .inr ⟨_, n, rfl, q, hl, Po.now P S (by simp only [relW, RW, RT])⟩
      · exact P.elim
    · exact P.elim
  · exact P.elim
def fStr (us : List W) (μ : Mem) : R W := match us with
  | [.t (.int i)] => if i.natAbs.log2 < 1920 then .ok (.t (.str (toString i))) μ else .stuck
  | _ => .stuck
theorem str_ok : OpA D w Wx (fun xs H Q => ∃ i, xs = [.int i] ∧ i.natAbs.log2 < 1920 ∧ Q (.str (toString i)) H) fStr := by
  intro σ F H as μ us vs Q S r P
  unfold fStr at P
  split at P
  · obtain ⟨v, rfl, h⟩ := rw1 r
    simp only [RW, RT] at h
    subst h
    split at P
    · rename_i hl
      exact ⟨_, rfl, hl, Po.now P S (by simp only [relW, RW, RT])⟩
    · exact P.elim
  · exact P.elim
/-! ### list(..), tuple(..) -/
def fList (live : Bool) (us : List W) (μ : Mem) : R W := match us with
  | [u] => match getL u μ with
    | some ws => mkL live ws μ
    | none => match getT u with
      | some ws => mkL live ws μ
      | none => .stuck
  | _ => .stuck
theorem list_ok {live : Bool} : OpA D w Wx (fun xs H Q => ∃ p ys, xs = [.ref p] ∧ (SqL K H p ys ∨ SqT K H p ys) ∧ ∀ l, H l = none → Q (.ref l) (upd H l (.lst ys))) (fList live) := by
  intro σ F H as μ us vs Q S r P
  unfold fList at P
  split at P
  · obtain ⟨v, rfl, h⟩ := rw1 r
    split at P
    · rename_i ws q
      obtain ⟨a, vs, rfl, e, r⟩ := getL_ok S q h
      exact ⟨a, vs, rfl, .inl (.inl e), fun p hp => Po.lst P S r hp⟩
    · split at P
      · rename_i ws q
        obtain ⟨a, vs, rfl, e, r⟩ := getT_ok S q h
        exact ⟨a, vs, rfl, .inr (SqT.of e), fun p hp => Po.lst P S r hp⟩
      · exact P.elim
  · exact P.elim
def fTuple (us : List W) (μ : Mem) : R W := match us with
  | [u] => match getL u μ with
    | some ws => .ok (mkTup ws) μ
    | none => match getT u with
      | some ws => .ok (mkTup ws) μ
      | none => .stuck
  | _ => .stuck
theorem tuple_ok : OpA D w Wx (fun xs H Q => ∃ p ys, xs = [.ref p] ∧ ((SqL K H p ys ∧ ∀ l, H l = none → Q (.ref l) (upd H l (.tup ys))) ∨ (SqT K H p ys ∧ Q (.ref p) H))) fTuple := by
  intro σ F H as μ us vs Q S r P
  unfold fTuple at P
  split at P
  · obtain ⟨v, rfl, h⟩ := rw1 r
    split at P
    · rename_i ws q
      obtain ⟨a, vs, rfl, e, r⟩ := getL_ok S q h
      exact ⟨a, vs, rfl, .inl ⟨.inl e, fun p hp => Po.tup P S r hp⟩⟩
    · split at P
      · rename_i ws q
        obtain ⟨a, vs, rfl, e, r⟩ := getT_F q h
        exact ⟨a, vs, rfl, .inr ⟨SqT.of (S.sub _ _ e), Po.now P S (rw_mkTup e r)⟩⟩
      · exact P.elim
  · exact P.elim
/-! ### methods of texts -/
def mM1 (f : Str → W → Mem → R W) (mo me : ME) : ME := fun e μ => (mo e μ).bind fun u μ1 => match u with
  | .t (.str a) => (me e μ1).bind fun v μ2 => f a v μ2
  | _ => .stuck
def OpS (D : Ad) (w : World) (Wx : WX) (r : V → List V → Hp → VK → Prop) (f : Str → W → Mem → R W) : Prop :=
  ∀ σ F H as μ a u v (Q : VK), Sim D w F H as μ → RW D w F as u v → Po D w Wx σ F H as (relW D w) (f a u μ) Q → r (.str a) [v] H Q
theorem xe_m1 {id : String} {name : Str} {apos pos : Pos} {o e : Expr} {mo me : ME} {r : V → List V → Hp → VK → Prop} {f : Str → W → Mem → R W} (slot : Slot "str" name id) (ty : typeOf (.builtin id) = pure (.type "method_descriptor")) (rule : MtR X id r) (hf : OpS D w Wx r f)
    (ho : PE X o (RdE D w Wx mo)) (he : PE X e (RdE D w Wx me)) (hs : starEach [e] X.env = [(false, eval e X.env)]) (hbase : attributeBase o name X.env (eval o X.env) = eval o X.env) (hline : (apos.endLine == pos.line) = true) :
    PE X (.Call (.Attribute o name apos) [e] [] pos) (RdE D w Wx (mM1 f mo me)) :=
  PE.weak (pe_m1 slot ty rule ho he hs hbase hline) fun σ H Q ⟨F, as, μ, e, S, E, P⟩ => ⟨F, as, μ, e, S, E, Po.bind P fun u μ1 F1 H1 as1 v X1 S1 R1 P1 => by
    cases u with
    | t t =>
      cases t <;> first | exact P1.elim | skip
      simp only [relW, RW, RT] at R1
      subst R1
      exact ⟨⟨_, rfl⟩, F1, as1, μ1, e, S1, E.mono X1.fs X1.pre, Po.bind P1 fun u' μ2 F2 H2 as2 v' X2 S2 R2 P2 => hf σ F2 H2 as2 μ2 _ u' v' Q S2 R2 P2⟩
    | ref n => exact P1.elim
    | tup ws => exact P1.elim⟩
/-- the texts of a list -/
def strsW : List W → Option (List Str)
  | [] => some []
  | .t (.str x) :: us => (strsW us).map (x :: ·)
  | _ :: _ => none
theorem strsW_ok {F : Hp} {as : List Addr} : ∀ {us : List W} {ys : List Str} {vs : List V}, strsW us = some ys → RWs D w F as us vs → vs = ys.map V.str
  | [], ys, vs, h, r => by
    simp only [strsW, Option.some.injEq] at h; subst h
    simpa only [RWs, List.map_nil] using r
  | u :: us, ys, vs, h, r => by
    cases u with
    | t t =>
      cases t <;> simp only [strsW, reduceCtorEq] at h
      rename_i x
      cases q : strsW us with
      | none => rw [q] at h; simp at h
      | some zs =>
        rw [q] at h
        simp only [Option.map_some, Option.some.injEq] at h; subst h
        simp only [RWs, RW, RT] at r
        obtain ⟨v, vs', rfl, rfl, r⟩ := r
        simp [strsW_ok q r]
    | ref n => simp [strsW] at h
    | tup ws => simp [strsW] at h
def fJoin (a : Str) (u : W) (μ : Mem) : R W := match (match getL u μ with
    | some ws => some ws
    | none => getT u) with
  | some ws => match strsW ws with
    | some ys => if (ys.map (·.length)).sum + ys.length * a.length ≤ 16777216 then .ok (.t (.str (Txt.join a ys))) μ else .stuck
    | none => .stuck
  | none => .stuck
theorem join_ok : OpS D w Wx (fun x xs H Q => ∃ a p, ∃ ys : List Str, x = .str a ∧ xs = [.ref p] ∧ (SqL K H p (ys.map V.str) ∨ SqT K H p (ys.map V.str)) ∧
    (ys.map (·.length)).sum + ys.length * a.length ≤ 16777216 ∧ Q (.str (Txt.join a ys)) H) fJoin := by
  intro σ F H as μ a u v Q S r P
  unfold fJoin at P
  split at P
  · rename_i ws q
    split at P
    · rename_i ys qs
      split at P
      · rename_i hl
        have P' := Po.now P S (v := .str (Txt.join a ys)) (by simp only [relW, RW, RT])
        split at q
        · rename_i ws' q1
          cases q
          obtain ⟨p, vs, rfl, e, r⟩ := getL_ok S q1 r
          rw [strsW_ok qs r] at e
          exact ⟨a, p, ys, rfl, rfl, .inl (.inl e), hl, P'⟩
        · obtain ⟨p, vs, rfl, e, r⟩ := getT_ok S q r
          rw [strsW_ok qs r] at e
          exact ⟨a, p, ys, rfl, rfl, .inr (SqT.of e), hl, P'⟩
      · exact P.elim
    · exact P.elim
  · exact P.elim
def fFind (a : Str) (u : W) (μ : Mem) : R W := match u with
  | .t (.str b) => .ok (.t (.int (Txt.find a b))) μ
  | _ => .stuck
theorem find_ok : OpS D w Wx (fun x xs H Q => ∃ a b, x = .str a ∧ xs = [.str b] ∧ Q (.int (Txt.find a b)) H) fFind := by
  intro σ F H as μ a u v Q S r P
  unfold fFind at P
  split at P
  · simp only [RW, RT] at r
    subst r
    exact ⟨a, _, rfl, rfl, Po.now P S (by simp only [relW, RW, RT])⟩
  · exact P.elim
end
end HQ
/-! HQ9: defs and their calls. -/
namespace HQ
open PySem PySem.Spec PyProof.Rows L2

/-! ### leaving a def: what it made and nobody holds is forgotten -/
mutual
def cleanW (n : Nat) : W → Bool
  | .t _ => true
  | .ref k => decide (k < n)
  | .tup ws => cleanWs n ws
def cleanWs (n : Nat) : List W → Bool
  | [] => true
  | u :: us => cleanW n u && cleanWs n us
end
def cleanO (n : Nat) : O → Bool
  | .lst ws => cleanWs n ws
  | .dic _ ws => cleanWs n ws
  | .ins _ _ ws => cleanWs n ws
  | .dead => true
def fin (n : Nat) (u : W) (μ : Mem) : R W :=
  if μ.length ≤ n then .ok u μ
  else if ((μ.take n).all (cleanO n)) = true then
    if cleanW n u = true then .ok u (μ.take n)
    else match u with
      | .ref k => match μ[k]? with
        | some o => if n ≤ k ∧ cleanO n o = true then .ok (.ref n) (μ.take n ++ [o]) else .ok u μ
        | none => .ok u μ
      | _ => .ok u μ
  else .ok u μ
section
variable {D : Ad} {w : World} {F : Hp} {as : List Addr}
mutual
theorem RW.clean (n : Nat) : ∀ (u : W) (v : V), cleanW n u = true → RW D w F as u v → RW D w F (as.take n) u v
  | .t t, v, h, r => by simpa only [RW] using r
  | .ref k, v, h, r => by
    simp only [cleanW, decide_eq_true_eq] at h
    simp only [RW] at r ⊢
    obtain ⟨a, e, q⟩ := r
    exact ⟨a, by rw [List.getElem?_take_of_lt h]; exact e, q⟩
  | .tup ws, v, h, r => by
    simp only [cleanW] at h
    simp only [RW] at r ⊢
    obtain ⟨a, vs, e, q, r⟩ := r
    exact ⟨a, vs, e, q, RWs.clean n ws vs h r⟩
theorem RWs.clean (n : Nat) : ∀ (us : List W) (vs : List V), cleanWs n us = true → RWs D w F as us vs → RWs D w F (as.take n) us vs
  | [], vs, h, r => by simpa only [RWs] using r
  | u :: us, vs, h, r => by
    simp only [cleanWs, Bool.and_eq_true] at h
    simp only [RWs] at r ⊢
    obtain ⟨v, vs', e, r1, r2⟩ := r
    exact ⟨v, vs', e, RW.clean n u v h.1 r1, RWs.clean n us vs' h.2 r2⟩
end
theorem RO.clean (n : Nat) {a : Addr} {o : Option HO} {x : O} (h : cleanO n x = true) (r : RO D w F as a o x) : RO D w F (as.take n) a o x := by
  cases x with
  | lst ws =>
    obtain ⟨vs, e, r⟩ := r
    exact ⟨vs, e, RWs.clean n ws vs h r⟩
  | dic ks ws =>
    obtain ⟨es, e, r1, r2, r3⟩ := r
    exact ⟨es, e, r1, RWs.clean n ws _ h r2, r3⟩
  | ins c ns ws =>
    obtain ⟨dx, fs, e, r1, r2⟩ := r
    exact ⟨dx, fs, e, r1, RWs.clean n ws _ h r2⟩
  | dead => trivial
theorem Sim.take {H : Hp} {μ : Mem} (S : Sim D w F H as μ) (n : Nat) (h : (μ.take n).all (cleanO n) = true) : Sim D w F H (as.take n) (μ.take n) := by
  have lt : ∀ {α : Type} {l : List α} {k : Nat} {a : α}, (l.take n)[k]? = some a → k < n ∧ l[k]? = some a := fun {α l k a} q => by
    have hk := (List.getElem?_eq_some_iff.mp q).1
    rw [List.length_take] at hk
    have h1 : k < n := by omega
    rw [List.getElem?_take_of_lt h1] at q
    exact ⟨h1, q⟩
  refine ⟨S.sub, by simp [S.len], S.nd.sublist (List.take_sublist _ _), fun a ha => S.there a (List.mem_of_mem_take ha), fun k a o h1 h2 => S.out k a o (lt h1).2 (lt h2).2, fun k a o h1 h2 => ?_⟩
  exact RO.clean n (List.all_eq_true.mp h o (List.mem_of_getElem? h2)) (S.obj k a o (lt h1).2 (lt h2).2)
end
section
variable {D : Ad} {w : World}
/-- what follows a call -/
def PoC (D : Ad) (w : World) (F H : Hp) (as : List Addr) (r : R W) (Q : VK) (E : XK) : Prop := match r with
  | .ok u μ => ∀ F' H' as' v, Ext F H as F' H' as' → Sim D w F' H' as' μ → RW D w F' as' u v → Q v H'
  | .exc x μ => ∀ F' H' as' d, Ext F H as F' H' as' → Sim D w F' H' as' μ → XR D w F' H' as' x d → E (.ref (D.ca x.c)) d H'
  | .stuck => False
theorem PoC.fin {F H F' H' : Hp} {as as' : List Addr} {μ : Mem} {u : W} {v : V} {Q : VK} {E : XK} (h : PoC D w F H as (fin as.length u μ) Q E) (X : Ext F H as F' H' as') (S : Sim D w F' H' as' μ) (r : RW D w F' as' u v) : Q v H' := by
  have all : PoC D w F H as (.ok u μ) Q E → Q v H' := fun h => h F' H' as' v X S r
  obtain ⟨z, e, hz⟩ := X.more
  have et : as'.take as.length = as := by rw [e]; simp
  unfold HQ.fin at h
  split at h
  · exact all h
  · split at h
    · rename_i hcl
      have S2 := S.take as.length hcl
      rw [et] at S2
      have X2 : Ext F H as F' H' as := ⟨X.fs, ⟨[], by simp, by simp⟩, X.keep, X.newF⟩
      split at h
      · rename_i hu
        have r2 := RW.clean as.length u v hu r
        rw [et] at r2
        exact h F' H' as v X2 S2 r2
      · split at h
        · rename_i k _
          split at h
          · rename_i o qo
            split at h
            · rename_i hk
              simp only [RW] at r
              obtain ⟨a, ea, rfl⟩ := r
              have ha : a ∉ as := fun hm => by
                obtain ⟨j, hj⟩ := List.mem_iff_getElem?.mp hm
                have hj2 : as'[j]? = some a := by
                  rw [e, List.getElem?_append_left (List.getElem?_eq_some_iff.mp hj).1]; exact hj
                have := ix_nd S.nd hj2 ea
                have := (List.getElem?_eq_some_iff.mp hj).1
                omega
              have ob := RO.clean as.length hk.2 (S.obj k a o ea qo)
              rw [et] at ob
              have hH : H a = none := by
                have hm : a ∈ as' := List.mem_of_getElem? ea
                rw [e] at hm
                rcases List.mem_append.mp hm with hm | hm
                · exact absurd hm ha
                · exact hz a hm
              refine h F' H' (as ++ [a]) (.ref a) ⟨X.fs, ⟨[a], rfl, by simpa using hH⟩, X.keep, X.newF⟩ ?_ ?_
              · have ix : ∀ (j : Nat) b y, (as ++ [a])[j]? = some b → (μ.take as.length ++ [o])[j]? = some y → (as[j]? = some b ∧ (μ.take as.length)[j]? = some y) ∨ (b = a ∧ y = o) := fun j b y h1 h2 => by
                  have ll : (μ.take as.length).length = as.length := S2.len.symm
                  by_cases hj : j < as.length
                  · rw [List.getElem?_append_left hj] at h1
                    rw [List.getElem?_append_left (by omega)] at h2
                    exact .inl ⟨h1, h2⟩
                  · have := (List.getElem?_eq_some_iff.mp h1).1
                    rw [List.length_append, List.length_singleton] at this
                    have e : j = as.length := by omega
                    subst e
                    rw [List.getElem?_append_right (Nat.le_refl _)] at h1
                    rw [List.getElem?_append_right (by omega)] at h2
                    simp [ll] at h1 h2
                    exact .inr ⟨h1.symm, h2.symm⟩
                refine ⟨S2.sub, by have e9 := S2.len; simp only [List.length_append, List.length_singleton]; omega, ?_, fun b hb => ?_, fun j b y h1 h2 h3 => ?_, fun j b y h1 h2 => ?_⟩
                · rw [List.nodup_append]
                  refine ⟨S2.nd, by simp, fun b hb c hc q => ha ?_⟩
                  have e0 : c = a := by simpa using hc
                  rw [← e0, ← q]; exact hb
                · rcases List.mem_append.mp hb with hb | hb
                  · exact S2.there b hb
                  · simp at hb; subst hb; exact S.there _ (List.mem_of_getElem? ea)
                · rcases ix j b y h1 h2 with ⟨q1, q2⟩ | ⟨rfl, rfl⟩
                  · exact S2.out j b y q1 q2 h3
                  · exact S.out k _ _ ea qo h3
                · rcases ix j b y h1 h2 with ⟨q1, q2⟩ | ⟨rfl, rfl⟩
                  · exact RO.mono (Same.refl _) ⟨[_], rfl⟩ (S2.obj j b y q1 q2)
                  · exact RO.mono (Same.refl _) ⟨[_], rfl⟩ ob
              · simp only [RW]
                exact ⟨a, by simp, rfl⟩
            · exact all h
          · exact all h
        · exact all h
    · exact all h
end

/-- a def's meaning: of its arguments -/
abbrev MF := List W → Mem → R W
def runF (N n : Nat) (b : MS) : MF := fun us μ => if us.length = n then (match b (us.map some ++ List.replicate (N - n) none) μ with
  | .nx _ μ' => fin μ.length (.t .non) μ'
  | .rt u μ' => fin μ.length u μ'
  | .exc x _ μ' => .exc x μ'
  | _ => .stuck) else .stuck
/-- a def's promise -/
def spF (D : Ad) (w : World) (n : Nat) (f : MF) : Sp := fun vs H Q E => ∃ F as μ us, Sim D w F H as μ ∧ RWs D w F as us vs ∧ us.length = n ∧ PoC D w F H as (f us μ) Q E

section
variable {X : Cx} {D : Ad} {w : World} {Wx : WX}
/-- the start of a def's frame -/
theorem er_start {F : Hp} {as : List Addr} {us : List W} {vs : List V} {N : List Str} {n : Nat} (r : RWs D w F as us vs) (hn : us.length = n) (hN : n ≤ N.length) : ER D w F as (us.map some ++ List.replicate (N.length - n) none) (L2.start N vs) := by
  unfold L2.start
  have hl := r.len
  refine ⟨by simp [← hl, hn], fun i u h => ?_⟩
  by_cases hi : i < us.length
  · rw [List.getElem?_append_left (by simpa using hi), List.getElem?_map] at h
    cases q : us[i]? with
    | none => rw [q] at h; cases h
    | some x =>
      rw [q] at h
      simp only [Option.map_some, Option.some.injEq] at h; subst h
      obtain ⟨v, e, rv⟩ := r.at_ q
      exact ⟨v, by rw [List.getElem?_append_left (by simp; omega), List.getElem?_map, e]; rfl, rv⟩
  · rw [List.getElem?_append_right (by simpa using hi), List.getElem?_replicate] at h
    split at h <;> cases h
theorem fn_ok {P : Program} {K : PySem.W.Frag} {mg : Str → Option Value} {base : Heap} {x qual : Str} {params : Arguments} {body : List Stmt} {scope : Scope} {dvs : List V} {kws : List (Str × V)} {f : Addr} {fd : FuncData} {N ps : List Str} {k n : Nat} {b : MS}
    (FD : FunD K x qual params body scope dvs kws f fd) (S : FnScope N ps scope) (hn : ps.length = n) (hN : n ≤ N.length)
    (hb : ∀ (cdv : Value) (A : Around) (outer : List Env) (s : Shared) (H : Hp) (E : XK), Room k (A.deeper (envOfC qual scope s.heap.objs.size f cdv)) →
      PSs (cxOf (L2.CX P w) P w K mg base N qual scope f cdv A outer s H E) body (RdS D w (fun cls d _ H => E cls d H) b)) :
    FnOk P w K mg base (L2.CX P w) (k + 1) f fd ps (spF D w n (runF N.length n b)) := by
  refine FD.ok S (fun vs H Q E ⟨F, as, μ, us, _, r, e, _⟩ => by rw [← r.len, e, hn]) fun cdv A outer s H vs Q E hr ⟨F, as, μ, us, Si, r, e, P⟩ => ⟨_, hb cdv A outer s H E hr, F, as, μ, _, Si, er_start r e hN, ?_⟩
  unfold runF at P
  rw [if_pos e] at P
  have el : μ.length = as.length := Si.len.symm
  cases q : b (us.map some ++ List.replicate (N.length - n) none) μ with
  | nx e1 μ1 =>
    simp only [q, el] at P
    exact fun F' H' as' σ' X S E => P.fin X S (by simp only [RW, RT])
  | rt u μ1 =>
    simp only [q, el] at P
    exact fun F' H' as' v X S r => P.fin X S r
  | exc x e1 μ1 =>
    simp only [q] at P
    exact fun F' H' as' σ' d X S E r => P F' H' as' d X S r
  | ct e1 μ1 => simp only [q] at P; exact P.elim
  | bk e1 μ1 => simp only [q] at P; exact P.elim
  | stuck => simp only [q] at P; exact P.elim

/-! ### calls -/
/-- on data alone: nothing that lives is seen -/
def pureF (f : MF) : MF := fun us μ => match toTs us with
  | some _ => (match f us [] with
    | .ok (.t r) _ => .ok (.t r) μ
    | .exc x _ => (match toTs x.ws with
      | some _ => .exc x μ
      | none => .stuck)
    | _ => .stuck)
  | none => .stuck
theorem Sim.none {F H : Hp} {as : List Addr} {μ : Mem} (S : Sim D w F H as μ) : Sim D w F H [] [] :=
  ⟨S.sub, rfl, List.nodup_nil, fun a h => (by cases h), fun n a o h => by simp at h, fun n a o h => by simp at h⟩
theorem Sim.back {F H F' H' : Hp} {as as' : List Addr} {μ μ' : Mem} (S : Sim D w F H as μ) (X : Ext F H [] F' H' as') (S' : Sim D w F' H' as' μ') : Sim D w F' H' as μ ∧ Ext F H as F' H' as := by
  have kp : ∀ a o, H a = some o → H' a = some o := fun a o h => X.keep a o h (by simp)
  refine ⟨⟨S'.sub, S.len, S.nd, fun a ha => ?_, fun n a o h1 h2 h3 => ?_, fun n a o h1 h2 => ?_⟩, ⟨X.fs, ⟨[], by simp, by simp⟩, fun a o h _ => kp a o h, fun a h => ?_⟩⟩
  · cases q : H a with
    | none => exact absurd q (S.there a ha)
    | some o => rw [kp a o q]; simp
  · cases q : F' a with
    | none => rfl
    | some z =>
      rcases X.newF a (by rw [q]; simp) with e | e | e
      · exact absurd (S.out n a o h1 h2 h3) e
      · exact absurd e (S.there a (List.mem_of_getElem? h1))
      · cases e
  · have r := RO.mono (as' := as) X.fs ⟨[], (List.append_nil as).symm⟩ (S.obj n a o h1 h2)
    cases q : H a with
    | none => exact absurd q (S.there a (List.mem_of_getElem? h1))
    | some z => rw [q] at r; rw [kp a z q]; exact r
  · rcases X.newF a h with e | e | e
    · exact .inl e
    · exact .inr (.inl e)
    · cases e
theorem toTs_rw {F : Hp} {as as' : List Addr} {us : List W} {ts : List T} {vs : List V} (h : toTs us = some ts) (r : RWs D w F as us vs) : RWs D w F as' us vs := by
  have e := toTs_eq h
  subst e
  exact r.toT.toW
theorem spF_pure {F H : Hp} {as : List Addr} {μ : Mem} {us : List W} {vs : List V} {f : MF} {n : Nat} {Q : VK} {E : XK} (S : Sim D w F H as μ) (r : RWs D w F as us vs) (hn : us.length = n) (h : PoC D w F H as (pureF f us μ) Q E) : spF D w n f vs H Q E := by
  unfold pureF at h
  split at h
  · rename_i ts q
    refine ⟨F, [], [], us, S.none, toTs_rw q r, hn, ?_⟩
    split at h
    · rename_i t μ' q2
      rw [q2]
      intro F' H' as' v X S' r'
      obtain ⟨S2, X2⟩ := S.back X S'
      exact h F' H' as v X2 S2 (by simpa only [RW] using r')
    · rename_i x μ' q2
      rw [q2]
      split at h
      · rename_i xs q3
        intro F' H' as' d X S' r'
        obtain ⟨S2, X2⟩ := S.back X S'
        refine h F' H' as d X2 S2 ?_
        obtain ⟨fs, h1, h2, h3⟩ := r'
        refine ⟨fs, ?_, h2, toTs_rw q3 h3⟩
        exact h1
      · exact h.elim
    · exact h.elim
  · exact h.elim
end
end HQ
/-! HQA: calls, targets, what is walked, list comprehensions. -/
namespace HQ
open PySem PySem.Spec PyProof.Rows L2

section
variable {X : Cx} {D : Ad} {w : World} {Wx : WX}
/-! ### calls of defs -/
def callF (f : MF) (n : Nat) (dts : List T) (pu : Bool) (us : List W) (μ : Mem) : R W :=
  if (us ++ dts.map W.t).length = n then (if pu = true then pureF f (us ++ dts.map W.t) μ else f (us ++ dts.map W.t) μ) else .stuck
theorem Po.toC {σ : Sg} {F H : Hp} {as : List Addr} {r : R W} {Q : VK} (h : Po D w Wx σ F H as (relW D w) r Q) : PoC D w F H as r Q (WE Wx σ) := by
  cases r with
  | ok u μ => exact h
  | exc x μ => exact h
  | stuck => exact h
theorem callF_ok {σ : Sg} {F H : Hp} {as : List Addr} {μ : Mem} {us : List W} {vs dvs : List V} {f : MF} {n : Nat} {dts : List T} {pu : Bool} {Q : VK} (S : Sim D w F H as μ) (r : RWs D w F as us vs) (hd : ∀ F, RTs D w F dts dvs)
    (P : Po D w Wx σ F H as (relW D w) (callF f n dts pu us μ) Q) : spF D w n f (vs ++ dvs) H Q (WE Wx σ) := by
  unfold callF at P
  by_cases hl : (us ++ dts.map W.t).length = n
  · rw [if_pos hl] at P
    have r2 : RWs D w F as (us ++ dts.map W.t) (vs ++ dvs) := r.app (hd F).toW
    cases pu with
    | true => rw [if_pos rfl] at P; exact spF_pure S r2 hl P.toC
    | false => exact ⟨F, as, μ, _, S, r2, hl, P.toC⟩
  · rw [if_neg hl] at P; exact P.elim
theorem xe_call {k n : Nat} {fA : Addr} {fd : FuncData} {ps : List Str} {f : MF} {dts : List T} {dvs : List V} {ds : List Value} {pu : Bool} {x : Str} {p pos : Pos} {e : Expr} {es : List Expr} {ms : MA} (FO : FnOk X.prog X.w X.K X.mg X.base (L2.CX X.prog X.w) k fA fd ps (spF D w n f)) (hr : Room k X.A) (hg : Gl X x) (hm : X.mg x = some (.ref fA))
    (hk : PySem.W.keepIn X.K (.ref fA) = true) (hb : Binds X.K fd ps ds) (hd : Vals dvs ds) (hdt : ∀ F, RTs D w F dts dvs) (tk : Takes X Wx) (ha : PA X (e :: es) (RdA D w Wx ms)) (hdb : (x == ("__debug__" : Str)) = false) (he : starEach (e :: es) X.env = (false, eval e X.env) :: starEach es X.env) (hpl : (backTo pos (starEach es X.env)).any (·.1) = false) :
    PE X (.Call (.Name x p) (e :: es) [] pos) (RdE D w Wx (mA (callF f n dts pu) ms)) :=
  PE.weak (pe_callSD FO hr hg hm hk hb hd (fun σ => passAt tk σ) ha hdb he hpl) fun σ H Q ⟨F, as, μ, e, S, E, P⟩ => ⟨F, as, μ, e, S, E, Po.bind P fun us μ1 F1 H1 as1 vs X1 S1 R1 P1 => callF_ok S1 R1 hdt P1⟩

/-! ### targets -/
/-- slots, from the left -/
def setAll : List Nat → List W → En → Option En
  | [], [], e => some e
  | i :: is, u :: us, e => setAll is us (e.set i (some u))
  | _, _, _ => none
def gT (is : List Nat) : MG := fun u e _ => match getT u with
  | some ws => setAll is ws e
  | none => none
/-- the library's reading of names -/
def gNames : List Nat → TGs
  | [] => gNil
  | i :: is => gCons (gName i) (gNames is)
theorem gNames_ok {F H : Hp} {as : List Addr} {Q : Sg → Hp → Prop} : ∀ {is : List Nat} {ws : List W} {vs : List V} {e e' : En} {σ : Sg}, ER D w F as e σ → RWs D w F as ws vs → setAll is ws e = some e' →
    (∀ σ', ER D w F as e' σ' → (∀ vs, (∀ i ∈ is, i ∈ vs) → wipe σ' vs = wipe σ vs) → Q σ' H) → gNames is vs σ H Q
  | [], [], vs, e, e', σ, E, r, h, k => by
    simp only [RWs] at r; subst r
    simp only [setAll, Option.some.injEq] at h; subst h
    exact ⟨rfl, k σ E fun _ _ => rfl⟩
  | i :: is, u :: ws, vs, e, e', σ, E, r, h, k => by
    simp only [RWs] at r
    obtain ⟨v, vs', rfl, r1, r2⟩ := r
    simp only [setAll] at h
    refine ⟨v, vs', rfl, ?_⟩
    refine gNames_ok (E.set i r1) r2 h fun σ' E' hw => k σ' E' fun ws hi => ?_
    rw [hw ws fun j hj => hi j (List.mem_cons_of_mem _ hj), wipe_set (hi i List.mem_cons_self)]
  | [], _ :: _, vs, e, e', σ, E, r, h, k => by simp [setAll] at h
  | _ :: _, [], vs, e, e', σ, E, r, h, k => by simp [setAll] at h
theorem setAll_len : ∀ {is : List Nat} {ws : List W} {e e' : En}, setAll is ws e = some e' → ws.length = is.length
  | [], [], _, _, _ => rfl
  | _ :: is, _ :: ws, _, _, h => by simp only [setAll] at h; simp [setAll_len h]
  | [], _ :: _, _, _, h => by simp [setAll] at h
  | _ :: _, [], _, _, h => by simp [setAll] at h
theorem xg_tup {es : List Expr} {kk : Nat} {is : List Nat} {pos : Pos} (hc : X.calm = true) (h : PGs X es (gNames is)) (hn : (assignEach es X.env).length = is.length) (hst : (assignEach es X.env).findIdx? (·.1) = none) : PG X (.Tuple es kk pos) (RdG D w is (gT is)) :=
  ⟨fun pins s σ H v u Q I r ⟨F, as, μ, e, u', S, E, R, e', he, k⟩ => (pg_tup hc h hn hst).run pins s σ H v u Q I r (by
    unfold gT at he
    split at he
    · rename_i ws q
      obtain ⟨a, vs, rfl, e1, r1⟩ := getT_ok S q R
      exact ⟨a, vs, rfl, SqT.of e1, by rw [← r1.len]; exact setAll_len he, gNames_ok E r1 he k⟩
    · cases he)⟩

/-! ### what is walked -/
theorem Walks.of {J : It} {n : Nat} {G : Hp → Prop} {Y : Nat → Hp → V → Hp → Prop} (wk : Walk J n G Y) {gd : Mem → Prop} {ys : List W} {F0 : Hp} {as0 : List Addr} (hn : ys.length = n)
    (hG : ∀ F H as μ, Sim D w F H as μ → Same F0 F → (∃ r, as = as0 ++ r) → gd μ → G H)
    (hY : ∀ i F H as μ, Sim D w F H as μ → Same F0 F → (∃ r, as = as0 ++ r) → gd μ → ∀ y, ys[i]? = some y → ∀ x H', Y i H x H' → ∃ F', Sim D w F' H' as μ ∧ Ext F H as F' H' as ∧ RW D w F' as y x) : Walks D w J gd ys F0 as0 := fun i F H as μ S hs ha hg =>
  ⟨fun y hy => by
    have hi : i < n := by rw [← hn]; exact (List.getElem?_eq_some_iff.mp hy).1
    exact ⟨wk.1 i H hi (hG F H as μ S hs ha hg), fun x H' q => hY i F H as μ S hs ha hg y hy x H' (wk.3 i H x H' hi (hG F H as μ S hs ha hg) q)⟩, fun hi => by rw [← hi, hn]; exact wk.2 H (hG F H as μ S hs ha hg)⟩
def always (_ : Mem) : Prop := True
def mkWK (gd : Mem → Prop) (ys : List W) (μ : Mem) : R WK := if ys.length ≤ bigL then .ok ⟨gd, ys⟩ μ else .stuck
/-- a list, a tuple, a text -/
def kVal (u : W) (μ : Mem) : R WK := match u with
  | .t (.str z) => mkWK always (z.cps.toList.map fun c => .t (.str ⟨#[c]⟩)) μ
  | u => match getL u μ with
    | some ws => mkWK (fun μ => getL u μ = some ws) ws μ
    | none => match getT u with
      | some ws => mkWK always ws μ
      | none => .stuck
def iVal (m : ME) : MI := fun e μ => (m e μ).bind kVal
theorem RdI.mk {σ : Sg} {H : Hp} {Rr : It → Hp → Prop} {F : Hp} {as : List Addr} {gd : Mem → Prop} {ys : List W} {μ : Mem} {J : It} (S : Sim D w F H as μ) (P : PoI D w Wx σ F H as (mkWK gd ys μ) Rr) (hw : Walks D w J gd ys F as) : Rr J H := by
  unfold mkWK at P
  by_cases q : ys.length ≤ bigL
  · rw [if_pos q] at P; exact P F H as J Ext.refl S hw
  · rw [if_neg q] at P; exact P.elim
theorem PI.weak {tg iter : Expr} {t t' : TI} (h : PI X tg iter t) (k : ∀ σ H R, t' σ H R → t σ H R) : PI X tg iter t' := ⟨fun pins s σ H R I q => h.run pins s σ H R I (k σ H R q)⟩
/-- one of several ways to walk, chosen by what the value is -/
theorem PI.ex {tg iter : Expr} {ι : Type} {t : ι → TI} (h : ∀ i, PI X tg iter (t i)) : PI X tg iter (fun σ H R => ∃ i, t i σ H R) := ⟨fun pins s σ H R I ⟨i, q⟩ => (h i).run pins s σ H R I q⟩
/-- what kind of thing is walked: 0 a list, 1 a tuple, 2 a text -/
def kdW (u : W) (μ : Mem) : Nat := match u with
  | .t (.str _) => 2
  | u => match getL u μ with
    | some _ => 0
    | none => 1
def ValW (K : PySem.W.Frag) (k : Nat) (v : V) (H : Hp) (Rr : It → Hp → Prop) : Prop := match k with
  | 0 => ∃ a, v = .ref a ∧ (∃ xs, SqL K H a xs) ∧ Rr (Itl K a) H
  | 1 => ∃ a, v = .ref a ∧ (∃ xs, SqT K H a xs) ∧ Rr (Itt K a) H
  | _ => ∃ x, v = .str x ∧ Rr (Its x) H
theorem walk_val {K : PySem.W.Frag} {σ : Sg} {H F : Hp} {as : List Addr} {μ : Mem} {Rr : It → Hp → Prop} {u : W} {v : V} (S : Sim D w F H as μ) (r : RW D w F as u v) (P : PoI D w Wx σ F H as (kVal u μ) Rr) : ValW K (kdW u μ) v H Rr := by
  have str : ∀ z : Str, u = .t (.str z) → ValW K (kdW u μ) v H Rr := fun z e => by
    subst e
    simp only [RW, RT] at r
    subst r
    refine ⟨z, rfl, RdI.mk S P (Walks.of walk_str (by simp) (fun _ _ _ _ _ _ _ _ => trivial) fun i F H as μ S _ _ _ y hy x H' q => ?_)⟩
    obtain ⟨rfl, c, hc, rfl⟩ := q
    refine ⟨F, S, Ext.refl, ?_⟩
    rw [List.getElem?_map, Array.getElem?_toList, hc] at hy
    simp only [Option.map_some, Option.some.injEq] at hy
    subst hy
    simp only [RW, RT]
  have oth : (∀ z : Str, u ≠ .t (.str z)) → ValW K (kdW u μ) v H Rr := fun hn => by
    have e1 : kVal u μ = (match getL u μ with
      | some ws => mkWK (fun μ => getL u μ = some ws) ws μ
      | none => match getT u with
        | some ws => mkWK always ws μ
        | none => .stuck) := by
      unfold kVal
      split
      · exact absurd rfl (hn _)
      · rfl
    have e2 : kdW u μ = (match getL u μ with
      | some _ => 0
      | none => 1) := by
      unfold kdW
      split
      · exact absurd rfl (hn _)
      · rfl
    rw [e1] at P
    rw [e2]
    cases q : getL u μ with
    | some ws =>
      simp only [q] at P
      obtain ⟨a, vs, rfl, e, rr⟩ := getL_ok S q r
      refine ⟨a, rfl, ⟨vs, .inl e⟩, RdI.mk S P ?_⟩
      intro i F' H' as' μ' S' hs ha hg
      obtain ⟨a', vs', z1, z2, e3⟩ := getL_ok S' hg (RW.mono hs ha _ _ r)
      cases z1
      refine ⟨fun y hy => ?_, fun hi => ⟨vs', .inl z2, by rw [← e3.len, hi]; exact Nat.le_refl _⟩⟩
      obtain ⟨v', h1, h2⟩ := e3.at_ hy
      refine ⟨⟨vs', v', .inl z2, h1⟩, fun x H'' ⟨q1, q2⟩ => ?_⟩
      subst q1
      have h3 := q2 vs' (.inl z2)
      rw [h1] at h3
      cases h3
      exact ⟨F', S', Ext.refl, h2⟩
    | none =>
      simp only [q] at P
      cases q5 : getT u with
      | none => simp only [q5] at P; exact P.elim
      | some ws =>
        simp only [q5] at P
        obtain ⟨a, vs, rfl, e, rr⟩ := getT_F q5 r
        refine ⟨a, rfl, ⟨vs, SqT.of (S.sub _ _ e)⟩, RdI.mk S P (Walks.of walk_tup rr.len (fun F' H' as' μ' S' hs _ _ => SqT.of (S'.sub _ _ (hs _ _ e))) fun i F' H' as' μ' S' hs ha _ y hy x H'' ⟨q1, q2⟩ => ?_)⟩
        subst q1
        obtain ⟨v', h1, h2⟩ := (RWs.mono hs ha _ _ rr).at_ hy
        rw [q2] at h1
        cases h1
        exact ⟨F', S', Ext.refl, h2⟩
  by_cases h : ∃ z, u = .t (.str z)
  · exact str h.choose h.choose_spec
  · exact oth fun z e => h ⟨z, e⟩
theorem xi_val {tg e : Expr} {m : ME} (he : PE X e (RdE D w Wx m)) : PI X tg e (RdI D w Wx (iVal m)) := by
  refine PI.weak (PI.ex (ι := Fin 3) (t := fun k => match k with
    | 0 => iList X.K (RdE D w Wx m)
    | 1 => iTup X.K (RdE D w Wx m)
    | 2 => iStr (RdE D w Wx m)) fun k => match k with
    | 0 => pi_list he
    | 1 => pi_tup he
    | 2 => pi_str he) fun σ H R ⟨F, as, μ, e, S, E, P⟩ => ?_
  unfold iVal at P
  have go : ∀ k : Nat, (∀ u μ1, m e μ = .ok u μ1 → kdW u μ1 = k) → RdE D w Wx m σ H fun v H1 => ValW X.K k v H1 R := fun k hk =>
    ⟨F, as, μ, e, S, E, by
      cases q : m e μ with
      | ok u μ1 =>
        rw [q] at P
        intro F1 H1 as1 v X1 S1 R1
        have h := walk_val (K := X.K) S1 R1 (PoI.from (r := kVal u μ1) P X1 S1.there)
        rw [hk u μ1 q] at h
        exact h
      | exc x μ1 => rw [q] at P; exact P
      | stuck => rw [q] at P; exact P⟩
  cases q : m e μ with
  | ok u μ1 =>
    have h3 : kdW u μ1 = 0 ∨ kdW u μ1 = 1 ∨ kdW u μ1 = 2 := by
      unfold kdW
      split
      · simp
      · split <;> simp
    rcases h3 with h | h | h
    · exact ⟨0, go 0 fun u' μ' e => by rw [q] at e; cases e; exact h⟩
    · exact ⟨1, go 1 fun u' μ' e => by rw [q] at e; cases e; exact h⟩
    · exact ⟨2, go 2 fun u' μ' e => by rw [q] at e; cases e; exact h⟩
  | exc x μ1 => exact ⟨0, go 0 fun u' μ' e => by rw [q] at e; cases e⟩
  | stuck => exact ⟨0, go 0 fun u' μ' e => by rw [q] at e; cases e⟩
/-! ### range -/
def rgW (lo hi : Int) (μ : Mem) : R WK := if -(2 ^ 62) ≤ lo ∧ lo < 2 ^ 62 ∧ -(2 ^ 62) ≤ hi ∧ hi < 2 ^ 62 then mkWK always ((List.range (hi - lo).toNat).map fun i => .t (.int (lo + (i : Nat)))) μ else .stuck
def iR1 (ms : MA) : MI := fun e μ => (ms e μ).bind fun us μ1 => match us with
  | [.t (.int j)] => rgW 0 j μ1
  | _ => .stuck
def iR2 (ms : MA) : MI := fun e μ => (ms e μ).bind fun us μ1 => match us with
  | [.t (.int i), .t (.int j)] => rgW i j μ1
  | _ => .stuck
theorem walks_rng {lo : Int} {n : Nat} {F : Hp} {as : List Addr} : Walks D w (Itr lo n) always ((List.range n).map fun i => .t (.int (lo + (i : Nat)))) F as :=
  Walks.of walk_range (by simp) (fun _ _ _ _ _ _ _ _ => trivial) fun i F H as μ S _ _ _ y hy x H' ⟨q1, q2⟩ => by
    subst q1
    rw [List.getElem?_map] at hy
    cases q : (List.range n)[i]? with
    | none => rw [q] at hy; cases hy
    | some j =>
      rw [q] at hy
      have hj := List.getElem?_eq_some_iff.mp q
      have e : j = i := by simpa using hj.2.symm
      simp only [Option.map_some, Option.some.injEq] at hy
      subst hy
      exact ⟨F, S, Ext.refl, by simp only [RW, RT]; rw [q2, e]⟩
theorem xi_r1 {tg a : Expr} {ms : MA} {p pos : Pos} (hg : Gl X "range") (hm : X.mg "range" = none) (ha : PA X [a] (RdA D w Wx ms)) (hs : starEach [a] X.env = [(false, eval a X.env)]) : PI X tg (.Call (.Name "range" p) [a] [] pos) (RdI D w Wx (iR1 ms)) :=
  PI.weak (pi_range1 hg hm ha hs) fun σ H R ⟨F, as, μ, e, S, E, P⟩ => ⟨F, as, μ, e, S, E, PoI.bind P fun us μ1 F1 H1 as1 vs X1 S1 R1 P1 => by
    split at P1
    · rename_i j
      obtain ⟨v, rfl, r⟩ := rw1 R1
      simp only [RW, RT] at r
      subst r
      unfold rgW at P1
      split at P1
      · rename_i h
        rw [Int.sub_zero] at P1
        exact ⟨j, rfl, h.2.2.1, h.2.2.2, RdI.mk S1 P1 walks_rng⟩
      · exact P1.elim
    · exact P1.elim⟩
theorem xi_r2 {tg a b : Expr} {ms : MA} {p pos : Pos} (hg : Gl X "range") (hm : X.mg "range" = none) (ha : PA X [a, b] (RdA D w Wx ms)) (hs : starEach [a, b] X.env = [(false, eval a X.env), (false, eval b X.env)]) (hpl : starEach [b] X.env = [(false, eval b X.env)]) : PI X tg (.Call (.Name "range" p) [a, b] [] pos) (RdI D w Wx (iR2 ms)) :=
  PI.weak (pi_range2 hg hm ha hs hpl) fun σ H R ⟨F, as, μ, e, S, E, P⟩ => ⟨F, as, μ, e, S, E, PoI.bind P fun us μ1 F1 H1 as1 vs X1 S1 R1 P1 => by
    split at P1
    · rename_i i j
      obtain ⟨v, v', rfl, r, r'⟩ := rw2 R1
      simp only [RW, RT] at r r'
      subst r r'
      unfold rgW at P1
      split at P1
      · rename_i h
        exact ⟨i, j, rfl, h, RdI.mk S1 P1 walks_rng⟩
      · exact P1.elim
    · exact P1.elim⟩
end
end HQ
/-! HQB: products, chains, stores, comprehensions, enumerate. -/
namespace HQ
open PySem PySem.Spec PyProof.Rows L2

section
variable {X : Cx} {D : Ad} {w : World} {Wx : WX} {K : PySem.W.Frag}
/-! ### products -/
def fMul (live : Bool) (a b : W) (μ : Mem) : R W := match a, b with
  | .t (.int i), .t (.int j) => if cMul i j = true then .ok (.t (.int (i * j))) μ else .stuck
  | a, .t (.int k) => match getLT a μ with
    | some ws => if -(2 ^ 62) ≤ k ∧ k < 2 ^ 62 ∧ ws.length * k.toNat ≤ bigL then mkL live (List.replicate k.toNat ws).flatten μ else .stuck
    | none => .stuck
  | _, _ => .stuck
def rMulA : R2 := fun x y H Q => rI CMulW (fun i j => .int (i * j)) x y H Q ∨ rRep x y H Q
theorem op_mulA : OpR X (binaryOp .Mult) rMulA := OpR.or op_mulW op_rep
theorem rws_flat {F : Hp} {as : List Addr} {ws : List W} {vs : List V} (r : RWs D w F as ws vs) : ∀ n : Nat, RWs D w F as (List.replicate n ws).flatten (List.replicate n vs).flatten
  | 0 => by simp [RWs]
  | n + 1 => by
    simp only [List.replicate_succ, List.flatten_cons]
    exact r.app (rws_flat r n)
theorem mul_ok {live : Bool} : Op2 D w Wx rMulA (fMul live) := by
  intro σ F H as μ u1 u2 v1 v2 Q S r1 r2 P
  unfold fMul at P
  split at P
  · rename_i i j
    split at P
    · rename_i h
      simp only [RW, RT] at r1 r2
      exact .inl ⟨i, j, r1, r2, by simpa [cMul, CMulW] using h, Po.now P S (by simp only [relW, RW, RT])⟩
    · exact P.elim
  · rename_i k _
    simp only [RW, RT] at r2
    split at P
    · rename_i ws q
      obtain ⟨p, vs, rfl, e, r⟩ := getLT_ok S q r1
      split at P
      · rename_i h
        exact .inr ⟨p, k, vs, rfl, r2, e, by omega, by omega, by rw [← r.len]; exact Nat.le_trans h.2.2 bigL_le, fun z hz => Po.lst P S (rws_flat r _) hz⟩
      · exact P.elim
    · exact P.elim
  · exact P.elim
def fNeg (a : W) (μ : Mem) : R W := match a with
  | .t (.int i) => .ok (.t (.int (-i))) μ
  | _ => .stuck
theorem neg_ok : Op1 D w Wx (rU fun i => .int (-i)) fNeg := by
  intro σ F H as μ u v Q S r P
  unfold fNeg at P
  split at P
  · simp only [RW, RT] at r
    exact ⟨_, r, Po.now P S (by simp only [relW, RW, RT])⟩
  · exact P.elim
/-! ### a op b op c -/
def mChain (f g : W → W → Mem → R W) (ma mb mc : ME) : ME := fun e μ => (ma e μ).bind fun a μ1 => (mb e μ1).bind fun b μ2 => (f a b μ2).bind fun z μ3 => match z with
  | .t (.bl c) => if c = true then (mc e μ3).bind fun d μ4 => g b d μ4 else .ok (.t (.bl false)) μ3
  | _ => .stuck
theorem rdChain {r r' : R2} {f g : W → W → Mem → R W} {ma mb mc : ME} (h1 : Op2 D w Wx r f) (h2 : Op2 D w Wx r' g) (σ : Sg) (H : Hp) (Q : VK) (h : RdE D w Wx (mChain f g ma mb mc) σ H Q) : tChain r r' (RdE D w Wx ma) (RdE D w Wx mb) (RdE D w Wx mc) σ H Q := by
  obtain ⟨F, as, μ, e, S, E, P⟩ := h
  refine ⟨F, as, μ, e, S, E, Po.bind (rel' := relW D w) P fun a μ1 F1 H1 as1 va X1 S1 R1 P1 => ?_⟩
  refine ⟨F1, as1, μ1, e, S1, E.mono X1.fs X1.pre, Po.bind (rel' := relW D w) P1 fun b μ2 F2 H2 as2 vb X2 S2 R2 P2 => ?_⟩
  have E2 := (E.mono X1.fs X1.pre).mono X2.fs X2.pre
  refine h1 σ F2 H2 as2 μ2 a b va vb _ S2 (RW.mono X2.fs X2.pre a va R1) R2 (Po.bind (rel' := relW D w) P2 fun z μ3 F3 H3 as3 vz X3 S3 R3 P3 => ?_)
  cases z with
  | t t =>
    cases t <;> first | exact P3.elim | skip
    rename_i c
    simp only [relW, RW, RT] at R3
    refine ⟨c, R3, ?_⟩
    cases c with
    | false => exact Po.now P3 S3 (by simp only [relW, RW, RT])
    | true =>
      refine ⟨F3, as3, μ3, e, S3, E2.mono X3.fs X3.pre, Po.bind (rel' := relW D w) P3 fun d μ4 F4 H4 as4 vd X4 S4 R4 P4 => ?_⟩
      exact h2 σ F4 H4 as4 μ4 b d vb vd Q S4 (RW.mono X4.fs X4.pre _ _ (RW.mono X3.fs X3.pre _ _ R2)) R4 P4
  | ref n => exact P3.elim
  | tup ws => exact P3.elim
theorem xe_chain {op op' : CmpOp} {r r' : R2} {f g : W → W → Mem → R W} {a b c : Expr} {ma mb mc : ME} {pos : Pos} (hr : OpR X (compareOp op) r) (ho : Op2 D w Wx r f) (hr' : OpR X (compareOp op') r') (ho' : Op2 D w Wx r' g)
    (ha : PE X a (RdE D w Wx ma)) (hb : PE X b (RdE D w Wx mb)) (hc : PE X c (RdE D w Wx mc)) (hm : lastMarks [op, op'] [b, c] = false) : PE X (.Compare a [op, op'] [b, c] pos) (RdE D w Wx (mChain f g ma mb mc)) :=
  PE.weak (pe_chain hr hr' ha hb hc hm) (rdChain ho ho')
theorem xt_chain {op op' : CmpOp} {r r' : R2} {f g : W → W → Mem → R W} {a b c : Expr} {ma mb mc : ME} {pos : Pos} (hr : OpR X (compareOp op) r) (ho : Op2 D w Wx r f) (hr' : OpR X (compareOp op') r') (ho' : Op2 D w Wx r' g)
    (ha : PE X a (RdE D w Wx ma)) (hb : PE X b (RdE D w Wx mb)) (hc : PE X c (RdE D w Wx mc)) (hm : lastMarks [op, op'] [b, c] = false) : PT X (.Compare a [op, op'] [b, c] pos) (RdB D w Wx (bOf (mChain f g ma mb mc))) :=
  PT.weak (pt_chain hr hr' ha hb hc hm) fun σ H Q q => rdChain ho ho' σ H _ (rdB σ H Q q)
/-! ### small statements -/
def sCont : MS := fun e μ => .ct e μ
def sBrk : MS := fun e μ => .bk e μ
theorem xs_pass {pos : Pos} : PS X (.Pass pos) (RdS D w Wx sNil) := PS.weak ps_pass fun N σ H ⟨F, as, μ, e, S, E, P⟩ => P F H as σ Ext.refl S E
theorem xs_doc {x j pos pos'} : PS X (.Expr (.Constant (.str x) j pos) pos') (RdS D w Wx sNil) := PS.weak ps_doc fun N σ H ⟨F, as, μ, e, S, E, P⟩ => P F H as σ Ext.refl S E
theorem xs_cont {pos : Pos} : PS X (.Continue pos) (RdS D w Wx sCont) := PS.weak ps_continue fun N σ H ⟨F, as, μ, e, S, E, P⟩ => P F H as σ Ext.refl S E
theorem xs_brk {pos : Pos} : PS X (.Break pos) (RdS D w Wx sBrk) := PS.weak ps_break fun N σ H ⟨F, as, μ, e, S, E, P⟩ => P F H as σ Ext.refl S E
/-! ### o[i] = v -/
def setL (o i v : W) (μ : Mem) : Option Mem := match o, i with
  | .ref n, .t (.int k) => match μ[n]? with
    | some (.lst ws) => match ixN ws.length k with
      | some j => some (μ.set n (.lst (ws.set j v)))
      | none => none
    | _ => none
  | _, _ => none
def sSetL (mv mo mi : ME) : MS := fun e μ => (mv e μ).st e fun v μ1 => (mo e μ1).st e fun o μ2 => (mi e μ2).st e fun i μ3 => match setL o i v μ3 with
  | some μ4 => .nx e μ4
  | none => .stuck
theorem setL_ok {F H : Hp} {as : List Addr} {μ μ' : Mem} {o i v : W} {x y z : V} {Q : Hp → Prop} (S : Sim D w F H as μ) (h : setL o i v μ = some μ') (r1 : RW D w F as o x) (r2 : RW D w F as i y) (r3 : RW D w F as v z)
    (q : ∀ H', Ext F H as F H' as → Sim D w F H' as μ' → Q H') : rSetL x y z H Q := by
  unfold setL at h
  split at h
  · rename_i n k
    split at h
    · rename_i ws qn
      split at h
      · rename_i j qj
        cases h
        simp only [RW, RT] at r1 r2
        obtain ⟨a, ea, rfl⟩ := r1
        obtain ⟨vs, e1, rr⟩ := S.obj n a _ ea qn
        obtain ⟨S', X'⟩ := S.wrt (y := .lst (ws.set j v)) (o := .lst (vs.set j z)) ea qn (by simp) ⟨_, rfl, rr.set j r3⟩
        exact ⟨a, vs, k, j, rfl, r2, e1, by rw [← rr.len]; exact qj, q _ X' S'⟩
      · cases h
    · cases h
  · cases h
theorem xs_setL {o i e : Expr} {mv mo mi : ME} {p2 pos : Pos} (hv : PE X e (RdE D w Wx mv)) (ho : PE X o (RdE D w Wx mo)) (hi : PE X i (RdE D w Wx mi)) (hs : swapsWithSole [.Subscript o i p2] e pos.line X.env = pure false) (hw : swappedStores [.Subscript o i p2] e X.env = pure none)
    (h1 : (assignEach [.Subscript o i p2] X.env).map (·.2) = [assign (.Subscript o i p2) X.env])
    (ha : ∀ v, assign (.Subscript o i p2) X.env v = (do
      let ov ← holding [v] (eval o X.env)
      let iv ← holding [v, ov] (eval i X.env)
      standAt p2
      holding [v, ov, iv] (setItem ov iv v)
      release [v, ov, iv] [])) : PS X (.Assign [.Subscript o i p2] e pos) (RdS D w Wx (sSetL mv mo mi)) :=
  PS.weak (ps_asg hv (pg_sub ho hi set_list ha) hs hw h1) fun N σ H ⟨F, as, μ, e, S, E, P⟩ => ⟨F, as, μ, e, S, E, PoS.ex P E fun u μ1 F1 H1 as1 v X1 S1 E1 R1 P1 =>
    ⟨F1, as1, μ1, e, S1, E1, PoS.ex P1 E1 fun o μ2 F2 H2 as2 vo X2 S2 E2 R2 P2 => ⟨F2, as2, μ2, e, S2, E2, PoS.ex P2 E2 fun i μ3 F3 H3 as3 vi X3 S3 E3 R3 P3 => by
      cases q : setL o i u μ3 with
      | none => simp only [q] at P3; exact P3.elim
      | some μ4 =>
        simp only [q] at P3
        exact setL_ok S3 q (RW.mono X3.fs X3.pre _ _ R2) R3 (RW.mono X3.fs X3.pre _ _ (RW.mono X2.fs X2.pre _ _ R1)) fun H' X' S' => P3 F3 H' as3 σ X' S' E3⟩⟩⟩
end
end HQ
/-! HQC: enumerate, list comprehensions. -/
namespace HQ
open PySem PySem.Spec PyProof.Rows L2

/-! ### enumerate -/
/-- the signs of a text, each in a new pair -/
def Itx (x : Str) : It := ⟨fun i _ => i < x.cps.size, fun i H v H' => ∃ T c, v = .ref T ∧ H T = none ∧ H' = upd H T (.tup [.int (i : Nat), .str ⟨#[c]⟩]) ∧ x.cps[i]? = some c, fun i _ => x.cps.size ≤ i⟩
theorem turn_enumS {P : Program} {w : World} {K : PySem.W.Frag} {elts : List Expr} {kk : Nat} {tpos : Pos} (x : Str) (t : Tok) (e it : Addr) (ty : String) (hty : ty = "str_ascii_iterator" ∨ ty = "str_iterator") :
    Turn P w K (.Tuple elts kk tpos) (Itx x) [e, it] e (fun i h => (∃ old, IsEnum h e it ((i : Nat) : Int) old) ∧ h.IsStrIter it ty x t i ∧ e ≠ it) where
  mem := by simp
  obj := fun i h st b hb => by
    obtain ⟨⟨old, he⟩, ⟨o, ho, hc, hd⟩, _⟩ := st
    have e' : b = e ∨ b = it := by simpa using hb
    rcases e' with z | z
    · rw [z]; exact ⟨_, he, fun v q => nomatch q⟩
    · rw [z]; exact ⟨o, ho, fun v q => by rw [hd] at q; cases q⟩
  keep := fun i h h' st k => by
    obtain ⟨⟨old, he⟩, ⟨o, ho, r⟩, hne⟩ := st
    exact ⟨⟨old, k e (by simp) _ he⟩, ⟨o, k it (by simp) o ho, r⟩, hne⟩
  item := by
    intro X hP hw hK hc i pins s σ H E I hf st hg
    subst hP hw hK
    obtain ⟨⟨old, he⟩, hit, hne⟩ := st
    have hel : e < s.heap.objs.size := Heap.lt_size he
    have hil : it < s.heap.objs.size := by obtain ⟨_, q, _⟩ := hit; exact Heap.lt_size q
    have hh : X.A.in1.handled = none := I.ok.hd hc
    have D : Draws X.prog X.w X.A.in1 it [it] x.cps.size (fun i v => ∃ c u, x.cps[i]? = some c ∧ v = Value.str ⟨#[c]⟩ u) (fun i h => h.IsStrIter it ty x t i) := by
      rcases hty with q | q
      · rw [q]; exact Draws.strAscii hh it x t
      · rw [q]; exact Draws.strWide hh it x t
    refine wpAny_pyNext_enum_itemD D he hit hg hne (by simpa using hne) fun u h' tk hP ho hit' hT hsz hk => ?_
    obtain ⟨c, u', hcx, rfl⟩ := hP
    refine ⟨_, rfl, wpAny_letOwnedTupleGo_enum (s := { s with heap := h', toks := tk + 1 }) ho fun h'' he' sb => ?_⟩
    have hT2 : h''.get? s.heap.objs.size = some { cls := .type "tuple", data := .seq #[.int i tk, .str ⟨#[c]⟩ u'] } := (sb.2 _ (Nat.ne_of_gt hel)).trans hT
    have new : ObjOk X.prog X.w (upd H s.heap.objs.size (.tup [.int (i : Nat), .str ⟨#[c]⟩])) h'' s.heap.objs.size (.tup [.int (i : Nat), .str ⟨#[c]⟩]) :=
      ⟨by show 2 ≤ sizeLine; decide, [.int i tk, .str ⟨#[c]⟩ u'], .cons ⟨_, rfl⟩ (.cons ⟨_, rfl⟩ .nil), ⟨_, hT2, rfl, _, rfl⟩⟩
    have I1 : Inv X pins σ (upd H s.heap.objs.size (.tup [.int (i : Nat), .str ⟨#[c]⟩])) { s with heap := h'', toks := tk + 1 } :=
      I.turnedNew (ch := [e, it]) (fun b ob hb q => (sb.2 b (fun z => hb (by simp [z]))).trans (hk b ob (fun z => hb (by simp [z])) (fun z => hb (by simp [z])) q)) hf (Nat.le_refl _) new
    refine ⟨.ref s.heap.objs.size, _, I1, rfl, ⟨_, c, rfl, I.hok.fresh (Nat.le_refl _), rfl, hcx⟩, ⟨⟨.str ⟨#[c]⟩ u', ?_⟩, ?_, hne⟩, fun b hb => ?_⟩
    · have e1 : ((i + 1 : Nat) : Int) = (i : Int) + 1 := by omega
      rw [e1]; exact he'
    · obtain ⟨o, q, r⟩ := hit'
      exact ⟨o, (sb.2 it (Ne.symm hne)).trans q, r⟩
    · have hb' : b < s.heap.objs.size := by
        have e' : b = e ∨ b = it := by simpa using hb
        rcases e' with z | z
        · rw [z]; exact hel
        · rw [z]; exact hil
      rw [upd_ne (Nat.ne_of_lt hb')]
      exact (hf b hb).1
  done := by
    intro X hP hw hK hc i pins s σ H E I hf st hg
    subst hP hw hK
    obtain ⟨⟨old, he⟩, hit, hne⟩ := st
    have hh : X.A.in1.handled = none := I.ok.hd hc
    obtain ⟨f0, f1, f2, f3, f4, f5⟩ := hf it (by simp)
    have hx : x.cps[i]? = none := Array.getElem?_eq_none hg
    have D : Draws X.prog X.w X.A.in1 it [it] i (fun i v => ∃ c u, x.cps[i]? = some c ∧ v = Value.str ⟨#[c]⟩ u ∧ False) (fun j h => j = i ∧ h.IsStrIter it ty x t i) :=
      ⟨fun _ h ⟨_, o, q, _⟩ => ⟨o, q⟩, fun j h h' ⟨z, o, q, r⟩ k => ⟨z, o, k it (by simp) o q, r⟩, fun j s Q E hj ⟨z, _⟩ => absurd hj (by omega), fun s Q E ⟨_, st⟩ q => by
        rcases hty with z | z
        · rw [z] at st; exact wpAny_nextOf_ascii_end hh st hx q
        · rw [z] at st; exact wpAny_nextOf_wide_end hh st hx q⟩
    exact wpAny_pyNext_enum_endD D he ⟨rfl, hit⟩ fun h' eb => ⟨rfl, I.turned (t' := s.toks) (fun b o hb q => eb b o hb q) f0 f1 f3 f4 f5⟩
  self := fun A i s Q E st h => let ⟨⟨_, he⟩, _⟩ := st; wpAny_pyIter_enum he h
def iEnumS (ta : TA) : TI := fun σ H R => ta σ H fun vs H1 => ∃ x, vs = [.str x] ∧ R (Itx x) H1
theorem pi_enumS {X : Cx} {e : Expr} {ta : TA} {p pos tpos : Pos} {elts : List Expr} {kk : Nat} (hg : Gl X "enumerate") (hm : X.mg "enumerate" = none) (ha : PA X [e] ta) (hs : starEach [e] X.env = [(false, eval e X.env)]) :
    PI X (.Tuple elts kk tpos) (.Call (.Name "enumerate" p) [e] [] pos) (iEnumS ta) := by
  refine ⟨fun pins s σ H R I h => ?_⟩
  refine Call_ (ld_blt I hg hm boot_enumerate (PyProof.Rows.callWith_type1 (thn (ha.run pos pins s σ H _ I h) fun us s1 ⟨vs, H1, I1, r1, q1⟩ => ?_) hs rfl))
  obtain ⟨x, ex, q⟩ := q1
  subst ex
  cases r1 with
  | cons r rr =>
    cases rr
    obtain ⟨t, rfl⟩ := r
    refine call_enumerate_str fun h' he hit hsz hk => wpAny_pyIter_enum he ?_
    have I2 : Inv X pins σ H1 { s1 with heap := h' } := I1.kept (t' := s1.toks) hk
    have hty : strIterType x = "str_ascii_iterator" ∨ strIterType x = "str_iterator" := by
      unfold strIterType
      split
      · exact .inl rfl
      · exact .inr rfl
    refine ⟨s1.heap.objs.size + 1, [s1.heap.objs.size + 1, s1.heap.objs.size], _, _, H1, rfl, I2, turn_enumS x t (s1.heap.objs.size + 1) s1.heap.objs.size _ hty, ⟨⟨.none, he⟩, hit, Nat.succ_ne_self _⟩, fun b hb => ?_, q⟩
    have e' : b = s1.heap.objs.size + 1 ∨ b = s1.heap.objs.size := by simpa using hb
    have hle : s1.heap.objs.size ≤ b := by
      rcases e' with z | z
      · rw [z]; exact Nat.le_add_right _ _
      · rw [z]; exact Nat.le_refl _
    exact I1.fpOk hle (I1.hok.fresh hle)
section
variable {X : Cx} {D : Ad} {w : World} {Wx : WX} {K : PySem.W.Frag}
def pairs (ws : List W) : List W := ws.mapIdx fun i u => mkTup [.t (.int (i : Nat)), u]
/-- enumerate of a list, of a text -/
def kEnu (us : List W) (μ : Mem) : R WK := match us with
  | [.t (.str z)] => mkWK always (pairs (z.cps.toList.map fun c => .t (.str ⟨#[c]⟩))) μ
  | [u] => match getL u μ with
    | some ws => mkWK (fun μ => getL u μ = some ws) (pairs ws) μ
    | none => .stuck
  | _ => .stuck
def iEnu (ms : MA) : MI := fun e μ => (ms e μ).bind kEnu
theorem newTup {F H : Hp} {as : List Addr} {μ : Mem} {T : Addr} {ws : List W} {vs : List V} (S : Sim D w F H as μ) (h : H T = none) (r : RWs D w F as ws vs) : ∃ F', Sim D w F' (upd H T (.tup vs)) as μ ∧ Ext F H as F' (upd H T (.tup vs)) as ∧ RW D w F' as (mkTup ws) (.ref T) := by
  obtain ⟨S1, X1⟩ := S.newF (.tup vs) h
  exact ⟨_, S1, X1, rw_mkTup upd_same (RWs.mono X1.fs X1.pre _ _ r)⟩
theorem pairs_at {ws : List W} {i : Nat} {y : W} (h : (pairs ws)[i]? = some y) : ∃ u, ws[i]? = some u ∧ y = mkTup [.t (.int (i : Nat)), u] := by
  unfold pairs at h
  rw [List.getElem?_mapIdx] at h
  cases q : ws[i]? with
  | none => rw [q] at h; cases h
  | some u => rw [q] at h; simp only [Option.map_some, Option.some.injEq] at h; exact ⟨u, rfl, h.symm⟩
theorem pairs_len (ws : List W) : (pairs ws).length = ws.length := by simp [pairs]
theorem walks_enumS {x : Str} {F : Hp} {as : List Addr} : Walks D w (Itx x) always (pairs (x.cps.toList.map fun c => .t (.str ⟨#[c]⟩))) F as := by
  intro i F' H as' μ S _ _ _
  refine ⟨fun y hy => ?_, fun hi => by rw [pairs_len] at hi; show x.cps.size ≤ i; simp at hi; omega⟩
  obtain ⟨u, h1, rfl⟩ := pairs_at hy
  rw [List.getElem?_map] at h1
  have hlt : i < x.cps.size := by
    cases q : x.cps.toList[i]? with
    | none => rw [q] at h1; cases h1
    | some c => simpa using (List.getElem?_eq_some_iff.mp q).1
  refine ⟨hlt, fun v H' ⟨T, c, ev, hT, eH, hc⟩ => ?_⟩
  subst ev eH
  rw [Array.getElem?_toList, hc] at h1
  simp only [Option.map_some, Option.some.injEq] at h1
  subst h1
  exact newTup S hT (by simp only [RWs, RW, RT]; exact ⟨_, _, rfl, rfl, _, _, rfl, rfl, rfl⟩)
theorem walks_enumL {u : W} {ws : List W} {a : Addr} {F : Hp} {as : List Addr} (r : RW D w F as u (.ref a)) : Walks D w (Ite K a) (fun μ => getL u μ = some ws) (pairs ws) F as := by
  intro i F' H as' μ S hs ha hg
  obtain ⟨a', vs, z1, z2, rr⟩ := getL_ok S hg (RW.mono hs ha _ _ r)
  cases z1
  refine ⟨fun y hy => ?_, fun hi => ⟨vs, .inl z2, by rw [← rr.len, ← pairs_len]; omega⟩⟩
  obtain ⟨x, h1, rfl⟩ := pairs_at hy
  obtain ⟨v, h2, h3⟩ := rr.at_ h1
  refine ⟨⟨vs, v, .inl z2, h2⟩, fun v' H' ⟨T, x', ev, hT, eH, hc⟩ => ?_⟩
  subst ev eH
  have h4 := hc vs (.inl z2)
  rw [h2] at h4
  cases h4
  exact newTup S hT (by simp only [RWs, RW, RT]; exact ⟨_, _, rfl, rfl, _, _, rfl, h3, rfl⟩)
def isStr1 (us : List W) : Bool := match us with
  | [.t (.str _)] => true
  | _ => false
theorem xi_enu {e : Expr} {ms : MA} {p pos tpos : Pos} {elts : List Expr} {kk : Nat} (hg : Gl X "enumerate") (hm : X.mg "enumerate" = none) (ha : PA X [e] (RdA D w Wx ms)) (hs : starEach [e] X.env = [(false, eval e X.env)]) :
    PI X (.Tuple elts kk tpos) (.Call (.Name "enumerate" p) [e] [] pos) (RdI D w Wx (iEnu ms)) := by
  refine PI.weak (PI.ex (ι := Bool) (t := fun k => match k with
    | true => iEnumS (RdA D w Wx ms)
    | false => iEnum X.K (RdA D w Wx ms)) fun k => match k with
    | true => pi_enumS hg hm ha hs
    | false => pi_enum hg hm ha hs) fun σ H R ⟨F, as, μ, e, S, E, P⟩ => ?_
  unfold iEnu at P
  cases q : ms e μ with
  | stuck => rw [q] at P; exact P.elim
  | exc x μ1 => rw [q] at P; exact ⟨true, F, as, μ, e, S, E, by rw [q]; exact P⟩
  | ok us μ1 =>
    rw [q] at P
    replace P : PoI D w Wx σ F H as (kEnu us μ1) R := P
    unfold kEnu at P
    split at P
    · rename_i z
      refine ⟨true, F, as, μ, e, S, E, by
        rw [q]
        intro F1 H1 as1 vs X1 S1 R1
        obtain ⟨v, rfl, r⟩ := rw1 R1
        simp only [RW, RT] at r
        subst r
        exact ⟨z, rfl, RdI.mk S1 (PoI.from P X1 S1.there) walks_enumS⟩⟩
    · rename_i u _
      split at P
      · rename_i ws qw
        refine ⟨false, F, as, μ, e, S, E, by
          rw [q]
          intro F1 H1 as1 vs X1 S1 R1
          obtain ⟨v, rfl, r⟩ := rw1 R1
          obtain ⟨a, vs, rfl, e1, rr⟩ := getL_ok S1 qw r
          exact ⟨a, vs, rfl, .inl e1, RdI.mk S1 (PoI.from P X1 S1.there) (walks_enumL r)⟩⟩
      · exact P.elim
    · exact P.elim

/-! ### list comprehensions -/
abbrev WxF : WX := fun _ _ _ _ => False
def wipeE (e : En) : List Nat → En
  | [] => e
  | v :: vs => (wipeE e vs).set v none
theorem er_wipe {F : Hp} {as : List Addr} {e : En} {σ : Sg} (h : ER D w F as e σ) : ∀ vs : List Nat, ER D w F as (wipeE e vs) (wipe σ vs)
  | [] => h
  | v :: vs => (er_wipe h vs).unset v
/-- the turns of a comprehension: no exception comes out of one -/
noncomputable def lcM (gd : Mem → Prop) (g : MG) (t : MB) (m : ME) (e : En) : List W → List W → Mem → R (List W)
  | [], acc, μ => open Classical in if gd μ then .ok acc μ else .stuck
  | y :: ys, acc, μ => open Classical in if gd μ then (match g y e μ with
    | some e1 => (match t e1 μ with
      | .ok true μ1 => (match m e1 μ1 with
        | .ok u μ2 => lcM gd g t m e ys (acc ++ [u]) μ2
        | _ => .stuck)
      | .ok false μ1 => lcM gd g t m e ys acc μ1
      | _ => .stuck)
    | none => .stuck) else .stuck
noncomputable def mLc (live : Bool) (i : MI) (g : MG) (t : MB) (m : ME) (own : List Nat) : ME := fun e μ => (i e μ).bind fun k μ1 => if k.ys.length ≤ bigL then (lcM k.gd g t m (wipeE e own) k.ys [] μ1).bind fun ws μ2 => mkL live ws μ2 else .stuck
theorem Sim.side {F H : Hp} {as : List Addr} {μ : Mem} (S : Sim D w F H as μ) {p : Addr} (o : HO) (hp : p ∉ as) (hF : F p = Option.none) : Sim D w F (upd H p o) as μ := by
  have ne : ∀ a ∈ as, a ≠ p := fun a ha e => hp (e ▸ ha)
  exact ⟨fun b u e => by rw [upd_ne (ne_of_none e hF)]; exact S.sub b u e, S.len, S.nd, fun a ha => by rw [upd_ne (ne a ha)]; exact S.there a ha, S.out, fun n a x h1 h2 => by rw [upd_ne (ne a (List.mem_of_getElem? h1))]; exact S.obj n a x h1 h2⟩
theorem Ext.side {F H F' H' : Hp} {as as' : List Addr} (X : Ext F H as F' H' as') {p : Addr} (o : HO) (hp : H p = none) : Ext F H as F' (upd H' p o) as' :=
  ⟨X.fs, X.more, fun a u e hn => by rw [upd_ne (ne_of_none e hp)]; exact X.keep a u e hn, X.newF⟩
/-- what stands beside -/
structure Beside (F H : Hp) (as : List Addr) (p : Addr) (o : HO) : Prop where
  h : H p = some o
  f : F p = none
  n : p ∉ as
theorem Beside.ext {F H F' H' : Hp} {as as' : List Addr} {p : Addr} {o : HO} (b : Beside F H as p o) (X : Ext F H as F' H' as') : Beside F' H' as' p o := by
  have hn : p ∉ as' := by
    obtain ⟨r, e, hr⟩ := X.more
    intro hm
    rw [e] at hm
    rcases List.mem_append.mp hm with hm | hm
    · exact b.n hm
    · have := hr p hm
      rw [b.h] at this; cases this
  refine ⟨X.keep p o b.h b.n, ?_, hn⟩
  cases q : F' p with
  | none => rfl
  | some z =>
    rcases X.newF p (by rw [q]; simp) with e | e | e
    · exact absurd b.f e
    · rw [b.h] at e; cases e
    · exact absurd e b.n
/-- what stood beside comes in as a list -/
theorem Po.lstB {live : Bool} {σ : Sg} {F0 H0 F H : Hp} {as0 as : List Addr} {μ : Mem} {Q : VK} {ws : List W} {vs : List V} {p : Addr} (h : Po D w Wx σ F0 H0 as0 (relW D w) (mkL live ws μ) Q) (X : Ext F0 H0 as0 F H as) (hp : H0 p = none) (S : Sim D w F H as μ) (b : Beside F H as p (.lst vs)) (r : RWs D w F as ws vs) : Q (.ref p) H := by
  have cov : ∀ {o : HO}, H p = some o → upd H p o = H := fun {o} e => by
    funext a
    by_cases q : a = p
    · subst q; rw [upd_same, e]
    · rw [upd_ne q]
  cases live with
  | true =>
    have S1 : Sim D w F H (as ++ [p]) (μ ++ [.lst ws]) := by
      have hl := S.len
      have ix : ∀ (j : Nat) c y, (as ++ [p])[j]? = some c → (μ ++ [O.lst ws])[j]? = some y → (as[j]? = some c ∧ μ[j]? = some y) ∨ (c = p ∧ y = .lst ws) := fun j c y h1 h2 => by
        by_cases hj : j < as.length
        · rw [List.getElem?_append_left hj] at h1
          rw [List.getElem?_append_left (by omega)] at h2
          exact .inl ⟨h1, h2⟩
        · have := (List.getElem?_eq_some_iff.mp h1).1
          rw [List.length_append, List.length_singleton] at this
          have e : j = as.length := by omega
          subst e
          rw [List.getElem?_append_right (Nat.le_refl _)] at h1
          rw [List.getElem?_append_right (by omega)] at h2
          simp [hl] at h1 h2
          exact .inr ⟨h1.symm, h2.symm⟩
      refine ⟨S.sub, by simp [hl], ?_, fun a ha => ?_, fun n a y h1 h2 h3 => ?_, fun n a y h1 h2 => ?_⟩
      · rw [List.nodup_append]
        exact ⟨S.nd, by simp, fun a ha c hc q => b.n (by simp at hc; rw [← hc, ← q]; exact ha)⟩
      · rcases List.mem_append.mp ha with ha | ha
        · exact S.there a ha
        · simp at ha; subst ha; rw [b.h]; simp
      · rcases ix n a y h1 h2 with ⟨q1, q2⟩ | ⟨rfl, rfl⟩
        · exact S.out n a y q1 q2 h3
        · exact b.f
      · rcases ix n a y h1 h2 with ⟨q1, q2⟩ | ⟨rfl, rfl⟩
        · exact RO.mono (Same.refl _) ⟨[p], rfl⟩ (S.obj n a y q1 q2)
        · exact ⟨vs, b.h, RWs.mono (Same.refl _) ⟨[a], rfl⟩ ws vs r⟩
    obtain ⟨z, ez, hz⟩ := X.more
    refine h F H (as ++ [p]) (.ref p) ⟨X.fs, ⟨z ++ [p], by rw [ez, List.append_assoc], fun a ha => ?_⟩, X.keep, X.newF⟩ S1 ?_
    · rcases List.mem_append.mp ha with ha | ha
      · exact hz a ha
      · simp at ha; rw [ha]; exact hp
    · show RW D w F (as ++ [p]) (.ref μ.length) (.ref p)
      simp only [RW]
      exact ⟨p, by rw [← S.len]; simp, rfl⟩
  | false =>
    unfold mkL at h
    cases q : toTs ws with
    | none => rw [q] at h; exact h.elim
    | some ts =>
      rw [q] at h
      have sF : Same F (upd F p (.lst vs)) := upd_sub b.f
      have S1 : Sim D w (upd F p (.lst vs)) H as μ := by
        refine ⟨fun a u e => ?_, S.len, S.nd, S.there, fun n a y h1 h2 h3 => ?_, fun n a y h1 h2 => RO.mono sF ⟨[], (List.append_nil as).symm⟩ (S.obj n a y h1 h2)⟩
        · by_cases z : a = p
          · subst z; rw [upd_same] at e; cases e; exact b.h
          · rw [upd_ne z] at e; exact S.sub a u e
        · rw [upd_ne (fun z => b.n (by rw [← z]; exact List.mem_of_getElem? h1))]
          exact S.out n a y h1 h2 h3
      refine h (upd F p (.lst vs)) H as (.ref p) ⟨X.fs.trans sF, X.more, X.keep, fun a e => ?_⟩ S1 ?_
      · rcases upd_some e with e | e
        · subst e; exact .inr (.inl hp)
        · exact X.newF a e
      · have r1 := RWs.mono sF ⟨[], (List.append_nil as).symm⟩ ws vs r
        rw [toTs_eq q] at r1
        show RW D w _ as (.t (.lst ts)) (.ref p)
        simp only [RW, RT]
        exact ⟨p, vs, rfl, upd_same, r1.toT⟩
open Classical in
theorem lcM_nil {gd : Mem → Prop} {g : MG} {t : MB} {m : ME} {e : En} {acc : List W} {μ : Mem} : lcM gd g t m e [] acc μ = if gd μ then .ok acc μ else .stuck := by rw [lcM]
open Classical in
theorem lcM_cons {gd : Mem → Prop} {g : MG} {t : MB} {m : ME} {e : En} {y : W} {ys acc : List W} {μ : Mem} : lcM gd g t m e (y :: ys) acc μ = if gd μ then (match g y e μ with
    | some e1 => (match t e1 μ with
      | .ok true μ1 => (match m e1 μ1 with
        | .ok u μ2 => lcM gd g t m e ys (acc ++ [u]) μ2
        | _ => .stuck)
      | .ok false μ1 => lcM gd g t m e ys acc μ1
      | _ => .stuck)
    | none => .stuck) else .stuck := by rw [lcM]
theorem wipe_at (σ : Sg) (i : Nat) : ∀ vs : List Nat, (wipe σ vs)[i]? = if i ∈ vs then (if i < σ.length then some none else none) else σ[i]?
  | [] => by simp [wipe]
  | v :: vs => by
    unfold wipe
    rw [List.getElem?_set, wipe_at σ i vs, wipe_length]
    by_cases e : v = i
    · subst e; simp
    · rw [if_neg e]
      by_cases h : i ∈ vs
      · simp [h]
      · have : i ∉ v :: vs := by simp [h]; exact fun z => e z.symm
        rw [if_neg h, if_neg this]
theorem wipe_twice (σ : Sg) (vs : List Nat) : wipe (wipe σ vs) vs = wipe σ vs := by
  apply List.ext_getElem?
  intro i
  rw [wipe_at, wipe_at, wipe_length]
  by_cases h : i ∈ vs
  · simp [h]
  · simp [h]
theorem lcM_ok {F0 H0 : Hp} {as0 : List Addr} {σ0 σ : Sg} {live : Bool} {gd : Mem → Prop} {g : MG} {own : List Nat} {t : MB} {m : ME} {e : En} {vs : List Nat} {Q : VK} {J : It} {ys : List W} {D1 : Addr} {μ0 : Mem} (hD : H0 D1 = none) (hown : ∀ i ∈ own, i ∈ vs)
    (E0 : ER D w F0 as0 e (wipe σ vs)) (hbig : ys.length ≤ bigL) (hw : Walks D w J gd ys F0 as0) (S0 : Sim D w F0 H0 as0 μ0)
    (P : Po D w Wx σ0 F0 H0 as0 (relW D w) ((lcM gd g t m e ys [] μ0).bind fun ws μ2 => mkL live ws μ2) Q) :
    ∃ W : Nat → Nat → Hp → Prop, (∃ m, W 0 m (upd H0 D1 (.lst []))) ∧ ∀ i n H, W i n H →
      (J.stop i H ∧ Q (.ref D1) H) ∨ (J.go i H ∧ ∃ Nx : Hp → Prop, (∀ H', Nx H' → ∃ m', m' < n ∧ W (i + 1) m' H') ∧ ∀ x H', J.yld i H x H' → (RdG D w own g) x (wipe σ vs) H' fun σ2 H2 => wipe σ2 vs = wipe σ vs ∧ (RdB D w WxF t) σ2 H2 fun b H3 =>
        if b = true then (RdE D w WxF m) σ2 H3 fun y H4 => ∃ acc, H4 D1 = some (.lst acc) ∧ acc.length < sizeLine ∧ Nx (upd H4 D1 (.lst (acc ++ [y]))) else Nx H3) := by
  let Inv : Nat → Hp → Prop := fun i H => ∃ F as μ acc avs, Sim D w F H as μ ∧ Ext F0 H0 as0 F H as ∧ Beside F H as D1 (.lst avs) ∧ RWs D w F as acc avs ∧ acc.length ≤ i ∧ lcM gd g t m e ys [] μ0 = lcM gd g t m e (ys.drop i) acc μ
  refine ⟨fun i n H => n = ys.length - i ∧ i ≤ ys.length ∧ Inv i H, ⟨_, rfl, Nat.zero_le _, F0, as0, μ0, [], [], S0.side _ (S0.notIn hD) (S0.freeF hD), Ext.refl.side _ hD, ⟨upd_same, S0.freeF hD, S0.notIn hD⟩, by simp [RWs], Nat.le_refl _, by simp⟩, ?_⟩
  rintro i n H ⟨rfl, hi, F, as, μ, acc, avs, S, X, B, R, hacc, eq⟩
  by_cases hlt : i < ys.length
  · have ed : ys.drop i = ys[i] :: ys.drop (i + 1) := List.drop_eq_getElem_cons hlt
    rw [ed] at eq
    rw [lcM_cons] at eq
    by_cases hgd : gd μ
    · rw [if_pos hgd] at eq
      obtain ⟨h1, _⟩ := hw i F H as μ S X.fs X.pre hgd
      obtain ⟨hgo, hyl⟩ := h1 ys[i] (List.getElem?_eq_getElem hlt)
      refine .inr ⟨hgo, Inv (i + 1), fun H' q => ⟨_, by omega, rfl, hlt, q⟩, fun x H' hx => ?_⟩
      obtain ⟨F1, S1, X1, R1⟩ := hyl x H' hx
      have X01 := X.trans X1 S.there
      cases q1 : g ys[i] e μ with
      | none => simp only [q1] at eq; rw [eq] at P; exact P.elim
      | some e1 =>
        simp only [q1] at eq
        refine ⟨F1, as, μ, e, ys[i], S1, E0.mono X01.fs X01.pre, R1, e1, q1, fun σ2 E2 hw2 => ⟨(hw2 vs hown).trans (wipe_twice σ vs), F1, as, μ, e1, S1, E2, ?_⟩⟩
        cases q2 : t e1 μ with
        | stuck => simp only [q2] at eq; rw [eq] at P; exact P.elim
        | exc z μ2 => simp only [q2] at eq; rw [eq] at P; exact P.elim
        | ok b μ2 =>
          intro F2 H2 as2 b' X2 S2 rb
          cases rb
          have B2 := (B.ext X1).ext X2
          have X02 := X01.trans X2 S1.there
          cases b with
          | false =>
            simp only [q2] at eq
            exact ⟨F2, as2, μ2, acc, avs, S2, X02, B2, RWs.mono X2.fs X2.pre _ _ (RWs.mono X1.fs X1.pre _ _ R), Nat.le_succ_of_le hacc, eq⟩
          | true =>
            simp only [q2] at eq
            refine ⟨F2, as2, μ2, e1, S2, E2.mono X2.fs X2.pre, ?_⟩
            cases q3 : m e1 μ2 with
            | stuck => simp only [q3] at eq; rw [eq] at P; exact P.elim
            | exc z μ3 => simp only [q3] at eq; rw [eq] at P; exact P.elim
            | ok u μ3 =>
              simp only [q3] at eq
              intro F3 H3 as3 v X3 S3 R3
              have B3 := B2.ext X3
              have X03 := X02.trans X3 S2.there
              have RR : RWs D w F3 as3 acc avs := RWs.mono X3.fs X3.pre _ _ (RWs.mono X2.fs X2.pre _ _ (RWs.mono X1.fs X1.pre _ _ R))
              refine ⟨avs, B3.h, ?_, F3, as3, μ3, acc ++ [u], avs ++ [v], S3.side _ B3.n B3.f, X03.side _ hD, ⟨upd_same, B3.f, B3.n⟩, RR.app (by simp only [RWs]; exact ⟨v, _, rfl, R3, rfl⟩), by simp; omega, eq⟩
              have := RR.len
              have := bigL_le
              omega
    · rw [if_neg hgd] at eq; rw [eq] at P; exact P.elim
  · have e0 : ys.drop i = [] := List.drop_eq_nil_of_le (by omega)
    rw [e0] at eq
    rw [lcM_nil] at eq
    by_cases hgd : gd μ
    · rw [if_pos hgd] at eq
      rw [eq] at P
      exact .inl ⟨(hw i F H as μ S X.fs X.pre hgd).2 (by omega), Po.lstB P X hD S B R⟩
    · rw [if_neg hgd] at eq; rw [eq] at P; exact P.elim
theorem rdLc {σ : Sg} {H : Hp} {Q : VK} {live : Bool} {i : MI} {g : MG} {t : MB} {m : ME} {gown vs : List Nat} (hown : ∀ i ∈ gown, i ∈ vs) (h : RdE D w Wx (mLc live i g t m vs) σ H Q) : tLc (RdI D w Wx i) (RdG D w gown g) (RdB D w WxF t) (RdE D w WxF m) vs σ H Q := by
  obtain ⟨F, as, μ, e, S, E, P⟩ := h
  refine ⟨F, as, μ, e, S, E, ?_⟩
  unfold mLc at P
  cases q : i e μ with
  | stuck => rw [q] at P; exact P.elim
  | exc x μ1 => rw [q] at P; exact P
  | ok k μ1 =>
    rw [q] at P
    intro F1 H1 as1 J X1 S1 hw D1 hD1
    have P1 : Po D w Wx σ F1 H1 as1 (relW D w) (if k.ys.length ≤ bigL then (lcM k.gd g t m (wipeE e vs) k.ys [] μ1).bind fun ws μ2 => mkL live ws μ2 else .stuck) Q := Po.from P X1 S1.there
    by_cases hb : k.ys.length ≤ bigL
    · rw [if_pos hb] at P1
      exact lcM_ok hD1 hown (er_wipe (E.mono X1.fs X1.pre) vs) hb hw S1 P1
    · rw [if_neg hb] at P1; exact P1.elim
theorem xe_lc {live : Bool} {elt tg iter : Expr} {ifs : List Expr} {scope : Scope} {own : List (Str × Nat)} {pos : Pos} {i : MI} {g : MG} {t : MB} {m : ME} {gown : List Nat} (hc : X.calm = true) (hN : X.N.Nodup) (hi : PI X tg iter (RdI D w Wx i)) (ok : BlkOk X.N X.env.scope scope own)
    (hg : ∀ (s : Shared) (H : Hp) (C : Addr) (cl : List (Str × Addr)) (fp : List Addr), PG (X.blk s H scope (compEnvC scope cl C X.env) fp) tg (RdG D w gown g)) (ht : ∀ (s : Shared) (H : Hp) (C : Addr) (cl : List (Str × Addr)) (fp : List Addr), PTs (X.blk s H scope (compEnvC scope cl C X.env) fp) ifs (RdB D w WxF t))
    (he : ∀ (s : Shared) (H : Hp) (C : Addr) (cl : List (Str × Addr)) (fp : List Addr), PE (X.blk s H scope (compEnvC scope cl C X.env) fp) elt (RdE D w WxF m)) (hs : ∀ x, foldedSetIterable iter X.env x = pure x) (hown : ∀ i ∈ gown, i ∈ own.map (·.2)) :
    PE X (.ListComp elt [⟨tg, iter, ifs, 0⟩] scope pos) (RdE D w Wx (mLc live i g t m (own.map (·.2)))) :=
  PE.weak (pe_lc hc hN hi ok hg ht he hs) fun σ H Q h => rdLc hown h
theorem xs_setLc {live : Bool} {j : Nat} {y : Str} {py spos : Pos} {elt tg iter : Expr} {ifs : List Expr} {scope : Scope} {own : List (Str × Nat)} {pos : Pos} {i : MI} {g : MG} {t : MB} {m : ME} {gown : List Nat} (hc : X.calm = true) (hN : X.N.Nodup) (hy : X.N[j]? = some y) (hyl : X.env.scope.names.lookup y = some .local)
    (hsw : swapsWith (.ListComp elt [⟨tg, iter, ifs, 0⟩] scope pos) (some (.Name y py)) spos.line X.env = pure true) (hi : PI X tg iter (RdI D w Wx i)) (ok : BlkOk X.N X.env.scope scope own)
    (hg : ∀ (s : Shared) (H : Hp) (C : Addr) (cl : List (Str × Addr)) (fp : List Addr), PG (X.blk s H scope (compEnvC scope cl C X.env) fp) tg (RdG D w gown g)) (ht : ∀ (s : Shared) (H : Hp) (C : Addr) (cl : List (Str × Addr)) (fp : List Addr), PTs (X.blk s H scope (compEnvC scope cl C X.env) fp) ifs (RdB D w WxF t))
    (he : ∀ (s : Shared) (H : Hp) (C : Addr) (cl : List (Str × Addr)) (fp : List Addr), PE (X.blk s H scope (compEnvC scope cl C X.env) fp) elt (RdE D w WxF m)) (hs : ∀ x, foldedSetIterable iter X.env x = pure x) (hown : ∀ i ∈ gown, i ∈ own.map (·.2)) :
    PS X (.Assign [.Name y py] (.ListComp elt [⟨tg, iter, ifs, 0⟩] scope pos) spos) (RdS D w Wx (sAsg (mLc live i g t m (own.map (·.2))) (gN j))) :=
  PS.weak (ps_setLc hc hN hy hyl hsw hi ok hg ht he hs) fun N σ H ⟨F, as, μ, e, S, E, P⟩ => rdLc hown ⟨F, as, μ, e, S, E, PoS.ex P E fun u μ F' H' as' v y s E r P => by
    simp only [gN] at P
    exact P F' H' as' _ Ext.refl s (E.set j r)⟩
def bYes : MB := fun _ μ => .ok true μ
theorem xts_nil : PTs X [] (RdB D w Wx bYes) := ⟨fun pins s σ H Q I ⟨F, as, μ, e, S, E, P⟩ => pts_nil.run pins s σ H Q I (Po.now P S rfl)⟩
theorem xts_one {c : Expr} {t : MB} (h : PT X c (RdB D w Wx t)) : PTs X [c] (RdB D w Wx t) := pts_one h
end
end HQ
/-! HQD: dict displays. -/
namespace HQ
open PySem PySem.Spec PyProof.Rows L2

def nKey : Key → NestedKey
  | .inl i => .num i
  | .inr x => .text x
theorem nKey_hash (w : World) (k : Key) : (nKey k).hash w = keyH w k := by
  cases k <;> rfl
def keyK : T → Option Key
  | .int i => some (.inl i)
  | .str x => some (.inr x)
  | _ => none
section
variable {X : Cx} {D : Ad} {w : World} {Wx : WX}
theorem keyK_ok {F : Hp} {t : T} {k : Key} {v : V} (h : keyK t = some k) (r : RT D w F t v) : v = kV k ∧ keyT t = some (nKey k) := by
  cases t <;> simp only [keyK, Option.some.injEq, reduceCtorEq] at h <;> subst h <;> simp only [RT] at r <;> subst r <;> exact ⟨rfl, rfl⟩
/-- {k: v}: the key a number or a text -/
def dic1 (u v : W) (μ : Mem) : R W := match u, v with
  | .t k, .t v => match keyK k with
    | some _ => .ok (.t (.dic [k] [v])) μ
    | none => .stuck
  | _, _ => .stuck
def mDic1 (mk mv : ME) : ME := fun e μ => (mk e μ).bind fun u μ1 => (mv e μ1).bind fun v μ2 => dic1 u v μ2
theorem dic_one {P : Program} {h : Heap} {a : Addr} {k : Key} {v : V} {vs : Value} (dd : h.DictOf (mixKind P w) a [(k, vs)]) (hd : (a == sysModules) = false) (r : RelV v vs) : DicP w a [⟨nKey k, kV k, v⟩] h := by
  obtain ⟨o, es, ep, h1, h2, h3, h4, h5, h6⟩ := dd
  refine ⟨hd, by show 1 ≤ sizeLine; decide, o, es, ep, h1, h2, h3, ?_⟩
  generalize hl : es.toList = l at h5
  cases h5 with
  | @cons e kv es' kvs' p q rest =>
    cases rest
    have hm : e ∈ es := by
      have : e ∈ es.toList := by rw [hl]; simp
      simpa using this
    obtain ⟨k', hk', hh⟩ := h4 e hm
    have ek : k = k' := (mixKind P w).inj e.key _ _ p hk'
    subst ek
    have rk : RelV (kV k) e.key := by
      rcases keyIs_shape (show keyIs k e.key = true from p) with ⟨i, t, e1, e2⟩ | ⟨x, t, e1, e2⟩ <;> rw [e1, e2] <;> exact ⟨t, rfl⟩
    exact .cons ⟨by rw [hh, nKey_hash]; rfl, rk, by rw [q]; exact r⟩ .nil
theorem Ext.unside {F H F' H' : Hp} {as as' : List Addr} {p : Addr} {o : HO} (X : Ext F (upd H p o) as F' H' as') (hp : H p = none) : Ext F H as F' H' as' := by
  have nn : ∀ a, upd H p o a = none → H a = none := fun a h => by
    by_cases q : a = p
    · rw [q]; exact hp
    · rw [upd_ne q] at h; exact h
  obtain ⟨r, er, hr⟩ := X.more
  exact ⟨X.fs, ⟨r, er, fun a ha => nn a (hr a ha)⟩, fun a u h hn => X.keep a u (by rw [upd_ne (ne_of_none h hp)]; exact h) hn, fun a h => (X.newF a h).imp_right (Or.imp_left (nn a))⟩
theorem Sim.freeze {F H : Hp} {as : List Addr} {μ : Mem} {p : Addr} {o : HO} (S : Sim D w F H as μ) (b : Beside F H as p o) : Sim D w (upd F p o) H as μ := by
  have sF : Same F (upd F p o) := upd_sub b.f
  refine ⟨fun a u e => ?_, S.len, S.nd, S.there, fun n a y h1 h2 h3 => ?_, fun n a y h1 h2 => RO.mono sF ⟨[], (List.append_nil as).symm⟩ (S.obj n a y h1 h2)⟩
  · by_cases z : a = p
    · subst z; rw [upd_same] at e; cases e; exact b.h
    · rw [upd_ne z] at e; exact S.sub a u e
  · rw [upd_ne (fun z => b.n (by rw [← z]; exact List.mem_of_getElem? h1))]
    exact S.out n a y h1 h2 h3
theorem Ext.freeze {F0 H0 F H : Hp} {as0 as : List Addr} {p : Addr} {o : HO} (X : Ext F0 H0 as0 F H as) (b : Beside F H as p o) (hp : H0 p = none) : Ext F0 H0 as0 (upd F p o) H as :=
  ⟨X.fs.trans (upd_sub b.f), X.more, X.keep, fun a e => by
    rcases upd_some e with e | e
    · subst e; exact .inr (.inl hp)
    · exact X.newF a e⟩
theorem xe_dic1 {k v : Expr} {mk mv : ME} {pos : Pos} (hw : X.w = w) (hk : PE X k (RdE D w Wx mk)) (hv : PE X v (RdE D w Wx mv)) : PE X (.Dict [some k] [v] pos) (RdE D w Wx (mDic1 mk mv)) := by
  subst hw
  refine ⟨fun pins s σ H Q I ⟨F, as, μ, e, S, E, P⟩ => ?_⟩
  have hn := I.hok.fresh (Nat.le_refl s.heap.objs.size)
  have I1 := I.laid (a := s.heap.objs.size) (o := .dK []) (h' := s.heap.push { cls := .type "dict", data := .dict #[] }) (t' := s.toks) (fun _ _ q => Heap.get?_push_of_some _ q) (Nat.le_refl _) (dk_empty s.heap I.big)
  have B0 : Beside F (upd H s.heap.objs.size (.dK [])) as s.heap.objs.size (.dK []) := ⟨upd_same, S.freeF hn, S.notIn hn⟩
  have S0 := S.side (.dK []) (S.notIn hn) (S.freeF hn)
  refine wpAny_Dict_walk (knd := mixKind X.prog X.w) (by rfl) rfl (by simp) (by simp) ?_
  have pp : PPs X pos [some k] [v] [(RdE D X.w Wx mk, RdE D X.w Wx mv)] := pps_cons hk hv pps_nil
  refine thn (pp.run pins _ σ _ (fun ps H2 => H2 s.heap.objs.size = some (.dK []) ∧ ∃ (k : Key) (v : V), ps = [(kV k, v)] ∧ Q (.ref s.heap.objs.size) (upd H2 s.heap.objs.size (dicO X.w s.heap.objs.size [⟨nKey k, kV k, v⟩]))) I1 ?_) fun ws s2 ⟨ps, H2, I2, rel, e, k0, v0, ep, q2⟩ => ?_
  · refine ⟨F, as, μ, e, S0, E, ?_⟩
    unfold mDic1 at P
    cases q1 : mk e μ with
    | stuck => rw [q1] at P; exact P.elim
    | exc x μ1 => rw [q1] at P; exact fun F' H' as' d y s r => P F' H' as' d (y.unside hn) s r
    | ok u μ1 =>
      rw [q1] at P
      intro F1 H1 as1 x X1 S1 R1
      refine ⟨F1, as1, μ1, e, S1, E.mono X1.fs X1.pre, ?_⟩
      replace P : Po D X.w Wx σ F H as (relW D X.w) ((mv e μ1).bind fun v μ2 => dic1 u v μ2) Q := P
      cases q2 : mv e μ1 with
      | stuck => rw [q2] at P; exact P.elim
      | exc x μ2 => rw [q2] at P; exact fun F' H' as' d y s r => P F' H' as' d ((X1.trans y S1.there).unside hn) s r
      | ok v μ2 =>
        rw [q2] at P
        intro F2 H2 as2 y X2 S2 R2
        replace P : Po D X.w Wx σ F H as (relW D X.w) (dic1 u v μ2) Q := P
        unfold dic1 at P
        have X02 := X1.trans X2 S1.there
        have B2 := B0.ext X02
        split at P
        · rename_i tk tv
          split at P
          · rename_i kk qk
            simp only [relW, RW] at R1 R2
            obtain ⟨rfl, hkt⟩ := keyK_ok qk R1
            refine ⟨B2.h, kk, y, rfl, ?_⟩
            have B3 : Beside F2 (upd H2 s.heap.objs.size (dicO X.w s.heap.objs.size [⟨nKey kk, kV kk, y⟩])) as2 s.heap.objs.size (dicO X.w s.heap.objs.size [⟨nKey kk, kV kk, y⟩]) := ⟨upd_same, B2.f, B2.n⟩
            have S3 := (S2.side (dicO X.w s.heap.objs.size [⟨nKey kk, kV kk, y⟩]) B2.n B2.f).freeze B3
            have X3 := ((X02.unside hn).side (dicO X.w s.heap.objs.size [⟨nKey kk, kV kk, y⟩]) hn).freeze B3 hn
            refine P _ _ as2 _ X3 S3 ?_
            simp only [relW, RW, RT, RTs]
            have sF : Same F2 (upd F2 s.heap.objs.size (dicO X.w s.heap.objs.size [⟨nKey kk, kV kk, y⟩])) := upd_sub B2.f
            exact ⟨s.heap.objs.size, [⟨nKey kk, kV kk, y⟩], rfl, upd_same, ⟨_, [], rfl, RT.mono sF _ _ (RT.mono X2.fs _ _ R1), rfl⟩, ⟨_, [], rfl, RT.mono sF _ _ R2, rfl⟩, by simp [keyTs, hkt], by simp⟩
          · exact P.elim
        · exact P.elim
  · subst ep
    cases rel with
    | @cons a b as' bs r1 r2 =>
      cases r2
      obtain ⟨b1, b2⟩ := b
      obtain ⟨z, hd, vs0, r0, dd⟩ := dk_of I2.hok e
      cases r0
      refine ⟨[(k0, b2)], ⟨kV_is r1.1, rfl, trivial⟩, dd, fun h' dd' hs => ⟨.ref s.heap.objs.size, _, ?_, rfl, q2⟩⟩
      have dd1 : h'.DictOf (mixKind X.prog X.w) s.heap.objs.size [(k0, b2)] := dd'
      have dp := dic_one dd1 hd r1.2
      have he : ∃ q, h'.get? s.heap.objs.size = some q := let ⟨q, _, _, hq, _⟩ := dd'; ⟨q, hq⟩
      refine d_write I2 (by rw [e]; exact True.intro) hs he ⟨dp, he, fun h1 h2 d k => ?_⟩
      obtain ⟨d1, d2, o, xs, ep, e1, rest⟩ := d
      exact ⟨d1, d2, o, xs, ep, k o e1, rest⟩
end
end HQ
/-! HQE: a place to walk from, the nodes of a walk. -/
namespace HQ
open PySem PySem.Spec PyProof.Rows L2

/-- what a walk needs of where it stands: is the slots seen, ls the slots set, gs the module's names, bs built-in ones -/
structure Sc (X : Cx) (D : Ad) (w : World) (Wx : WX) (k : Nat) (is ls : List Nat) (gs bs : List Str) : Prop where
  see : ∀ i x, is.elem i = true → X.N[i]? = some x → Vis X.env.scope x ∧ (x == ("__debug__" : Str)) = false ∧ (x == ("__classdict__" : Str)) = false
  loc : ∀ i x, ls.elem i = true → X.N[i]? = some x → Loc X.env.scope x ∧ (X.fn x = true ∨ X.env.scope.names.lookup x = some .local)
  gl : ∀ (j : Nat) x, gs[j]? = some x → Gl X x ∧ (x == ("__debug__" : Str)) = false
  bl : ∀ (j : Nat) x, bs[j]? = some x → Gl X x ∧ X.mg x = none ∧ x ≠ "__name__" ∧ (x == ("__debug__" : Str)) = false
  nd : X.N.Nodup
  calm : X.calm = true
  tk : Takes X Wx
  room : Room k X.A
  hw : X.w = w

def visB (sc : Scope) (x : Str) : Bool := match sc.names.lookup x with
  | some .local => true
  | some .cell => true
  | some .free => true
  | _ => false
def locB (fn : Bool) (sc : Scope) (x : Str) : Bool := match sc.names.lookup x with
  | some .local => true
  | some .cell => fn
  | _ => false
def glB (sc : Scope) (x : Str) : Bool := match sc.names.lookup x with
  | some .globalImplicit => !(x == ("__debug__" : Str))
  | _ => false
def scB (fn : Bool) (N : List Str) (sc : Scope) (is ls : List Nat) (gs bs : List Str) : Bool :=
  (is.all fun i => match N[i]? with
    | some x => visB sc x && !(x == ("__debug__" : Str)) && !(x == ("__classdict__" : Str))
    | none => false) && (ls.all fun i => match N[i]? with
    | some x => locB fn sc x
    | none => false) && (gs.all fun x => glB sc x) && (bs.all fun x => glB sc x && !(x == ("__name__" : Str)))
theorem visB_ok {sc : Scope} {x : Str} (h : visB sc x = true) : Vis sc x := by
  unfold visB at h
  unfold Vis
  split at h <;> simp_all
theorem glB_ok {sc : Scope} {x : Str} (h : glB sc x = true) : sc.names.lookup x = some .globalImplicit ∧ (x == ("__debug__" : Str)) = false := by
  unfold glB at h
  split at h
  · rename_i e; exact ⟨e, by simpa using h⟩
  · cases h
theorem Sc.of {X : Cx} {D : Ad} {w : World} {Wx : WX} {k : Nat} {is ls : List Nat} {gs bs : List Str} {fn : Bool} {N : List Str} {sc : Scope} (h : scB fn N sc is ls gs bs = true) (hN : X.N = N) (hsc : X.env.scope = sc)
    (hfn : fn = true → ∀ x, sc.names.lookup x = some .cell → X.fn x = true) (hm : ∀ x ∈ bs, X.mg x = none) (nd : X.N.Nodup) (calm : X.calm = true) (tk : Takes X Wx) (room : Room k X.A) (hw : X.w = w) : Sc X D w Wx k is ls gs bs := by
  unfold scB at h
  simp only [Bool.and_eq_true, List.all_eq_true] at h
  obtain ⟨⟨⟨h1, h2⟩, h3⟩, h4⟩ := h
  have kg : ∀ x, glB sc x = true → Gl X x ∧ (x == ("__debug__" : Str)) = false := fun x q => by
    obtain ⟨e, d⟩ := glB_ok q
    refine ⟨?_, d⟩
    show X.env.scope.names.lookup x = _
    rw [hsc]; exact e
  refine ⟨fun i x hi hx => ?_, fun i x hi hx => ?_, fun j x hx => kg x (h3 x (List.mem_of_getElem? hx)), fun j x hx => ?_, nd, calm, tk, room, hw⟩
  · have q := h1 i (by simpa using hi)
    rw [← hN, hx] at q
    simp only [Bool.and_eq_true, Bool.not_eq_true'] at q
    exact ⟨by rw [hsc]; exact visB_ok q.1.1, q.1.2, q.2⟩
  · have q := h2 i (by simpa using hi)
    rw [← hN, hx] at q
    simp only [locB] at q
    rw [hsc]
    split at q
    · rename_i e; exact ⟨.inl e, .inr e⟩
    · rename_i e; exact ⟨.inr e, .inl (hfn q x e)⟩
    · cases q
  · have hmem := List.mem_of_getElem? hx
    have q := h4 x hmem
    simp only [Bool.not_eq_true'] at q
    obtain ⟨a, b⟩ := kg x q.1
    exact ⟨a, hm x hmem, by simpa using q.2, b⟩
theorem Sc.fn {P : Program} {w : World} {K : PySem.W.Frag} {mg : Str → Option Value} {base : Heap} {N : List Str} {qual : Str} {scope : Scope} {f : Addr} {cdv : Value} {A : Around} {outer : List Env} {s : Shared} {H : Hp} {E : XK} {D : Ad} {k : Nat} {is ls : List Nat} {gs bs : List Str}
    (h : scB true N scope is ls gs bs = true) (hm : ∀ x ∈ bs, mg x = none) (nd : N.Nodup) (hr : Room k (A.deeper (envOfC qual scope s.heap.objs.size f cdv))) :
    Sc (cxOf (L2.CX P w) P w K mg base N qual scope f cdv A outer s H E) D w (fun cls d _ H => E cls d H) k is ls gs bs :=
  Sc.of h rfl rfl (fun _ _ _ => rfl) hm nd rfl (takes_of rfl rfl rfl rfl) hr rfl
theorem own_fn {P : Program} {w : World} {K : PySem.W.Frag} {mg : Str → Option Value} {base : Heap} {N : List Str} {qual : Str} {scope : Scope} {f : Addr} {cdv : Value} {A : Around} {outer : List Env} {s : Shared} {H : Hp} {E : XK} :
    PassesOwn (model P w) (cxOf (L2.CX P w) P w K mg base N qual scope f cdv A outer s H E).A (cxOf (L2.CX P w) P w K mg base N qual scope f cdv A outer s H E).env (cxOf (L2.CX P w) P w K mg base N qual scope f cdv A outer s H E).xe := passes_of (X := cxOf (L2.CX P w) P w K mg base N qual scope f cdv A outer s H E) rfl
theorem Sc.blk {X : Cx} {D : Ad} {w : World} {Wx : WX} {k : Nat} {is ls is' ls' : List Nat} {gs bs gs' bs' : List Str} {N : List Str} {sc : Scope} {scope : Scope} (c : Sc X D w Wx k is ls gs bs) (h : scB false N (relS scope sc) is' ls' gs' bs' = true) (hN : X.N = N) (hsc : X.env.scope = sc)
    (hm : ∀ x ∈ bs', X.mg x = none) (s : Shared) (H : Hp) (C : Addr) (cl : List (Str × Addr)) (fp : List Addr) : Sc (X.blk s H scope (compEnvC scope cl C X.env) fp) D w WxF k is' ls' gs' bs' :=
  Sc.of (fn := false) h hN (by rw [← hsc]; rfl) (fun z => by cases z) hm c.nd c.calm (fun _ _ ⟨_, _, _, _, _, _, _, _, _, _, _, _, _, _, _, _, z⟩ => z.elim) c.room c.hw

section
variable {X : Cx} {D : Ad} {w : World} {Wx : WX} {k : Nat} {is ls : List Nat} {gs bs : List Str} (c : Sc X D w Wx k is ls gs bs)
include c
variable {a b d : Expr} {ma mb mc : ME} {ms : MA} {pos p : Pos}
theorem nv (i : Nat) {x : Str} (h1 : is.elem i = true) (h2 : X.N[i]? = some x) : PE X (.Name x pos) (RdE D w Wx (mVar i)) := xe_var h2 (c.see i x h1 h2).1 (c.see i x h1 h2).2.1 (c.see i x h1 h2).2.2
theorem nTy (j : Nat) {x : Str} (h : bs[j]? = some x) {n : String} (hv : bootBuiltins x = some (.type n)) : PE X (.Name x pos) (RdE D w Wx (mT (.ty n))) :=
  have q := c.bl j x h
  xe_c (v := .ty n) (pe_bltn q.1 q.2.1 hv rfl q.2.2.1 q.2.2.2) fun F => by simp only [RT]
/-! operators -/
theorem nAdd (live : Bool) (ha : PE X a (RdE D w Wx ma)) (hb : PE X b (RdE D w Wx mb)) : PE X (.BinOp a .Add b pos) (RdE D w Wx (m2 (fAdd live) ma mb)) := xe_op op_addA add_ok ha hb
theorem nSub (ha : PE X a (RdE D w Wx ma)) (hb : PE X b (RdE D w Wx mb)) : PE X (.BinOp a .Sub b pos) (RdE D w Wx (m2 fSub ma mb)) := xe_op (rI_tt op_sub) sub_ok ha hb
theorem nMul (live : Bool) (ha : PE X a (RdE D w Wx ma)) (hb : PE X b (RdE D w Wx mb)) : PE X (.BinOp a .Mult b pos) (RdE D w Wx (m2 (fMul live) ma mb)) := xe_op op_mulA mul_ok ha hb
theorem nDiv (ha : PE X a (RdE D w Wx ma)) (hb : PE X b (RdE D w Wx mb)) : PE X (.BinOp a .FloorDiv b pos) (RdE D w Wx (m2 fDiv ma mb)) := xe_op op_fdivW div_ok ha hb
theorem nMod (ha : PE X a (RdE D w Wx ma)) (hb : PE X b (RdE D w Wx mb)) : PE X (.BinOp a .Mod b pos) (RdE D w Wx (m2 fMod ma mb)) := xe_op op_mod mod_ok ha hb
theorem nPow (ha : PE X a (RdE D w Wx ma)) (hb : PE X b (RdE D w Wx mb)) : PE X (.BinOp a .Pow b pos) (RdE D w Wx (m2 fPow ma mb)) := xe_op op_pow pow_ok ha hb
theorem nNeg (ha : PE X a (RdE D w Wx ma)) : PE X (.UnaryOp .USub a pos) (RdE D w Wx (m1 fNeg ma)) := xe_un un_neg neg_ok ha
theorem c_u64 : X.A.units + 64 < cLine := by have := c.room.un; omega
theorem c_u65 : X.A.units + 65 < cLine := by have := c.room.un; omega
theorem c_u0 : X.A.units < cLine := by have := c.room.un; omega
/-! comparisons -/
end
section
variable {X : Cx} {D : Ad} {w : World} {Wx : WX}
def fLe (a b : W) (μ : Mem) : R W := match a, b with
  | .t (.int i), .t (.int j) => .ok (.t (.bl (decide (i ≤ j)))) μ
  | .t (.str i), .t (.str j) => .ok (.t (.bl (!decide (j.cps.toList < i.cps.toList)))) μ
  | _, _ => .stuck
def fGt (a b : W) (μ : Mem) : R W := match a, b with
  | .t (.int i), .t (.int j) => .ok (.t (.bl (decide (j < i)))) μ
  | _, _ => .stuck
def fGe (a b : W) (μ : Mem) : R W := match a, b with
  | .t (.int i), .t (.int j) => .ok (.t (.bl (decide (j ≤ i)))) μ
  | _, _ => .stuck
def rLeA : R2 := fun x y H Q => rI0 (fun i j => .bl (decide (i ≤ j))) x y H Q ∨ (∃ i j, x = .str i ∧ y = .str j ∧ Q (.bl (!decide (j.cps.toList < i.cps.toList))) H)
theorem op_leA : OpR X (compareOp .LtE) rLeA := OpR.or op_le op_le_str
theorem le_ok : Op2 D w Wx rLeA fLe := by
  intro σ F H as μ u1 u2 v1 v2 Q S r1 r2 P
  unfold fLe at P
  split at P
  · simp only [RW, RT] at r1 r2
    exact .inl ⟨_, _, r1, r2, Po.now P S (by simp only [relW, RW, RT])⟩
  · simp only [RW, RT] at r1 r2
    exact .inr ⟨_, _, r1, r2, Po.now P S (by simp only [relW, RW, RT])⟩
  · exact P.elim
theorem gt_ok : Op2 D w Wx (rI0 fun i j => .bl (decide (j < i))) fGt := by
  intro σ F H as μ u1 u2 v1 v2 Q S r1 r2 P
  unfold fGt at P
  split at P
  · simp only [RW, RT] at r1 r2
    exact ⟨_, _, r1, r2, Po.now P S (by simp only [relW, RW, RT])⟩
  · exact P.elim
theorem ge_ok : Op2 D w Wx (rI0 fun i j => .bl (decide (j ≤ i))) fGe := by
  intro σ F H as μ u1 u2 v1 v2 Q S r1 r2 P
  unfold fGe at P
  split at P
  · simp only [RW, RT] at r1 r2
    exact ⟨_, _, r1, r2, Po.now P S (by simp only [relW, RW, RT])⟩
  · exact P.elim
/-- a comparison by its rule and its meaning -/
structure Cmp (X : Cx) (D : Ad) (w : World) (Wx : WX) (op : CmpOp) (f : W → W → Mem → R W) : Prop where
  ex : ∃ r, OpR X (compareOp op) r ∧ Op2 D w Wx r f
section
variable {k : Nat} {is ls : List Nat} {gs bs : List Str} (c : Sc X D w Wx k is ls gs bs)
include c
theorem kEq : Cmp X D w Wx .Eq (fEq false) := ⟨_, op_eqA (c_u64 c), eq_ok⟩
theorem kNe : Cmp X D w Wx .NotEq (fEq true) := ⟨_, op_neA (c_u64 c), ne_ok⟩
theorem kLt : Cmp X D w Wx .Lt fLt := ⟨_, op_ltA (c_u0 c), lt_ok⟩
theorem kLe : Cmp X D w Wx .LtE fLe := ⟨_, op_leA, le_ok⟩
theorem kGt : Cmp X D w Wx .Gt fGt := ⟨_, op_gt, gt_ok⟩
theorem kGe : Cmp X D w Wx .GtE fGe := ⟨_, op_ge, ge_ok⟩
theorem kIs : Cmp X D w Wx .Is (fIsN false) := ⟨_, op_isN, isN_ok⟩
theorem kIsN : Cmp X D w Wx .IsNot (fIsN true) := ⟨_, op_notN, notN_ok⟩
theorem kIn : Cmp X D w Wx .In (fIn false) := ⟨_, op_inA (c_u65 c), in_ok⟩
theorem kNIn : Cmp X D w Wx .NotIn (fIn true) := ⟨_, op_notInA (c_u65 c), in_ok⟩
end
section
variable {a b d : Expr} {ma mb mc : ME} {ms : MA} {pos p : Pos} {op op' : CmpOp} {f g : W → W → Mem → R W}
theorem nCmp (q : Cmp X D w Wx op f) (ha : PE X a (RdE D w Wx ma)) (hb : PE X b (RdE D w Wx mb)) (hm : behindInMarks op b = false) : PE X (.Compare a [op] [b] pos) (RdE D w Wx (m2 f ma mb)) :=
  let ⟨_, h1, h2⟩ := q.ex; xe_cmp h1 h2 ha hb hm
theorem tCmp (q : Cmp X D w Wx op f) (ha : PE X a (RdE D w Wx ma)) (hb : PE X b (RdE D w Wx mb)) (hm : behindInMarks op b = false) : PT X (.Compare a [op] [b] pos) (RdB D w Wx (bOf (m2 f ma mb))) :=
  let ⟨_, h1, h2⟩ := q.ex; xt_cmp h1 h2 ha hb hm
theorem nChain (q : Cmp X D w Wx op f) (q' : Cmp X D w Wx op' g) (ha : PE X a (RdE D w Wx ma)) (hb : PE X b (RdE D w Wx mb)) (hc : PE X d (RdE D w Wx mc)) (hm : lastMarks [op, op'] [b, d] = false) : PE X (.Compare a [op, op'] [b, d] pos) (RdE D w Wx (mChain f g ma mb mc)) :=
  let ⟨_, h1, h2⟩ := q.ex; let ⟨_, h3, h4⟩ := q'.ex; xe_chain h1 h2 h3 h4 ha hb hc hm
theorem tChainN (q : Cmp X D w Wx op f) (q' : Cmp X D w Wx op' g) (ha : PE X a (RdE D w Wx ma)) (hb : PE X b (RdE D w Wx mb)) (hc : PE X d (RdE D w Wx mc)) (hm : lastMarks [op, op'] [b, d] = false) : PT X (.Compare a [op, op'] [b, d] pos) (RdB D w Wx (bOf (mChain f g ma mb mc))) :=
  let ⟨_, h1, h2⟩ := q.ex; let ⟨_, h3, h4⟩ := q'.ex; xt_chain h1 h2 h3 h4 ha hb hc hm
theorem nIx (ha : PE X a (RdE D w Wx ma)) (hb : PE X b (RdE D w Wx mb)) (hs : PlainIx b) : PE X (.Subscript a b pos) (RdE D w Wx (m2 fIdx ma mb)) := xe_ix ix_A idx_ok ha hb hs
end
/-! built-in calls -/
section
variable {k : Nat} {is ls : List Nat} {gs bs : List Str} (c : Sc X D w Wx k is ls gs bs) {e : Expr} {es : List Expr} {ms : MA} {p pos : Pos}
include c
theorem callB {x : Str} {id : String} {r : List V → Hp → VK → Prop} {f : List W → Mem → R W} (j : Nat) (h : bs[j]? = some x) (hc : CallR X (.builtin id) r) (ho : OpA D w Wx r f) (hv : bootBuiltins x = some (.builtin id)) (ha : PA X (e :: es) (RdA D w Wx ms))
    (he : starEach (e :: es) X.env = (false, eval e X.env) :: starEach es X.env) (hpl : (backTo pos (starEach es X.env)).any (·.1) = false) : PE X (.Call (.Name x p) (e :: es) [] pos) (RdE D w Wx (mA f ms)) :=
  have q := c.bl j x h; xe_callB hc ho q.1 q.2.1 hv ha q.2.2.1 q.2.2.2 he hpl
theorem callTy {x : Str} {n : String} {r : List V → Hp → VK → Prop} {f : List W → Mem → R W} (j : Nat) (h : bs[j]? = some x) (hc : CallR X (.type n) r) (ho : OpA D w Wx r f) (hv : bootBuiltins x = some (.type n)) (ha : PA X (e :: es) (RdA D w Wx ms))
    (he : starEach (e :: es) X.env = (false, eval e X.env) :: starEach es X.env) (hpl : (backTo pos (starEach es X.env)).any (·.1) = false) : PE X (.Call (.Name x p) (e :: es) [] pos) (RdE D w Wx (mA f ms)) :=
  have q := c.bl j x h; xe_callTy hc ho q.1 q.2.1 hv ha q.2.2.1 q.2.2.2 he hpl
theorem nLen (j : Nat) (h : bs[j]? = some "len") (ha : PA X (e :: es) (RdA D w Wx ms)) (he : starEach (e :: es) X.env = (false, eval e X.env) :: starEach es X.env) (hpl : (backTo pos (starEach es X.env)).any (·.1) = false) :
    PE X (.Call (.Name "len" p) (e :: es) [] pos) (RdE D w Wx (mA fLen ms)) := callB c j h call_lenA len_ok boot_len ha he hpl
theorem nMax (j : Nat) (h : bs[j]? = some "max") (ha : PA X (e :: es) (RdA D w Wx ms)) (he : starEach (e :: es) X.env = (false, eval e X.env) :: starEach es X.env) (hpl : (backTo pos (starEach es X.env)).any (·.1) = false) :
    PE X (.Call (.Name "max" p) (e :: es) [] pos) (RdE D w Wx (mA fMax ms)) := callB c j h (call_max2 c.calm) max_ok boot_max ha he hpl
theorem nMin (j : Nat) (h : bs[j]? = some "min") (ha : PA X (e :: es) (RdA D w Wx ms)) (he : starEach (e :: es) X.env = (false, eval e X.env) :: starEach es X.env) (hpl : (backTo pos (starEach es X.env)).any (·.1) = false) :
    PE X (.Call (.Name "min" p) (e :: es) [] pos) (RdE D w Wx (mA fMin ms)) := callB c j h (call_min2 c.calm) min_ok boot_min ha he hpl
theorem nIsi {kt : TyC → TyC → Option Bool} (hk : KT X.K D kt) (j : Nat) (h : bs[j]? = some "isinstance") (ha : PA X (e :: es) (RdA D w Wx ms)) (he : starEach (e :: es) X.env = (false, eval e X.env) :: starEach es X.env) (hpl : (backTo pos (starEach es X.env)).any (·.1) = false) :
    PE X (.Call (.Name "isinstance" p) (e :: es) [] pos) (RdE D w Wx (mA (fIsi kt) ms)) := callB c j h call_isiA (isi_ok hk) PyProof.Rows.boot_isinstance ha he hpl
theorem nInt (j : Nat) (h : bs[j]? = some "int") (ha : PA X (e :: es) (RdA D w Wx ms)) (he : starEach (e :: es) X.env = (false, eval e X.env) :: starEach es X.env) (hpl : (backTo pos (starEach es X.env)).any (·.1) = false) :
    PE X (.Call (.Name "int" p) (e :: es) [] pos) (RdE D w Wx (mA fInt ms)) := callTy c j h call_intA int_ok boot_int ha he hpl
theorem nList (live : Bool) (j : Nat) (h : bs[j]? = some "list") (ha : PA X (e :: es) (RdA D w Wx ms)) (he : starEach (e :: es) X.env = (false, eval e X.env) :: starEach es X.env) (hpl : (backTo pos (starEach es X.env)).any (·.1) = false) :
    PE X (.Call (.Name "list" p) (e :: es) [] pos) (RdE D w Wx (mA (fList live) ms)) := callTy c j h call_list_of list_ok boot_list ha he hpl
theorem nTuple (j : Nat) (h : bs[j]? = some "tuple") (ha : PA X (e :: es) (RdA D w Wx ms)) (he : starEach (e :: es) X.env = (false, eval e X.env) :: starEach es X.env) (hpl : (backTo pos (starEach es X.env)).any (·.1) = false) :
    PE X (.Call (.Name "tuple" p) (e :: es) [] pos) (RdE D w Wx (mA fTuple ms)) := callTy c j h call_tuple_of tuple_ok boot_tuple ha he hpl
theorem nStr (j : Nat) (h : bs[j]? = some "str") (ha : PA X (e :: es) (RdA D w Wx ms)) (he : starEach (e :: es) X.env = (false, eval e X.env) :: starEach es X.env) (hpl : (backTo pos (starEach es X.env)).any (·.1) = false) :
    PE X (.Call (.Name "str" p) (e :: es) [] pos) (RdE D w Wx (mA fStr ms)) := callTy c j h call_str_int str_ok boot_str ha he hpl
end
section
variable {o e : Expr} {mo me : ME} {apos pos : Pos}
theorem nJoin (ho : PE X o (RdE D w Wx mo)) (he : PE X e (RdE D w Wx me)) (hs : starEach [e] X.env = [(false, eval e X.env)]) (hbase : attributeBase o "join" X.env (eval o X.env) = eval o X.env) (hline : (apos.endLine == pos.line) = true) :
    PE X (.Call (.Attribute o "join" apos) [e] [] pos) (RdE D w Wx (mM1 fJoin mo me)) := xe_m1 PySem.F.slot_str_join PySem.F.type_str_join mt_join join_ok ho he hs hbase hline
theorem nFind (ho : PE X o (RdE D w Wx mo)) (he : PE X e (RdE D w Wx me)) (hs : starEach [e] X.env = [(false, eval e X.env)]) (hbase : attributeBase o "find" X.env (eval o X.env) = eval o X.env) (hline : (apos.endLine == pos.line) = true) :
    PE X (.Call (.Attribute o "find" apos) [e] [] pos) (RdE D w Wx (mM1 fFind mo me)) := xe_m1 PySem.F.slot_str_find PySem.F.type_str_find mt_find find_ok ho he hs hbase hline
end
/-! own defs -/
/-- the def x of the module, as it is called -/
def Fk (P : Program) (K : PySem.W.Frag) (mg : Str → Option Value) (base : Heap) (D : Ad) (w : World) (k : Nat) (x : Str) (n : Nat) (f : MF) (dts : List T) : Prop :=
  ∃ fA fd ps dvs ds, mg x = some (.ref fA) ∧ FnOk P w K mg base (L2.CX P w) k fA fd ps (spF D w n f) ∧ Binds K fd ps ds ∧ Vals dvs ds ∧ (∀ F, RTs D w F dts dvs) ∧ PySem.W.keepIn K (.ref fA) = true
theorem nCall {k : Nat} {is ls : List Nat} {gs bs : List Str} (c : Sc X D w Wx k is ls gs bs) {e : Expr} {es : List Expr} {ms : MA} {p pos : Pos} {x : Str} {n kf : Nat} {f : MF} {dts : List T} (pu : Bool) (j : Nat) (h : gs[j]? = some x) (F : Fk X.prog X.K X.mg X.base D X.w kf x n f dts) (hk : kf ≤ k) (ha : PA X (e :: es) (RdA D w Wx ms))
    (he : starEach (e :: es) X.env = (false, eval e X.env) :: starEach es X.env) (hpl : (backTo pos (starEach es X.env)).any (·.1) = false) : PE X (.Call (.Name x p) (e :: es) [] pos) (RdE D w Wx (mA (callF f n dts pu) ms)) := by
  obtain ⟨fA, fd, ps, dvs, ds, h1, h2, h3, h4, h5, h6⟩ := F
  have hw := c.hw
  subst hw
  exact xe_call h2 (c.room.mono hk) (c.gl j x h).1 h1 h6 h3 h4 h5 c.tk ha (c.gl j x h).2 he hpl
/-! targets, loops -/
section
variable {k : Nat} {is ls : List Nat} {gs bs : List Str} (c : Sc X D w Wx k is ls gs bs)
include c
theorem gv (i : Nat) {x : Str} {pos : Pos} (h1 : ls.elem i = true) (h2 : X.N[i]? = some x) : PG X (.Name x pos) (RdG D w [i] (gN i)) := xg_name c.nd h2 (c.loc i x h1 h2).1 (c.loc i x h1 h2).2
theorem gs_cons (i : Nat) {x : Str} {pos : Pos} {es : List Expr} {is' : List Nat} (h1 : ls.elem i = true) (h2 : X.N[i]? = some x) (hs : PGs X es (gNames is')) (he : (assignEach (.Name x pos :: es) X.env).map (·.2) = assign (.Name x pos) X.env :: (assignEach es X.env).map (·.2)) : PGs X (.Name x pos :: es) (gNames (i :: is')) :=
  pgs_cons (pg_name c.nd h2 (c.loc i x h1 h2).1 (c.loc i x h1 h2).2) hs he
end
theorem nLc {k : Nat} {is ls : List Nat} {gs bs : List Str} (c : Sc X D w Wx k is ls gs bs) {live : Bool} {elt tg iter : Expr} {ifs : List Expr} {scope : Scope} {own : List (Str × Nat)} {pos : Pos} {i : MI} {g : MG} {t : MB} {m : ME} {gown : List Nat} {is' ls' : List Nat} {gs' bs' : List Str}
    (h : scB false X.N (relS scope X.env.scope) is' ls' gs' bs' = true) (hm : ∀ x ∈ bs', X.mg x = none) (hk : blkC X.N X.env.scope scope own = true) (hi : PI X tg iter (RdI D w Wx i))
    (hg : ∀ (s : Shared) (H : Hp) (C : Addr) (cl : List (Str × Addr)) (fp : List Addr), Sc (X.blk s H scope (compEnvC scope cl C X.env) fp) D w WxF k is' ls' gs' bs' → PG (X.blk s H scope (compEnvC scope cl C X.env) fp) tg (RdG D w gown g))
    (ht : ∀ (s : Shared) (H : Hp) (C : Addr) (cl : List (Str × Addr)) (fp : List Addr), Sc (X.blk s H scope (compEnvC scope cl C X.env) fp) D w WxF k is' ls' gs' bs' → PTs (X.blk s H scope (compEnvC scope cl C X.env) fp) ifs (RdB D w WxF t))
    (he : ∀ (s : Shared) (H : Hp) (C : Addr) (cl : List (Str × Addr)) (fp : List Addr), Sc (X.blk s H scope (compEnvC scope cl C X.env) fp) D w WxF k is' ls' gs' bs' → PE (X.blk s H scope (compEnvC scope cl C X.env) fp) elt (RdE D w WxF m))
    (hs : ∀ x, foldedSetIterable iter X.env x = pure x) (hown : ∀ i ∈ gown, i ∈ own.map (·.2)) : PE X (.ListComp elt [⟨tg, iter, ifs, 0⟩] scope pos) (RdE D w Wx (mLc live i g t m (own.map (·.2)))) :=
  have q := Sc.blk c h rfl rfl hm
  xe_lc c.calm c.nd hi (blkOk_by hk) (fun s H C cl fp => hg s H C cl fp (q s H C cl fp)) (fun s H C cl fp => ht s H C cl fp (q s H C cl fp)) (fun s H C cl fp => he s H C cl fp (q s H C cl fp)) hs hown
theorem sLc {k : Nat} {is ls : List Nat} {gs bs : List Str} (c : Sc X D w Wx k is ls gs bs) {live : Bool} {j : Nat} {y : Str} {py spos : Pos} {elt tg iter : Expr} {ifs : List Expr} {scope : Scope} {own : List (Str × Nat)} {pos : Pos} {i : MI} {g : MG} {t : MB} {m : ME} {gown : List Nat} {is' ls' : List Nat} {gs' bs' : List Str}
    (hy : X.N[j]? = some y) (hk0 : X.env.scope.kind = .function) (hyl : X.env.scope.names.lookup y = some .local) (hl : (py.line == spos.line) = true) (hl2 : (py.line == pos.line) = true) (hya : (scope.names.any fun (n, k) => n == y && (k == .local || k == .cell)) = false)
    (h : scB false X.N (relS scope X.env.scope) is' ls' gs' bs' = true) (hm : ∀ x ∈ bs', X.mg x = none) (hk : blkC X.N X.env.scope scope own = true) (hi : PI X tg iter (RdI D w Wx i))
    (hg : ∀ (s : Shared) (H : Hp) (C : Addr) (cl : List (Str × Addr)) (fp : List Addr), Sc (X.blk s H scope (compEnvC scope cl C X.env) fp) D w WxF k is' ls' gs' bs' → PG (X.blk s H scope (compEnvC scope cl C X.env) fp) tg (RdG D w gown g))
    (ht : ∀ (s : Shared) (H : Hp) (C : Addr) (cl : List (Str × Addr)) (fp : List Addr), Sc (X.blk s H scope (compEnvC scope cl C X.env) fp) D w WxF k is' ls' gs' bs' → PTs (X.blk s H scope (compEnvC scope cl C X.env) fp) ifs (RdB D w WxF t))
    (he : ∀ (s : Shared) (H : Hp) (C : Addr) (cl : List (Str × Addr)) (fp : List Addr), Sc (X.blk s H scope (compEnvC scope cl C X.env) fp) D w WxF k is' ls' gs' bs' → PE (X.blk s H scope (compEnvC scope cl C X.env) fp) elt (RdE D w WxF m))
    (hs : ∀ x, foldedSetIterable iter X.env x = pure x) (hown : ∀ i ∈ gown, i ∈ own.map (·.2)) : PS X (.Assign [.Name y py] (.ListComp elt [⟨tg, iter, ifs, 0⟩] scope pos) spos) (RdS D w Wx (sAsg (mLc live i g t m (own.map (·.2))) (gN j))) :=
  have q := Sc.blk c h rfl rfl hm
  xs_setLc c.calm c.nd hy hyl (sw_true hk0 hyl hl2 hya) hi (blkOk_by hk) (fun s H C cl fp => hg s H C cl fp (q s H C cl fp)) (fun s H C cl fp => ht s H C cl fp (q s H C cl fp)) (fun s H C cl fp => he s H C cl fp (q s H C cl fp)) hs hown
theorem gs_nil : PGs X [] (gNames []) := pgs_nil
end
end HQ
namespace HQ
open PySem PySem.Spec PyProof.Rows L2
def bTys : List String := ["int", "bool", "str", "list", "tuple", "dict", "NoneType"]
/-- is a thing of this built-in type one of that -/
def ktB : TyC → TyC → Option Bool
  | .b n, .b m => if bTys.elem n = true ∧ bTys.elem m = true then some (n == m || (n == "bool" && m == "int")) else none
  | _, _ => none
theorem ktB_ok {K : PySem.W.Frag} {D : Ad} : KT K D ktB where
  one := fun a b r h => by
    cases a with
    | c _ => simp [ktB] at h
    | b n => cases b with
      | c _ => simp [ktB] at h
      | b m =>
        simp only [ktB] at h
        split at h
        · rename_i q
          obtain ⟨q1, q2⟩ := q
          simp only [Option.some.injEq] at h
          subst h
          simp only [bTys, List.elem_eq_mem, decide_eq_true_eq, List.mem_cons, List.not_mem_nil, or_false] at q1 q2
          rcases q1 with rfl | rfl | rfl | rfl | rfl | rfl | rfl <;> rcases q2 with rfl | rfl | rfl | rfl | rfl | rfl | rfl <;> kernel_rfl
        · cases h
  own := fun c b r h => by cases b <;> simp [ktB] at h
end HQ
/-! HQW: what an outcome is worth: rules for reading meanings, without any program. -/
namespace HQ
open PySem PySem.Spec PyProof.Rows L2

/-- the outcome is good: a value of which Q holds, or an exception of which X holds -/
def Wp {α : Type} (r : R α) (Q : α → Mem → Prop) (X : XV → Mem → Prop) : Prop := match r with
  | .ok a μ => Q a μ
  | .exc x μ => X x μ
  | .stuck => False
abbrev noX : XV → Mem → Prop := fun _ _ => False
abbrev noE : En → Mem → Prop := fun _ _ => False
abbrev noXS : XV → En → Mem → Prop := fun _ _ _ => False
/-- how a block may end: on, back, continue, break, an exception -/
def WpS (r : SR) (nx : En → Mem → Prop) (rt : W → Mem → Prop) (ct bk : En → Mem → Prop) (ex : XV → En → Mem → Prop) : Prop := match r with
  | .nx e μ => nx e μ
  | .rt u μ => rt u μ
  | .ct e μ => ct e μ
  | .bk e μ => bk e μ
  | .exc x e μ => ex x e μ
  | .stuck => False
section
variable {α β : Type} {Q Q' : α → Mem → Prop} {X X' : XV → Mem → Prop} {μ : Mem}
theorem Wp.imp {r : R α} (h : Wp r Q X) (q : ∀ a μ, Q a μ → Q' a μ) (x : ∀ v μ, X v μ → X' v μ) : Wp r Q' X' := by
  cases r with
  | ok a μ => exact q _ _ h
  | exc v μ => exact x _ _ h
  | stuck => exact h
theorem Wp.mono {r : R α} (h : Wp r Q noX) (q : ∀ a μ, Q a μ → Q' a μ) : Wp r Q' X := h.imp q fun _ _ h => h.elim
theorem Wp.eq {r : R α} {a : α} {μ : Mem} (h : Wp r (fun b ν => b = a ∧ ν = μ) noX) : r = .ok a μ := by
  cases r with
  | ok b ν => obtain ⟨rfl, rfl⟩ := h; rfl
  | exc v μ => exact h.elim
  | stuck => exact h.elim
theorem Wp.ex {r : R α} (h : Wp r Q noX) : ∃ a μ, r = .ok a μ ∧ Q a μ := by
  cases r with
  | ok b ν => exact ⟨b, ν, rfl, h⟩
  | exc v μ => exact h.elim
  | stuck => exact h.elim
theorem Wp.of {r : R α} {a : α} {μ : Mem} (e : r = .ok a μ) (q : Q a μ) : Wp r Q X := by rw [e]; exact q
theorem w_ok {a : α} (h : Q a μ) : Wp (.ok a μ) Q X := h
theorem w_bind {r : R β} {f : β → Mem → R α} (h : Wp r (fun a μ => Wp (f a μ) Q X) X) : Wp (r.bind f) Q X := by cases r <;> exact h
theorem w_if {c : Prop} [Decidable c] {a b : R α} (h : c ∧ Wp a Q X) : Wp (if c then a else b) Q X := by rw [if_pos h.1]; exact h.2
/-- an if of conditions -/
theorem p_ite {c : Prop} [Decidable c] {a b : Prop} (h1 : c → a) (h2 : ¬ c → b) : if c then a else b := by split <;> rename_i h; exact h1 h; exact h2 h
theorem p_iteB {c : Bool} {a b : Prop} (h1 : c = true → a) (h2 : c = false → b) : if c = true then a else b := by cases c; exact h2 rfl; exact h1 rfl
theorem p_iteT {a b : Prop} (h : a) : if true = true then a else b := h
theorem p_iteF {a b : Prop} (h : b) : if false = true then a else b := h
end
theorem p_iteNT {a b : Prop} (h : a) : if (!false) = true then a else b := h
theorem p_iteNF {a b : Prop} (h : b) : if (!true) = true then a else b := h
theorem p_B {c : Bool} {a b : Prop} (h1 : c = true → a) (h2 : c = false → b) : if c = true then a else b := p_iteB h1 h2
theorem p_N {c : Bool} {a b : Prop} (h1 : c = false → a) (h2 : c = true → b) : if (!c) = true then a else b := by cases c; exact h1 rfl; exact h2 rfl
theorem p_D {p : Prop} [Decidable p] {a b : Prop} (h1 : p → a) (h2 : ¬ p → b) : if decide p = true then a else b := by split <;> rename_i h; exact h1 (of_decide_eq_true h); exact h2 (fun q => h (decide_eq_true q))
theorem p_ND {p : Prop} [Decidable p] {a b : Prop} (h1 : ¬ p → a) (h2 : p → b) : if (!decide p) = true then a else b := p_N (fun h => h1 (of_decide_eq_false h)) fun h => h2 (of_decide_eq_true h)
theorem p_pos {c : Prop} [Decidable c] {a b : Prop} (hc : c) (h : a) : if c then a else b := by rw [if_pos hc]; exact h
theorem p_neg {c : Prop} [Decidable c] {a b : Prop} (hc : ¬ c) (h : b) : if c then a else b := by rw [if_neg hc]; exact h
theorem nT {b : Bool} (h : (if true = true then !b else b) = true) : b = false := by cases b <;> simp_all
theorem nF {b : Bool} (h : (if true = true then !b else b) = false) : b = true := by cases b <;> simp_all
theorem yT {b : Bool} (h : (if false = true then !b else b) = true) : b = true := by cases b <;> simp_all
theorem yF {b : Bool} (h : (if false = true then !b else b) = false) : b = false := by cases b <;> simp_all
theorem bT {b : Bool} (h : (!b) = true) : b = false := by cases b <;> simp_all
theorem bF {b : Bool} (h : (!b) = false) : b = true := by cases b <;> simp_all
section
variable {α : Type} {Q : W → Mem → Prop} {QB : Bool → Mem → Prop} {QA : List W → Mem → Prop} {X : XV → Mem → Prop} {e : En} {μ : Mem} {nx ct bk nx' ct' bk' : En → Mem → Prop} {rt rt' : W → Mem → Prop} {ex ex' : XV → En → Mem → Prop}
theorem WpS.imp {r : SR} (h : WpS r nx rt ct bk ex) (h1 : ∀ e μ, nx e μ → nx' e μ) (h2 : ∀ e μ, rt e μ → rt' e μ) (h3 : ∀ e μ, ct e μ → ct' e μ) (h4 : ∀ e μ, bk e μ → bk' e μ) (h5 : ∀ x e μ, ex x e μ → ex' x e μ) : WpS r nx' rt' ct' bk' ex' := by
  cases r with
  | nx e μ => exact h1 _ _ h
  | rt e μ => exact h2 _ _ h
  | ct e μ => exact h3 _ _ h
  | bk e μ => exact h4 _ _ h
  | exc x e μ => exact h5 _ _ _ h
  | stuck => exact h
theorem ws_seq {r : SR} {k : MS} (h : WpS r (fun e μ => WpS (k e μ) nx rt ct bk ex) rt ct bk ex) : WpS (r.seq k) nx rt ct bk ex := by cases r <;> exact h
theorem ws_st {r : R α} {k : α → Mem → SR} (h : Wp r (fun a μ => WpS (k a μ) nx rt ct bk ex) (fun x μ => ex x e μ)) : WpS (r.st e k) nx rt ct bk ex := by cases r <;> exact h
/-! expressions -/
theorem w_var {i : Nat} {u : W} {l : En} (h : l[i]? = some (some u)) (q : Q u μ) : Wp (mVar i l μ) Q X := by simp only [mVar, h]; exact q
theorem w_T {t : T} (q : Q (.t t) μ) : Wp (mT t e μ) Q X := q
theorem w_m2 {f : W → W → Mem → R W} {a b : ME} (h : Wp (a e μ) (fun u μ1 => Wp (b e μ1) (fun v μ2 => Wp (f u v μ2) Q X) X) X) : Wp (m2 f a b e μ) Q X := w_bind (h.imp (fun _ _ h => w_bind h) fun _ _ h => h)
theorem w_m1 {f : W → Mem → R W} {a : ME} (h : Wp (a e μ) (fun u μ1 => Wp (f u μ1) Q X) X) : Wp (m1 f a e μ) Q X := w_bind h
theorem w_mA {f : List W → Mem → R W} {a : MA} (h : Wp (a e μ) (fun u μ1 => Wp (f u μ1) Q X) X) : Wp (mA f a e μ) Q X := w_bind h
theorem w_bOf {a : ME} (h : Wp (a e μ) (fun u μ1 => Wp (asB u μ1) QB X) X) : Wp (bOf a e μ) QB X := w_bind h
theorem w_asB {b : Bool} (h : QB b μ) : Wp (asB (.t (.bl b)) μ) QB X := h
theorem w_bNot {t : MB} (h : Wp (t e μ) (fun b μ1 => QB (!b) μ1) X) : Wp (bNot t e μ) QB X := w_bind h
theorem w_bAnd {a b : MB} (h : Wp (a e μ) (fun c μ1 => if c = true then Wp (b e μ1) QB X else QB false μ1) X) : Wp (bAnd a b e μ) QB X := w_bind (h.imp (fun c _ h => by cases c <;> exact h) fun _ _ h => h)
theorem w_bOr {a b : MB} (h : Wp (a e μ) (fun c μ1 => if c = true then QB true μ1 else Wp (b e μ1) QB X) X) : Wp (bOr a b e μ) QB X := w_bind (h.imp (fun c _ h => by cases c <;> exact h) fun _ _ h => h)
theorem w_bYes (h : QB true μ) : Wp (bYes e μ) QB X := h
theorem w_andV {a b : ME} (h : Wp (a e μ) (fun u μ1 => Wp (asB u μ1) (fun c μ1 => if c = true then Wp (b e μ1) Q X else Q (.t (.bl false)) μ1) X) X) : Wp (mAndV a b e μ) Q X := w_bind (w_bOf (h.imp (fun u _ h => h.imp (fun c _ h => by cases c <;> exact h) fun _ _ h => h) fun _ _ h => h))
theorem w_orV {a b : ME} (h : Wp (a e μ) (fun u μ1 => Wp (asB u μ1) (fun c μ1 => if c = true then Q (.t (.bl true)) μ1 else Wp (b e μ1) Q X) X) X) : Wp (mOrV a b e μ) Q X := w_bind (w_bOf (h.imp (fun u _ h => h.imp (fun c _ h => by cases c <;> exact h) fun _ _ h => h) fun _ _ h => h))
theorem w_notV {a : ME} (h : Wp (a e μ) (fun u μ1 => Wp (asB u μ1) (fun c μ1 => Q (.t (.bl (!c))) μ1) X) X) : Wp (mNotV a e μ) Q X := w_bind (w_bOf h)
theorem w_mIf {t : MB} {a b : ME} (h : Wp (t e μ) (fun c μ1 => if c = true then Wp (a e μ1) Q X else Wp (b e μ1) Q X) X) : Wp (mIf t a b e μ) Q X := w_bind (h.imp (fun c _ h => by cases c <;> exact h) fun _ _ h => h)
theorem w_aNil (h : QA [] μ) : Wp (aNil e μ) QA X := h
theorem w_aCons {a : ME} {as : MA} (h : Wp (a e μ) (fun u μ1 => Wp (as e μ1) (fun us μ2 => QA (u :: us) μ2) X) X) : Wp (aCons a as e μ) QA X := w_bind (h.imp (fun _ _ h => w_bind h) fun _ _ h => h)
theorem w_mTup {as : MA} (h : Wp (as e μ) (fun us μ1 => us.length ≤ bigL ∧ Q (mkTup us) μ1) X) : Wp (mTup as e μ) Q X := w_bind (h.imp (fun _ _ h => w_if h) fun _ _ h => h)
theorem w_mLst {live : Bool} {as : MA} (h : Wp (as e μ) (fun us μ1 => us.length ≤ bigL ∧ Wp (mkL live us μ1) Q X) X) : Wp (mLst live as e μ) Q X := w_bind (h.imp (fun _ _ h => w_if h) fun _ _ h => h)
theorem w_mM1 {f : Str → W → Mem → R W} {a b : ME} (h : Wp (a e μ) (fun u μ1 => ∃ x, u = .t (.str x) ∧ Wp (b e μ1) (fun v μ2 => Wp (f x v μ2) Q X) X) X) : Wp (mM1 f a b e μ) Q X :=
  w_bind (h.imp (fun _ _ ⟨x, e, h⟩ => by subst e; exact w_bind h) fun _ _ h => h)
theorem w_mChain {f g : W → W → Mem → R W} {a b c : ME} (h : Wp (a e μ) (fun u μ1 => Wp (b e μ1) (fun v μ2 => Wp (f u v μ2) (fun z μ3 => Wp (asB z μ3) (fun k μ3 => if k = true then Wp (c e μ3) (fun d μ4 => Wp (g v d μ4) Q X) X else Q (.t (.bl false)) μ3) X) X) X) X) : Wp (mChain f g a b c e μ) Q X :=
  w_bind (h.imp (fun u _ h => w_bind (h.imp (fun v _ h => w_bind (h.imp (fun z _ h => by
    cases z with
    | t t =>
      cases t <;> first | exact h.elim | skip
      rename_i k
      cases k
      · exact h
      · exact w_bind h
    | ref n => exact h.elim
    | tup ws => exact h.elim) fun _ _ h => h)) fun _ _ h => h)) fun _ _ h => h)
theorem w_oNone {Q : Option Int → Mem → Prop} (h : Q none μ) : Wp (oNone e μ) Q X := h
theorem w_oSome {Q : Option Int → Mem → Prop} {m : ME} (h : Wp (m e μ) (fun u μ1 => ∃ i, u = .t (.int i) ∧ Q (some i) μ1) X) : Wp (oSome m e μ) Q X := w_bind (h.imp (fun _ _ ⟨x, e, h⟩ => by subst e; exact h) fun _ _ h => h)
theorem w_mSl {live : Bool} {m : ME} {lo hi : MO} (h : Wp (m e μ) (fun u μ1 => Wp (lo e μ1) (fun l μ2 => Wp (hi e μ2) (fun h μ3 => Wp (fSl live u l h μ3) Q X) X) X) X) : Wp (mSl live m lo hi e μ) Q X := w_bind (h.imp (fun _ _ h => w_bind (h.imp (fun _ _ h => w_bind h) fun _ _ h => h)) fun _ _ h => h)
theorem w_mDic1 {a b : ME} (h : Wp (a e μ) (fun u μ1 => Wp (b e μ1) (fun v μ2 => Wp (dic1 u v μ2) Q X) X) X) : Wp (mDic1 a b e μ) Q X := w_bind (h.imp (fun _ _ h => w_bind h) fun _ _ h => h)
/-! operations -/
theorem w_iop {C : Int → Int → Bool} {g : Int → Int → T} {i j : Int} (c : C i j = true) (h : Q (.t (g i j)) μ) : Wp (iop C g (.t (.int i)) (.t (.int j)) μ) Q X := by simp only [iop, if_pos c]; exact h
theorem w_sub {i j : Int} (h : Q (.t (.int (i - j))) μ) : Wp (fSub (.t (.int i)) (.t (.int j)) μ) Q X := w_iop rfl h
theorem w_mod {i j : Int} (c : 0 < j) (h : Q (.t (.int (i % j))) μ) : Wp (fMod (.t (.int i)) (.t (.int j)) μ) Q X := w_iop (decide_eq_true c) h
theorem log2_lt {i : Int} {k : Nat} (h : i.natAbs < 2 ^ (k + 1)) : i.natAbs.log2 ≤ k := by
  by_cases e : i.natAbs = 0
  · rw [e]; simp
  · have := (Nat.log2_lt e).mpr h
    omega
theorem w_div {i j : Int} (c : 0 < j) (c2 : j < 2 ^ 200) (h : Q (.t (.int (i / j))) μ) : Wp (fDiv (.t (.int i)) (.t (.int j)) μ) Q X := w_iop (by
  have := @log2_lt j 200 (by omega)
  simp only [cDiv, Bool.and_eq_true, decide_eq_true_eq]; omega) h
theorem cmul_of {i j : Int} (h1 : i.natAbs < 2 ^ 200) (h2 : j.natAbs < 2 ^ 200) : cMul i j = true := by
  have := @log2_lt i 200 (by omega)
  have := @log2_lt j 200 (by omega)
  simp only [cMul, decide_eq_true_eq]; omega
theorem w_pow {i j : Int} (c : 0 ≤ j ∧ j ≤ 1000000 ∧ i.natAbs < 2 ^ 64) (h : Q (.t (.int (i ^ j.toNat))) μ) : Wp (fPow (.t (.int i)) (.t (.int j)) μ) Q X := w_iop (decide_eq_true c) h
theorem w_addI {l : Bool} {i j : Int} (h : Q (.t (.int (i + j))) μ) : Wp (fAdd l (.t (.int i)) (.t (.int j)) μ) Q X := h
theorem w_addS {l : Bool} {i j : Str} (c : i.length + j.length ≤ bigL) (h : Q (.t (.str (i ++ j))) μ) : Wp (fAdd l (.t (.str i)) (.t (.str j)) μ) Q X := w_if ⟨c, h⟩
theorem w_addL {l : Bool} {a b : List T} (c : a.length + b.length ≤ bigL) (h : Wp (mkL l ((a ++ b).map .t) μ) Q X) : Wp (fAdd l (.t (.lst a)) (.t (.lst b)) μ) Q X := by
  show Wp (if (a.map W.t).length + (b.map W.t).length ≤ bigL then mkL l (a.map .t ++ b.map .t) μ else .stuck) Q X
  rw [← List.map_append]
  exact w_if ⟨by simpa using c, h⟩
theorem w_mulI {l : Bool} {i j : Int} (c : cMul i j = true) (h : Q (.t (.int (i * j))) μ) : Wp (fMul l (.t (.int i)) (.t (.int j)) μ) Q X := w_if ⟨c, h⟩
theorem w_neg {i : Int} (h : Q (.t (.int (-i))) μ) : Wp (fNeg (.t (.int i)) μ) Q X := h
theorem w_gt {i j : Int} (h : Q (.t (.bl (decide (j < i)))) μ) : Wp (fGt (.t (.int i)) (.t (.int j)) μ) Q X := h
theorem w_ge {i j : Int} (h : Q (.t (.bl (decide (j ≤ i)))) μ) : Wp (fGe (.t (.int i)) (.t (.int j)) μ) Q X := h
theorem w_lt {i j : Int} (h : Q (.t (.bl (decide (i < j)))) μ) : Wp (fLt (.t (.int i)) (.t (.int j)) μ) Q X := h
theorem w_le {i j : Int} (h : Q (.t (.bl (decide (i ≤ j)))) μ) : Wp (fLe (.t (.int i)) (.t (.int j)) μ) Q X := h
theorem w_leS {i j : Str} (h : Q (.t (.bl (!decide (j.cps.toList < i.cps.toList)))) μ) : Wp (fLe (.t (.str i)) (.t (.str j)) μ) Q X := h
theorem w_isN {a : W} (h : Q (.t (.bl (isNonW a))) μ) : Wp (fIsN false a (.t .non) μ) Q X := h
theorem w_isNn {a : W} (h : Q (.t (.bl (!isNonW a))) μ) : Wp (fIsN true a (.t .non) μ) Q X := h
theorem w_eqI {i j : Int} (h : Q (.t (.bl (decide (i = j)))) μ) : Wp (fEq false (.t (.int i)) (.t (.int j)) μ) Q X := h
theorem w_neI {i j : Int} (h : Q (.t (.bl (!decide (i = j)))) μ) : Wp (fEq true (.t (.int i)) (.t (.int j)) μ) Q X := h
theorem w_eqB {i j : Bool} (h : Q (.t (.bl (decide (i = j)))) μ) : Wp (fEq false (.t (.bl i)) (.t (.bl j)) μ) Q X := h
theorem w_neB {i j : Bool} (h : Q (.t (.bl (!decide (i = j)))) μ) : Wp (fEq true (.t (.bl i)) (.t (.bl j)) μ) Q X := h
theorem w_eqS {i j : Str} (h : Q (.t (.bl (decide (i = j)))) μ) : Wp (fEq false (.t (.str i)) (.t (.str j)) μ) Q X := h
theorem w_neS {i j : Str} (h : Q (.t (.bl (!decide (i = j)))) μ) : Wp (fEq true (.t (.str i)) (.t (.str j)) μ) Q X := h
theorem w_eq {u v : W} {b : Bool} (c : eqW u v μ = some b) (h : Q (.t (.bl b)) μ) : Wp (fEq false u v μ) Q X := by simp only [fEq, c]; exact h
theorem w_ne {u v : W} {b : Bool} (c : eqW u v μ = some b) (h : Q (.t (.bl (!b))) μ) : Wp (fEq true u v μ) Q X := by simp only [fEq, c]; exact h
theorem w_in {u v : W} {b : Bool} (c : inW u v μ = some b) (h : Q (.t (.bl b)) μ) : Wp (fIn false u v μ) Q X := by simp only [fIn, c]; exact h
theorem w_nin {u v : W} {b : Bool} (c : inW u v μ = some b) (h : Q (.t (.bl (!b))) μ) : Wp (fIn true u v μ) Q X := by simp only [fIn, c]; exact h
theorem w_len_str {z : Str} (c : z.length ≤ bigL) (h : Q (.t (.int z.length)) μ) : Wp (fLen [.t (.str z)] μ) Q X := w_if ⟨c, h⟩
theorem w_len_L {u : W} {ws : List W} (c : getL u μ = some ws) (h : Q (.t (.int ws.length)) μ) : Wp (fLen [u] μ) Q X := by
  unfold fLen
  split
  · rename_i e; cases e; simp [getL, getLT] at c
  · rename_i u' e; cases e; simp only [c]; exact h
  · rename_i q1 q2; exact absurd rfl (q2 u)
theorem w_len_T {u : W} {ws : List W} (c : getT u = some ws) (h : Q (.t (.int ws.length)) μ) : Wp (fLen [u] μ) Q X := by
  cases u with
  | t t =>
    cases t <;> simp [getT] at c
    subst c
    exact h
  | ref n => simp [getT] at c
  | tup ws' =>
    simp [getT] at c
    subst c
    exact h
theorem w_ix_L {u : W} {ws : List W} {i : Int} {x : W} (c : getL u μ = some ws) (hx : atI ws i = some x) (h : Q x μ) : Wp (fIdx u (.t (.int i)) μ) Q X := by
  unfold fIdx
  simp only
  split
  · simp [getL, getLT] at c
  · simp only [c, hx]; exact h
theorem w_ix_T {u : W} {ws : List W} {i : Int} {x : W} (c : getT u = some ws) (hx : atI ws i = some x) (h : Q x μ) : Wp (fIdx u (.t (.int i)) μ) Q X := by
  cases u with
  | t t =>
    cases t <;> simp [getT] at c
    subst c
    simp only [fIdx, getL, getLT, getT, hx]; exact h
  | ref n => simp [getT] at c
  | tup ws' =>
    simp [getT] at c
    subst c
    simp only [fIdx, getL, getLT, getT, hx]; exact h
theorem w_ix_S {z : Str} {i : Int} {c : Nat} (hx : atI z.cps.toList i = some c) (hl : z.length ≤ bigL) (h : Q (.t (.str ⟨#[c]⟩)) μ) : Wp (fIdx (.t (.str z)) (.t (.int i)) μ) Q X := by
  simp only [fIdx, hx, hl, if_true]; exact h
theorem getL_at {n : Nat} {ws : List W} (h : μ[n]? = some (.lst ws)) : getL (.ref n) μ = some ws := by simp only [getL, getLT, h]
theorem w_mkLl {ws : List W} (h : Q (.ref μ.length) (μ ++ [.lst ws])) : Wp (mkL true ws μ) Q X := h
theorem w_mkL {ws : List W} {ts : List T} (c : toTs ws = some ts) (h : Q (.t (.lst ts)) μ) : Wp (mkL false ws μ) Q X := by simp only [mkL, c]; exact h
theorem mkTup_of {ws : List W} {ts : List T} (c : toTs ws = some ts) : mkTup ws = .t (.tup ts) := by simp only [mkTup, c]
theorem w_max {i j : Int} (h : Q (.t (.int (if j > i then j else i))) μ) : Wp (fMax [.t (.int i), .t (.int j)] μ) Q X := h
theorem w_min {i j : Int} (h : Q (.t (.int (if j < i then j else i))) μ) : Wp (fMin [.t (.int i), .t (.int j)] μ) Q X := h
theorem w_intI {i : Int} (h : Q (.t (.int i)) μ) : Wp (fInt [.t (.int i)] μ) Q X := h
theorem w_intB {b : Bool} (h : Q (.t (.int (if b = true then 1 else 0))) μ) : Wp (fInt [.t (.bl b)] μ) Q X := h
theorem w_intS {x : Str} {n : Int} (c : PySem.intText? x = some n) (hl : x.length ≤ 640) (h : Q (.t (.int n)) μ) : Wp (fInt [.t (.str x)] μ) Q X := by simp only [fInt, c, hl, if_true]; exact h
theorem w_strI {i : Int} (c : i.natAbs < 2 ^ 1900) (h : Q (.t (.str (toString i))) μ) : Wp (fStr [.t (.int i)] μ) Q X := w_if ⟨by have := @log2_lt i 1899 c; omega, h⟩
theorem w_isi {kt : TyC → TyC → Option Bool} {u : W} {t : T} {a b : TyC} {r : Bool} (h1 : tyW u μ = some a) (h2 : tyOf1 t = some b) (h3 : kt a b = some r) (h : Q (.t (.bl r)) μ) : Wp (fIsi kt [u, .t t] μ) Q X := by
  unfold fIsi
  split
  · rename_i e; cases e; simp [tyOf1] at h2
  · rename_i e; cases e; simp only [h1, h2, h3]; exact h
  · rename_i q; exact absurd rfl (q u t)
/-! calls -/
theorem w_call {f : MF} {n : Nat} {us : List W} (c : us.length = n) (h : Wp (f us μ) Q X) : Wp (callF f n [] false us μ) Q X := by
  simp only [callF, List.map_nil, List.append_nil, c, if_true, Bool.false_eq_true, if_false]; exact h
theorem w_pure {f : MF} {n : Nat} {us : List W} {ts : List T} {t : T} (hn : us.length = n) (hs : toTs us = some ts) (c : Wp (f us []) (fun u _ => u = .t t) noX) (h : Q (.t t) μ) : Wp (callF f n [] true us μ) Q X := by
  obtain ⟨a, ν, e, rfl⟩ := c.ex
  simp only [callF, List.map_nil, List.append_nil, hn, if_true, pureF, hs, e]; exact h
/-! statements -/
theorem ws_nil (h : nx e μ) : WpS (sNil e μ) nx rt ct bk ex := h
theorem ws_sSeq {a b : MS} (h : WpS (a e μ) (fun e μ => WpS (b e μ) nx rt ct bk ex) rt ct bk ex) : WpS (sSeq a b e μ) nx rt ct bk ex := ws_seq h
theorem ws_ex {m : ME} (h : Wp (m e μ) (fun _ μ1 => nx e μ1) (fun x μ => ex x e μ)) : WpS (sEx m e μ) nx rt ct bk ex := ws_st h
theorem ws_ret {m : ME} (h : Wp (m e μ) (fun u μ1 => rt u μ1) (fun x μ => ex x e μ)) : WpS (sRet m e μ) nx rt ct bk ex := ws_st h
theorem ws_retN (h : rt (.t .non) μ) : WpS (sRetN e μ) nx rt ct bk ex := h
theorem ws_if {t : MB} {a b : MS} (h : Wp (t e μ) (fun c μ1 => if c = true then WpS (a e μ1) nx rt ct bk ex else WpS (b e μ1) nx rt ct bk ex) (fun x μ => ex x e μ)) : WpS (sIf t a b e μ) nx rt ct bk ex := ws_st (h.imp (fun c _ h => by cases c <;> exact h) fun _ _ h => h)
theorem ws_cont (h : ct e μ) : WpS (sCont e μ) nx rt ct bk ex := h
theorem ws_brk (h : bk e μ) : WpS (sBrk e μ) nx rt ct bk ex := h
theorem ws_asgN {m : ME} {i : Nat} (h : Wp (m e μ) (fun u μ1 => nx (e.set i (some u)) μ1) (fun x μ => ex x e μ)) : WpS (sAsg m (gN i) e μ) nx rt ct bk ex := ws_st h
theorem ws_asgT {m : ME} {is : List Nat} (h : Wp (m e μ) (fun u μ1 => ∃ e', gT is u e μ1 = some e' ∧ nx e' μ1) (fun x μ => ex x e μ)) : WpS (sAsg m (gT is) e μ) nx rt ct bk ex := ws_st (h.imp (fun u μ ⟨e', c, h⟩ => by simp only [c]; exact h) fun _ _ h => h)
theorem ws_setL {a b c : ME} (h : Wp (a e μ) (fun v μ1 => Wp (b e μ1) (fun o μ2 => Wp (c e μ2) (fun i μ3 => ∃ μ4, setL o i v μ3 = some μ4 ∧ nx e μ4) (fun x μ => ex x e μ)) (fun x μ => ex x e μ)) (fun x μ => ex x e μ)) : WpS (sSetL a b c e μ) nx rt ct bk ex :=
  ws_st (h.imp (fun _ _ h => ws_st (h.imp (fun _ _ h => ws_st (h.imp (fun _ _ ⟨_, c, h⟩ => by simp only [c]; exact h) fun _ _ h => h)) fun _ _ h => h)) fun _ _ h => h)
theorem setL_at {n : Nat} {ws : List W} {k : Int} {j : Nat} {v : W} (h : μ[n]? = some (.lst ws)) (hk : ixN ws.length k = some j) : setL (.ref n) (.t (.int k)) v μ = some (μ.set n (.lst (ws.set j v))) := by simp only [setL, h, hk]
/-- a def, by its body -/
theorem w_run {L n : Nat} {b : MS} {us : List W} (hn : us.length = n) (h : WpS (b (us.map some ++ List.replicate (L - n) none) μ) (fun _ ν => Wp (fin μ.length (.t .non) ν) Q X) (fun u ν => Wp (fin μ.length u ν) Q X) noE noE (fun x _ ν => X x ν)) : Wp (runF L n b us μ) Q X := by
  unfold runF
  rw [if_pos hn]
  cases q : b (us.map some ++ List.replicate (L - n) none) μ <;> rw [q] at h <;> exact h
theorem w_fin {n : Nat} {u : W} {ν : Mem} (c : ν.length ≤ n) (h : Q u ν) : Wp (fin n u ν) Q X := by unfold fin; rw [if_pos c]; exact h
/-! loops -/
/-- a for: I at the turn i -/
theorem w_loop {gd : Mem → Prop} {g : MG} {b : MS} {ys : List W} (I : Nat → En → Mem → Prop) (h0 : I 0 e μ) (hg : ∀ i e μ, I i e μ → gd μ)
    (hs : ∀ i y e μ, ys[i]? = some y → I i e μ → ∃ e1, g y e μ = some e1 ∧ WpS (b e1 μ) (I (i + 1)) rt (I (i + 1)) nx ex) (hd : ∀ e μ, I ys.length e μ → nx e μ) : WpS (loopM gd g b ys e μ) nx rt ct bk ex := by
  have key : ∀ (m i : Nat) e μ, i + m = ys.length → I i e μ → WpS (loopM gd g b (ys.drop i) e μ) nx rt ct bk ex := by
    intro m
    induction m with
    | zero =>
      intro i e μ hi h
      rw [List.drop_eq_nil_of_le (by omega)]
      unfold loopM
      rw [if_pos (hg _ _ _ h)]
      exact hd _ _ (by rw [← hi]; exact h)
    | succ m ih =>
      intro i e μ hi h
      have hl : i < ys.length := by omega
      rw [List.drop_eq_getElem_cons hl]
      unfold loopM
      rw [if_pos (hg _ _ _ h)]
      obtain ⟨e1, q, hb⟩ := hs i ys[i] e μ (List.getElem?_eq_getElem hl) h
      simp only [q]
      cases q2 : b e1 μ with
      | nx e2 μ2 => rw [q2] at hb; exact ih (i + 1) e2 μ2 (by omega) hb
      | ct e2 μ2 => rw [q2] at hb; exact ih (i + 1) e2 μ2 (by omega) hb
      | bk e2 μ2 => rw [q2] at hb; exact hb
      | rt u μ2 => rw [q2] at hb; exact hb
      | exc x e2 μ2 => rw [q2] at hb; exact hb
      | stuck => rw [q2] at hb; exact hb
  have := key ys.length 0 e μ (by omega) h0
  simpa using this
theorem ws_for {i : MI} {g : MG} {b : MS} (h : Wp (i e μ) (fun k μ1 => WpS (loopM k.gd g b k.ys e μ1) nx rt ct bk ex) (fun x μ => ex x e μ)) : WpS (sFor i g b e μ) nx rt ct bk ex := ws_st h
section
variable {QK : WK → Mem → Prop}
theorem w_iVal {m : ME} (h : Wp (m e μ) (fun u μ1 => Wp (kVal u μ1) QK X) X) : Wp (iVal m e μ) QK X := w_bind h
theorem w_kStr {z : Str} (c : z.length ≤ bigL) (h : QK ⟨always, z.cps.toList.map fun c => .t (.str ⟨#[c]⟩)⟩ μ) : Wp (kVal (.t (.str z)) μ) QK X := w_if ⟨by simpa [Str.length] using c, h⟩
theorem w_kL {u : W} {ws : List W} (c : getL u μ = some ws) (hl : ws.length ≤ bigL) (h : QK ⟨fun μ => getL u μ = some ws, ws⟩ μ) : Wp (kVal u μ) QK X := by
  unfold kVal
  split
  · simp [getL, getLT] at c
  · simp only [c]; exact w_if ⟨hl, h⟩
theorem w_kT {u : W} {ws : List W} (c : getT u = some ws) (hl : ws.length ≤ bigL) (h : QK ⟨always, ws⟩ μ) : Wp (kVal u μ) QK X := by
  cases u with
  | t t =>
    cases t <;> simp [getT] at c
    subst c
    simp only [kVal, getL, getLT, getT]; exact w_if ⟨hl, h⟩
  | ref n => simp [getT] at c
  | tup ws' =>
    simp [getT] at c
    subst c
    simp only [kVal, getL, getLT, getT]; exact w_if ⟨hl, h⟩
theorem w_rg {lo hi : Int} (c : -(2 ^ 62) ≤ lo ∧ lo < 2 ^ 62 ∧ -(2 ^ 62) ≤ hi ∧ hi < 2 ^ 62) (hl : (hi - lo).toNat ≤ bigL) (h : QK ⟨always, (List.range (hi - lo).toNat).map fun i => .t (.int (lo + (i : Nat)))⟩ μ) : Wp (rgW lo hi μ) QK X := w_if ⟨c, w_if ⟨by simpa using hl, h⟩⟩
theorem w_iR1 {ms : MA} (h : Wp (ms e μ) (fun us μ1 => ∃ j, us = [.t (.int j)] ∧ Wp (rgW 0 j μ1) QK X) X) : Wp (iR1 ms e μ) QK X := w_bind (h.imp (fun _ _ ⟨j, e, h⟩ => by subst e; exact h) fun _ _ h => h)
theorem w_iR2 {ms : MA} (h : Wp (ms e μ) (fun us μ1 => ∃ i j, us = [.t (.int i), .t (.int j)] ∧ Wp (rgW i j μ1) QK X) X) : Wp (iR2 ms e μ) QK X := w_bind (h.imp (fun _ _ ⟨i, j, e, h⟩ => by subst e; exact h) fun _ _ h => h)
theorem w_iEnu {ms : MA} (h : Wp (ms e μ) (fun us μ1 => Wp (kEnu us μ1) QK X) X) : Wp (iEnu ms e μ) QK X := w_bind h
theorem w_kEnuS {z : Str} (c : z.length ≤ bigL) (h : QK ⟨always, pairs (z.cps.toList.map fun c => .t (.str ⟨#[c]⟩))⟩ μ) : Wp (kEnu [.t (.str z)] μ) QK X := w_if ⟨by rw [pairs_len]; simpa [Str.length] using c, h⟩
theorem w_kEnuL {u : W} {ws : List W} (c : getL u μ = some ws) (hl : ws.length ≤ bigL) (h : QK ⟨fun μ => getL u μ = some ws, pairs ws⟩ μ) : Wp (kEnu [u] μ) QK X := by
  unfold kEnu
  split
  · rename_i e; cases e; simp [getL, getLT] at c
  · rename_i e; cases e; simp only [c]; exact w_if ⟨by rw [pairs_len]; exact hl, h⟩
  · rename_i q; exact absurd rfl (q u)
end
/-- a list comprehension: J at the turn i, with the list so far -/
theorem w_lcM {gd : Mem → Prop} {g : MG} {t : MB} {m : ME} {ys : List W} {Q : List W → Mem → Prop} (J : Nat → List W → Mem → Prop) (h0 : J 0 [] μ) (hg : ∀ i acc μ, J i acc μ → gd μ)
    (hs : ∀ i y acc μ, ys[i]? = some y → J i acc μ → ∃ e1, g y e μ = some e1 ∧ Wp (t e1 μ) (fun c μ1 => if c = true then Wp (m e1 μ1) (fun u μ2 => J (i + 1) (acc ++ [u]) μ2) noX else J (i + 1) acc μ1) noX) (hd : ∀ acc μ, J ys.length acc μ → Q acc μ) : Wp (lcM gd g t m e ys [] μ) Q X := by
  have key : ∀ (k i : Nat) acc μ, i + k = ys.length → J i acc μ → Wp (lcM gd g t m e (ys.drop i) acc μ) Q X := by
    intro k
    induction k with
    | zero =>
      intro i acc μ hi h
      rw [List.drop_eq_nil_of_le (by omega), lcM_nil, if_pos (hg _ _ _ h)]
      exact hd _ _ (by rw [← hi]; exact h)
    | succ k ih =>
      intro i acc μ hi h
      have hl : i < ys.length := by omega
      rw [List.drop_eq_getElem_cons hl, lcM_cons, if_pos (hg _ _ _ h)]
      obtain ⟨e1, q, hb⟩ := hs i ys[i] acc μ (List.getElem?_eq_getElem hl) h
      simp only [q]
      obtain ⟨c, μ1, q2, hb⟩ := hb.ex
      simp only [q2]
      cases c with
      | false => exact ih (i + 1) acc μ1 (by omega) hb
      | true =>
        obtain ⟨u, μ2, q3, hb⟩ := hb.ex
        simp only [q3]
        exact ih (i + 1) _ μ2 (by omega) hb
  have := key ys.length 0 [] μ (by omega) h0
  simpa using this
theorem w_mLc {live : Bool} {i : MI} {g : MG} {t : MB} {m : ME} {own : List Nat} (h : Wp (i e μ) (fun k μ1 => k.ys.length ≤ bigL ∧ Wp (lcM k.gd g t m (wipeE e own) k.ys [] μ1) (fun ws μ2 => Wp (mkL live ws μ2) Q X) X) X) : Wp (mLc live i g t m own e μ) Q X := w_bind (h.imp (fun _ _ h => w_if ⟨h.1, w_bind h.2⟩) fun _ _ h => h)
/-- a while, by a measure -/
theorem w_while {t : MB} {b : MS} {n : Nat} (I : Nat → En → Mem → Prop) {m : Nat} (hm : m < n) (h0 : I m e μ)
    (hs : ∀ m e μ, I m e μ → Wp (t e μ) (fun c μ1 => if c = true then WpS (b e μ1) (fun e2 μ2 => ∃ m2, m2 < m ∧ I m2 e2 μ2) rt (fun e2 μ2 => ∃ m2, m2 < m ∧ I m2 e2 μ2) nx ex else nx e μ1) (fun x μ => ex x e μ)) : WpS (whM t b n e μ) nx rt ct bk ex := by
  induction n generalizing m e μ with
  | zero => omega
  | succ n ih =>
    refine ws_st ((hs m e μ h0).imp (fun c μ1 h => ?_) fun _ _ h => h)
    cases c with
    | false => exact h
    | true =>
      have h : WpS (b e μ1) _ _ _ _ _ := h
      show WpS (match b e μ1 with
        | .nx e2 μ2 => whM t b n e2 μ2
        | .ct e2 μ2 => whM t b n e2 μ2
        | .bk e2 μ2 => .nx e2 μ2
        | r => r) nx rt ct bk ex
      cases q : b e μ1 with
      | nx e2 μ2 => rw [q] at h; obtain ⟨m2, hlt, hI⟩ := h; exact ih (by omega) hI
      | ct e2 μ2 => rw [q] at h; obtain ⟨m2, hlt, hI⟩ := h; exact ih (by omega) hI
      | bk e2 μ2 => rw [q] at h; exact h
      | rt u μ2 => rw [q] at h; exact h
      | exc x e2 μ2 => rw [q] at h; exact h
      | stuck => rw [q] at h; exact h
end
end HQ
/-! HQH: the head: what the top leaves, by facts of one's own. -/
namespace HQ
open PySem PySem.Spec PyProof.Rows L2
/-! ### the part of the heap that the names reach -/
/-- a set of numbers, by their bits -/
inductive PT where
  | nil
  | node (b : Bool) (l r : PT)
def PT.has : PT → Nat → Bool
  | .nil, _ => false
  | .node b l r, i => match Nat.beq i 0 with
    | true => b
    | false => match Nat.beq (i % 2) 1 with
      | true => l.has (i / 2)
      | false => r.has (i / 2 - 1)
def PT.ins (f : Nat) : PT → Nat → PT := match f with
  | 0 => fun t _ => t
  | f + 1 => fun t i => match t with
    | .nil => match Nat.beq i 0 with
      | true => .node true .nil .nil
      | false => match Nat.beq (i % 2) 1 with
        | true => .node false (PT.ins f .nil (i / 2)) .nil
        | false => .node false .nil (PT.ins f .nil (i / 2 - 1))
    | .node b l r => match Nat.beq i 0 with
      | true => .node true l r
      | false => match Nat.beq (i % 2) 1 with
        | true => .node b (PT.ins f l (i / 2)) r
        | false => .node b l (PT.ins f r (i / 2 - 1))
/-- a walk over the objects: each once, so deep -/
def reachGo (g : Addr → Option Obj) : Nat → List (Addr × Nat) → PT → List Addr → List Addr
  | 0, _, _, acc => acc
  | _, [], _, acc => acc
  | n + 1, (a, d) :: r, t, acc => match t.has a with
    | true => reachGo g n r t acc
    | false => match g a with
      | some o => match d with
        | 0 => reachGo g n r (t.ins 64 a) (a :: acc)
        | d + 1 => reachGo g n (((He.refsD o).map fun b => (b, d)) ++ r) (t.ins 64 a) (a :: acc)
      | none => reachGo g n r t acc
/-- a global name's object -/
def globAt (g : Addr → Option Obj) (es : List DictEntry) (x : Str) : List Addr := match es with
  | [] => []
  | e :: r => match e.key with
    | .str y _ => if y = x then He.refV e.val else globAt g r x
    | _ => globAt g r x
def reach (names : List Str) (depth : Nat) (g : Addr → Option Obj) : List Addr := match g mainGlobals with
  | some ⟨_, _, .dict es _, _⟩ => mainGlobals :: reachGo g 20000 ((names.flatMap fun x => globAt g es.toList x).map fun a => (a, depth)) .nil []
  | _ => []
theorem mem_look : ∀ {K : PySem.W.Frag} {a : Addr} {o : Obj}, K.lookup a = some o → (a, o) ∈ K
  | [], _, _, h => by cases h
  | (b, u) :: K, a, o, h => by
    rw [List.lookup_cons] at h
    cases q : a == b with
    | true => rw [q] at h; cases h; rw [beq_iff_eq.mp q]; exact List.mem_cons_self
    | false => rw [q] at h; exact List.mem_cons_of_mem _ (mem_look h)
/-- no list stands there -/
def noLst (K : PySem.W.Frag) : Bool := K.all fun p => match p.2.cls with
  | .type n => !(n == "list")
  | _ => true
abbrev AlX : Type := Bool × He.AlD
def obsX (fs : List (PySem.W.Frag → Bool)) (fa : List He.Fa) (fn : List He.DefD) (K : PySem.W.Frag) : AlX := (noLst K && fs.all fun f => f K, He.obsD fa fn K)
def SaysX (fs : List (PySem.W.Frag → Bool)) (fa : List He.Fa) (fn : List He.DefD) (K : PySem.W.Frag) : Prop := obsX fs fa fn K = (true, He.valD fn)
def obsXG (names : List Str) (depth : Nat) (fs : List (PySem.W.Frag → Bool)) (fa : List He.Fa) (fn : List He.DefD) (g : Addr → Option Obj) : AlX := obsX fs fa fn (He.frG g (reach names depth g))
def hookX (names : List Str) (depth : Nat) (fs : List (PySem.W.Frag → Bool)) (fa : List He.Fa) (fn : List He.DefD) : PySem.W.Hook where
  α := AlX
  obs := fun s => obsXG names depth fs fa fn s.heap.get?
  val := fun _ => (true, He.valD fn)
  says := fun _ h => ∃ K : PySem.W.Frag, K.In h ∧ SaysX fs fa fn K
  of := fun _ _ e => ⟨_, He.frG_in, e⟩
  keeps := fun _ _ _ ⟨K, hK, c⟩ k => ⟨K, PySem.W.Frag.In.keeps hK k, c⟩
theorem obsXG_eq {names : List Str} {depth : Nat} {fs : List (PySem.W.Frag → Bool)} {fa : List He.Fa} {fn : List He.DefD} {g : Addr → Option Obj} {s : Shared} (h : ∀ a, g a = s.heap.get? a) : obsXG names depth fs fa fn g = (hookX names depth fs fa fn).obs s := by
  have e : g = s.heap.get? := funext h
  rw [e] <;> rfl
section
variable {fs : List (PySem.W.Frag → Bool)} {fa : List He.Fa} {fn : List He.DefD} {K : PySem.W.Frag}
theorem SaysX.d (c : SaysX fs fa fn K) : He.SaysD fa fn K := congrArg (fun z : AlX => z.2) c
theorem SaysX.f (c : SaysX fs fa fn K) (i : Nat) {f : PySem.W.Frag → Bool} (h : fs[i]? = some f := by rfl) : f K = true := by
  have c1 := (Bool.and_eq_true_iff.mp (show (noLst K && fs.all fun f => f K) = true from congrArg (fun z : AlX => z.1) c)).2
  exact List.all_eq_true.mp c1 f (List.mem_of_getElem? h)
theorem SaysX.noL (c : SaysX fs fa fn K) {a : Addr} {o : Obj} (h : K.lookup a = some o) : o.cls ≠ .type "list" := by
  have c1 := (Bool.and_eq_true_iff.mp (show (noLst K && fs.all fun f => f K) = true from congrArg (fun z : AlX => z.1) c)).1
  have := List.all_eq_true.mp c1 (a, o) (mem_look h)
  intro q
  simp only [q] at this
  simp at this
end
/-- the script, as the evaluator has it -/
theorem scr_of {K : PySem.W.Frag} {H : Hp} {a : Addr} {ns : List Int} (nl : ∀ a o, K.lookup a = some o → o.cls ≠ .type "list") (hO : Only H) (hS : SqL K H a (ns.map V.int)) : ∃ o, H a = some (.frz o (.lst (ns.map V.int))) := by
  rcases hS with (h | ⟨o, h⟩) | ⟨o, its, n, h, e, _⟩
  · rcases hO a with q | ⟨o, xs, q⟩
    · rw [q] at h; cases h
    · rw [q] at h; cases h
  · exact ⟨o, h⟩
  · exact absurd e (nl a o h)
/-- the law's promise, by its meaning -/
theorem law_sp {K : PySem.W.Frag} {D : Ad} {w : World} {f : MF} {H : Hp} {a : Addr} {ns : List Int} {E : XK} (nl : ∀ a o, K.lookup a = some o → o.cls ≠ .type "list") (hO : Only H) (hS : SqL K H a (ns.map V.int))
    (h : Wp (f [.t (.scr ns)] []) (fun u _ => u = .t (.bl true)) noX) : spF D w 1 f [.ref a] H (fun v _ => v = .bl true) E := by
  obtain ⟨o, hH⟩ := scr_of nl hO hS
  refine ⟨H, [], [], [.t (.scr ns)], ⟨Same.refl _, rfl, List.nodup_nil, fun a h => (by cases h), fun n a o h => by simp at h, fun n a o h => by simp at h⟩, ?_, rfl, ?_⟩
  · simp only [RWs, RW, RT]
    exact ⟨_, _, rfl, ⟨a, o, rfl, hH⟩, rfl⟩
  · obtain ⟨u, μ, e, rfl⟩ := h.ex
    rw [e]
    intro F' H' as' v X S r
    simpa only [RW, RT] using r
/-- the end of a law whose exceptions hang on the world -/
theorem walk_ofW {l : PySem.W.OpenLaw} {n k : Nat} {q : Program} {loose : List Str} {XP : (Str → Option Value) → Heap → Prop} {YP : World → Heap → Prop} {d : DefRec} {CX : World → CXT} {x : Str}
    (hn : l.most = some n) (hn2 : n ≤ sizeLine) (hdf : d.params.defaults = []) (hr : Room k callerA)
    (F : ∀ (w : World) (mg : Str → Option Value) (fa : Addr) (h : Heap), YP w h → h.Ns mainGlobals mg → mg d.name = some (.ref fa) →
      ∃ (K : PySem.W.Frag) (fd : FuncData) (sp : Sp), K.In h ∧ (∀ (s : Shared) (u : Value), BindsTo s fd ⟨[u], []⟩ [(x, u)]) ∧
        (∀ (H : Hp) (a : Addr) (ns : List Int), ns.length ≤ n → Only H → SqL K H a (ns.map V.int) → sp [.ref a] H (fun v _ => v = .bl true) fun _ _ _ => False) ∧
        ∀ base : Heap, K.In base → base.Ns mainGlobals mg → FnOk l.prog w K mg base (CX w) k fa fd [x] sp)
    (hCX : ∀ (w : World) (H : Hp) (s : Shared) (e : Value) (s' : Shared), CX w [] H s (fun _ _ _ => False) e s' → False) :
    PySem.W.WalkO q loose XP YP l.row.toRowW d [] (fun f vs => PySem.call f vs) := by
  refine Att.attach_call hn hdf fun w s₀ s₁ mg mb fa o pm cd doc a vs ns G Y ho hd hcd hmg hobj hints hlen hg => ?_
  obtain ⟨K, fd, sp, h1, h2, h3, h4⟩ := F w mg fa _ Y G.T.g hmg
  exact law_call h1 G.T.g G.T.b G.T.builtins G.T.nolimit hg hobj hints (Nat.le_trans hlen hn2) hr h4 h2 (fun H hO hS => h3 H a ns hlen hO hS) fun H e s' => hCX w H s₁ e s'
end HQ
namespace HQ
open PySem PySem.Spec PyProof.Rows L2
def top (i : Nat) : Stmt := PySem.Challenge.pw_homequay_k01_names_and_numbers.main.body.getD i (.Pass ⟨0, 0, 0, 0⟩)
def freeL : List Str := ["isinstance", "int", "bool", "str", "len", "max", "min", "range", "enumerate"]
structure GF (P : Program) (K : PySem.W.Frag) (mg : Str → Option Value) (base : Heap) (D : Ad) (w : World) : Prop where
  hk : KT K D ktB
  fr : ∀ x, freeL.elem x = true → mg x = none
  def__law_box : ∃ fA fd, FunD K "_law_box" "_law_box" (defArgs (top 10)) (defBody (top 10)) (defScope (top 10)) [] [] fA fd ∧ mg "_law_box" = some (.ref fA)
  def__law_take : ∃ fA fd, FunD K "_law_take" "_law_take" (defArgs (top 11)) (defBody (top 11)) (defScope (top 11)) [] [] fA fd ∧ mg "_law_take" = some (.ref fA)
  def__law_things : ∃ fA fd, FunD K "_law_things" "_law_things" (defArgs (top 14)) (defBody (top 14)) (defScope (top 14)) [] [] fA fd ∧ mg "_law_things" = some (.ref fA)
  def__law_signs : ∃ fA fd, FunD K "_law_signs" "_law_signs" (defArgs (top 12)) (defBody (top 12)) (defScope (top 12)) [] [] fA fd ∧ mg "_law_signs" = some (.ref fA)
  def__law_text : ∃ fA fd, FunD K "_law_text" "_law_text" (defArgs (top 13)) (defBody (top 13)) (defScope (top 13)) [] [] fA fd ∧ mg "_law_text" = some (.ref fA)
  def_are_signs : ∃ fA fd, FunD K "are_signs" "are_signs" (defArgs (top 3)) (defBody (top 3)) (defScope (top 3)) [] [] fA fd ∧ mg "are_signs" = some (.ref fA)
  def_number_of : ∃ fA fd, FunD K "number_of" "number_of" (defArgs (top 7)) (defBody (top 7)) (defScope (top 7)) [] [] fA fd ∧ mg "number_of" = some (.ref fA)
  def__law_whole : ∃ fA fd, FunD K "_law_whole" "_law_whole" (defArgs (top 17)) (defBody (top 17)) (defScope (top 17)) [] [] fA fd ∧ mg "_law_whole" = some (.ref fA)
  def__law_number : ∃ fA fd, FunD K "_law_number" "_law_number" (defArgs (top 16)) (defBody (top 16)) (defScope (top 16)) [] [] fA fd ∧ mg "_law_number" = some (.ref fA)
  def__law_same : ∃ fA fd, FunD K "_law_same" "_law_same" (defArgs (top 18)) (defBody (top 18)) (defScope (top 18)) [] [] fA fd ∧ mg "_law_same" = some (.ref fA)
  def_is_whole : ∃ fA fd, FunD K "is_whole" "is_whole" (defArgs (top 1)) (defBody (top 1)) (defScope (top 1)) [] [] fA fd ∧ mg "is_whole" = some (.ref fA)
  def_is_within : ∃ fA fd, FunD K "is_within" "is_within" (defArgs (top 2)) (defBody (top 2)) (defScope (top 2)) [] [] fA fd ∧ mg "is_within" = some (.ref fA)
  def_begins_well : ∃ fA fd, FunD K "begins_well" "begins_well" (defArgs (top 4)) (defBody (top 4)) (defScope (top 4)) [] [] fA fd ∧ mg "begins_well" = some (.ref fA)
  def_is_name : ∃ fA fd, FunD K "is_name" "is_name" (defArgs (top 5)) (defBody (top 5)) (defScope (top 5)) [] [] fA fd ∧ mg "is_name" = some (.ref fA)
  def__law_is : ∃ fA fd, FunD K "_law_is" "_law_is" (defArgs (top 15)) (defBody (top 15)) (defScope (top 15)) [] [] fA fd ∧ mg "_law_is" = some (.ref fA)
  def_is_group_name : ∃ fA fd, FunD K "is_group_name" "is_group_name" (defArgs (top 6)) (defBody (top 6)) (defScope (top 6)) [] [] fA fd ∧ mg "is_group_name" = some (.ref fA)
  def__law_right : ∃ fA fd, FunD K "_law_right" "_law_right" (defArgs (top 19)) (defBody (top 19)) (defScope (top 19)) [] [] fA fd ∧ mg "_law_right" = some (.ref fA)
  def_law : ∃ fA fd, FunD K "law" "law" (defArgs (top 20)) (defBody (top 20)) (defScope (top 20)) [] [] fA fd ∧ mg "law" = some (.ref fA)
section
variable {P : Program} {K : PySem.W.Frag} {mg : Str → Option Value} {base : Heap} {D : Ad} {w : World}
theorem GF.free (G : GF P K mg base D w) {bs : List Str} (h : (bs.all fun x => freeL.elem x) = true) : ∀ x ∈ bs, mg x = none := fun x hx => G.fr x (List.all_eq_true.mp h x hx)
/-! ### _law_box -/
def N__law_box : List Str := ["_law_cell_here"]
noncomputable def m__law_box : MS := sSeq (sRet (mLst true (aCons (mA fMax (aCons (mT (.int 0)) (aCons (m2 fSub (mVar 0) (m2 fPow (mT (.int 10)) (mT (.int 18)))) (aNil)))) (aCons (m2 fMod (mVar 0) (mT (.int 2147483647))) (aCons (mT (.int 0)) (aNil)))))) (sNil)
noncomputable def F__law_box : MF := runF 1 1 m__law_box
theorem sc__law_box : FnScope N__law_box ["_law_cell_here"] (defScope (top 10)) := ⟨rfl, rfl, rfl, by decide +kernel, rfl, by decide +kernel, by decide +kernel⟩
theorem fo__law_box (G : GF P K mg base D w) {fA : Addr} {fd : FuncData} (FD : FunD K "_law_box" "_law_box" (defArgs (top 10)) (defBody (top 10)) (defScope (top 10)) [] [] fA fd) : FnOk P w K mg base (L2.CX P w) 1 fA fd ["_law_cell_here"] (spF D w 1 F__law_box) := by
  refine fn_ok FD sc__law_box rfl (by decide) fun cdv A outer s H E hr => ?_
  have c := Sc.fn (P := P) (w := w) (D := D) (E := E) (H := H) (K := K) (base := base) (outer := outer) (N := N__law_box) (is := [0]) (ls := [0]) (gs := []) (bs := ["max"]) (by kernel_rfl) (G.free (by kernel_rfl)) sc__law_box.nd hr
  have ow := own_fn (P := P) (w := w) (K := K) (mg := mg) (base := base) (N := N__law_box) (qual := "_law_box") (scope := defScope (top 10)) (f := fA) (cdv := cdv) (A := A) (outer := outer) (s := s) (H := H) (E := E)
  exact xs_cons (xs_ret (xe_lst (live := true) (xa_cons (nMax c 0 rfl (xa_cons (xe_int) (xa_cons (nSub c (nv c 0 rfl rfl) (nPow c (xe_int) (xe_int))) (xa_nil) rfl) rfl) rfl rfl) (xa_cons (nMod c (nv c 0 rfl rfl) (xe_int)) (xa_cons (xe_int) (xa_nil) rfl) rfl) rfl))) (xs_nil)
theorem ok__law_box (G : GF P K mg base D w) : Fk P K mg base D w 1 "_law_box" 1 F__law_box [] := by
  obtain ⟨fA, fd, FD, hm⟩ := G.def__law_box
  exact ⟨fA, fd, ["_law_cell_here"], [], [], hm, fo__law_box G FD, FD.bindsN fun _ _ _ _ _ _ us hl => match us, hl with | [_], _ => rfl, .nil, fun _ => by simp only [RTs], FD.kp⟩
/-! ### _law_take -/
def N__law_take : List Str := ["_law_box_here", "_law_many", "_law_digit", "_law_number_here"]
noncomputable def m__law_take : MS := sSeq (sIf (bOf (m2 (fGt) (m2 fIdx (mVar 0) (mT (.int 0))) (mT (.int 0)))) (sSeq (sAsg (m2 fMod (m2 fIdx (mVar 0) (mT (.int 0))) (mVar 1)) (gN 2)) (sSeq (sSetL (m2 fDiv (m2 fIdx (mVar 0) (mT (.int 0))) (mVar 1)) (mVar 0) (mT (.int 0))) (sSeq (sRet (mVar 2)) (sNil)))) (sNil)) (sSeq (sSetL (m2 (fAdd false) (m2 fIdx (mVar 0) (mT (.int 2))) (mT (.int 1))) (mVar 0) (mT (.int 2))) (sSeq (sAsg (m2 fMod (m2 (fAdd false) (m2 (fAdd false) (m2 (fMul false) (m2 fIdx (mVar 0) (mT (.int 1))) (mT (.int 48271))) (m2 (fMul false) (mT (.int 7919)) (m2 fIdx (mVar 0) (mT (.int 2))))) (mT (.int 11))) (mT (.int 2147483629))) (gN 3)) (sSeq (sAsg (m2 fMod (m2 (fMul false) (m2 fMod (m2 (fMul false) (mVar 3) (mVar 3)) (mT (.int 2147483587))) (mT (.int 69621))) (mT (.int 2147483647))) (gN 3)) (sSeq (sRet (m2 fMod (m2 fDiv (m2 fMod (m2 (fMul false) (mVar 3) (mVar 3)) (mT (.int 2147483629))) (mT (.int 8))) (mVar 1))) (sNil)))))
noncomputable def F__law_take : MF := runF 4 2 m__law_take
theorem sc__law_take : FnScope N__law_take ["_law_box_here", "_law_many"] (defScope (top 11)) := ⟨rfl, rfl, rfl, by decide +kernel, rfl, by decide +kernel, by decide +kernel⟩
theorem fo__law_take (G : GF P K mg base D w) {fA : Addr} {fd : FuncData} (FD : FunD K "_law_take" "_law_take" (defArgs (top 11)) (defBody (top 11)) (defScope (top 11)) [] [] fA fd) : FnOk P w K mg base (L2.CX P w) 1 fA fd ["_law_box_here", "_law_many"] (spF D w 2 F__law_take) := by
  refine fn_ok FD sc__law_take rfl (by decide) fun cdv A outer s H E hr => ?_
  have c := Sc.fn (P := P) (w := w) (D := D) (E := E) (H := H) (K := K) (base := base) (outer := outer) (N := N__law_take) (is := [0, 1, 2, 3]) (ls := [0, 1, 2, 3]) (gs := []) (bs := []) (by kernel_rfl) (G.free (by kernel_rfl)) sc__law_take.nd hr
  have ow := own_fn (P := P) (w := w) (K := K) (mg := mg) (base := base) (N := N__law_take) (qual := "_law_take") (scope := defScope (top 11)) (f := fA) (cdv := cdv) (A := A) (outer := outer) (s := s) (H := H) (E := E)
  exact xs_cons (xs_if (tCmp (kGt c) (nIx (nv c 0 rfl rfl) (xe_int) (fun _ _ => rfl)) (xe_int) rfl) (xs_cons (xs_asg (nMod c (nIx (nv c 0 rfl rfl) (xe_int) (fun _ _ => rfl)) (nv c 1 rfl rfl)) (gv c 2 rfl rfl) rfl rfl rfl) (xs_cons (xs_setL (nDiv c (nIx (nv c 0 rfl rfl) (xe_int) (fun _ _ => rfl)) (nv c 1 rfl rfl)) (nv c 0 rfl rfl) (xe_int) rfl rfl rfl (fun _ => rfl)) (xs_cons (xs_ret (nv c 2 rfl rfl)) (xs_nil)))) (xs_nil)) (xs_cons (xs_setL (nAdd c false (nIx (nv c 0 rfl rfl) (xe_int) (fun _ _ => rfl)) (xe_int)) (nv c 0 rfl rfl) (xe_int) rfl rfl rfl (fun _ => rfl)) (xs_cons (xs_asg (nMod c (nAdd c false (nAdd c false (nMul c false (nIx (nv c 0 rfl rfl) (xe_int) (fun _ _ => rfl)) (xe_int)) (nMul c false (xe_int) (nIx (nv c 0 rfl rfl) (xe_int) (fun _ _ => rfl)))) (xe_int)) (xe_int)) (gv c 3 rfl rfl) rfl rfl rfl) (xs_cons (xs_asg (nMod c (nMul c false (nMod c (nMul c false (nv c 3 rfl rfl) (nv c 3 rfl rfl)) (xe_int)) (xe_int)) (xe_int)) (gv c 3 rfl rfl) rfl rfl rfl) (xs_cons (xs_ret (nMod c (nDiv c (nMod c (nMul c false (nv c 3 rfl rfl) (nv c 3 rfl rfl)) (xe_int)) (xe_int)) (nv c 1 rfl rfl))) (xs_nil)))))
theorem ok__law_take (G : GF P K mg base D w) : Fk P K mg base D w 1 "_law_take" 2 F__law_take [] := by
  obtain ⟨fA, fd, FD, hm⟩ := G.def__law_take
  exact ⟨fA, fd, ["_law_box_here", "_law_many"], [], [], hm, fo__law_take G FD, FD.bindsN fun _ _ _ _ _ _ us hl => match us, hl with | [_, _], _ => rfl, .nil, fun _ => by simp only [RTs], FD.kp⟩
/-! ### _law_things -/
def N__law_things : List Str := ["_law_box_here", "_law_text_here", "_law_number_here", "_law_small"]
noncomputable def m__law_things : MS := sSeq (sAsg (m2 fSub (mA (callF F__law_take 2 [] false) (aCons (mVar 0) (aCons (m2 fSub (m2 (fMul false) (mT (.int 2)) (m2 fPow (mT (.int 10)) (mT (.int 30)))) (mT (.int 1))) (aNil)))) (m2 fSub (m2 fPow (mT (.int 10)) (mT (.int 30))) (mT (.int 1)))) (gN 2)) (sSeq (sAsg (m2 fSub (mA (callF F__law_take 2 [] false) (aCons (mVar 0) (aCons (mT (.int 24)) (aNil)))) (mT (.int 12))) (gN 3)) (sSeq (sRet (mLst false (aCons (mVar 1) (aCons (mVar 2) (aCons (mVar 3) (aCons (mT (.bl true)) (aCons (mT (.bl false)) (aCons (mT .non) (aCons (mLst false (aCons (mVar 1) (aNil))) (aCons (mTup (aCons (mVar 1) (aNil))) (aCons (mDic1 (mVar 1) (mVar 3)) (aCons (mLst false (aNil)) (aCons (mA fStr (aCons (mVar 3) (aNil))) (aNil)))))))))))))) (sNil)))
noncomputable def F__law_things : MF := runF 4 2 m__law_things
theorem sc__law_things : FnScope N__law_things ["_law_box_here", "_law_text_here"] (defScope (top 14)) := ⟨rfl, rfl, rfl, by decide +kernel, rfl, by decide +kernel, by decide +kernel⟩
theorem fo__law_things (G : GF P K mg base D w) {fA : Addr} {fd : FuncData} (FD : FunD K "_law_things" "_law_things" (defArgs (top 14)) (defBody (top 14)) (defScope (top 14)) [] [] fA fd) : FnOk P w K mg base (L2.CX P w) 2 fA fd ["_law_box_here", "_law_text_here"] (spF D w 2 F__law_things) := by
  refine fn_ok FD sc__law_things rfl (by decide) fun cdv A outer s H E hr => ?_
  have c := Sc.fn (P := P) (w := w) (D := D) (E := E) (H := H) (K := K) (base := base) (outer := outer) (N := N__law_things) (is := [0, 1, 2, 3]) (ls := [0, 1, 2, 3]) (gs := ["_law_take"]) (bs := ["str"]) (by kernel_rfl) (G.free (by kernel_rfl)) sc__law_things.nd hr
  have ow := own_fn (P := P) (w := w) (K := K) (mg := mg) (base := base) (N := N__law_things) (qual := "_law_things") (scope := defScope (top 14)) (f := fA) (cdv := cdv) (A := A) (outer := outer) (s := s) (H := H) (E := E)
  exact xs_cons (xs_asg (nSub c (nCall c false 0 rfl (ok__law_take G) (by decide) (xa_cons (nv c 0 rfl rfl) (xa_cons (nSub c (nMul c false (xe_int) (nPow c (xe_int) (xe_int))) (xe_int)) (xa_nil) rfl) rfl) rfl rfl) (nSub c (nPow c (xe_int) (xe_int)) (xe_int))) (gv c 2 rfl rfl) rfl rfl rfl) (xs_cons (xs_asg (nSub c (nCall c false 0 rfl (ok__law_take G) (by decide) (xa_cons (nv c 0 rfl rfl) (xa_cons (xe_int) (xa_nil) rfl) rfl) rfl rfl) (xe_int)) (gv c 3 rfl rfl) rfl rfl rfl) (xs_cons (xs_ret (xe_lst (live := false) (xa_cons (nv c 1 rfl rfl) (xa_cons (nv c 2 rfl rfl) (xa_cons (nv c 3 rfl rfl) (xa_cons (xe_bl) (xa_cons (xe_bl) (xa_cons (xe_non) (xa_cons (xe_lst (live := false) (xa_cons (nv c 1 rfl rfl) (xa_nil) rfl)) (xa_cons (xe_tup (xa_cons (nv c 1 rfl rfl) (xa_nil) rfl)) (xa_cons (xe_dic1 c.hw (nv c 1 rfl rfl) (nv c 3 rfl rfl)) (xa_cons (xe_lst (live := false) (xa_nil)) (xa_cons (nStr c 0 rfl (xa_cons (nv c 3 rfl rfl) (xa_nil) rfl) rfl rfl) (xa_nil) rfl) rfl) rfl) rfl) rfl) rfl) rfl) rfl) rfl) rfl) rfl))) (xs_nil)))
theorem ok__law_things (G : GF P K mg base D w) : Fk P K mg base D w 2 "_law_things" 2 F__law_things [] := by
  obtain ⟨fA, fd, FD, hm⟩ := G.def__law_things
  exact ⟨fA, fd, ["_law_box_here", "_law_text_here"], [], [], hm, fo__law_things G FD, FD.bindsN fun _ _ _ _ _ _ us hl => match us, hl with | [_, _], _ => rfl, .nil, fun _ => by simp only [RTs], FD.kp⟩
/-! ### _law_signs -/
def N__law_signs : List Str := ["_law_box_here", "_law_signs_here", "_law_many", "_law_k"]
noncomputable def m__law_signs : MS := sSeq (sRet (mM1 fJoin (mT (.str "")) (mLc false (iR1 (aCons (mVar 2) (aNil))) (gN 3) (bYes) (m2 fIdx (mVar 1) (mA (callF F__law_take 2 [] false) (aCons (mVar 0) (aCons (mA fLen (aCons (mVar 1) (aNil))) (aNil))))) [3]))) (sNil)
noncomputable def F__law_signs : MF := runF 4 3 m__law_signs
theorem sc__law_signs : FnScope N__law_signs ["_law_box_here", "_law_signs_here", "_law_many"] (defScope (top 12)) := ⟨rfl, rfl, rfl, by decide +kernel, rfl, by decide +kernel, by decide +kernel⟩
theorem fo__law_signs (G : GF P K mg base D w) {fA : Addr} {fd : FuncData} (FD : FunD K "_law_signs" "_law_signs" (defArgs (top 12)) (defBody (top 12)) (defScope (top 12)) [] [] fA fd) : FnOk P w K mg base (L2.CX P w) 2 fA fd ["_law_box_here", "_law_signs_here", "_law_many"] (spF D w 3 F__law_signs) := by
  refine fn_ok FD sc__law_signs rfl (by decide) fun cdv A outer s H E hr => ?_
  have c := Sc.fn (P := P) (w := w) (D := D) (E := E) (H := H) (K := K) (base := base) (outer := outer) (N := N__law_signs) (is := [0, 1, 2]) (ls := [0, 1, 2]) (gs := []) (bs := ["range"]) (by kernel_rfl) (G.free (by kernel_rfl)) sc__law_signs.nd hr
  have ow := own_fn (P := P) (w := w) (K := K) (mg := mg) (base := base) (N := N__law_signs) (qual := "_law_signs") (scope := defScope (top 12)) (f := fA) (cdv := cdv) (A := A) (outer := outer) (s := s) (H := H) (E := E)
  exact xs_cons (xs_ret (nJoin (xe_str) (nLc c (live := false) (own := [("_law_k", 3)]) (is' := [0, 1, 3]) (ls' := [3]) (gs' := ["_law_take"]) (bs' := ["len"]) (by kernel_rfl) (G.free (by kernel_rfl)) (by kernel_rfl) (xi_r1 (c.bl 0 _ rfl).1 (c.bl 0 _ rfl).2.1 (xa_cons (nv c 2 rfl rfl) (xa_nil) rfl) rfl) (fun s H C cl fp c' => gv c' 3 rfl rfl) (fun s H C cl fp c' => xts_nil) (fun s H C cl fp c' => nIx (nv c' 1 rfl rfl) (nCall c' false 0 rfl (ok__law_take G) (by decide) (xa_cons (nv c' 0 rfl rfl) (xa_cons (nLen c' 0 rfl (xa_cons (nv c' 1 rfl rfl) (xa_nil) rfl) rfl rfl) (xa_nil) rfl) rfl) rfl rfl) (fun _ _ => rfl)) (fun _ => rfl) (by decide)) rfl rfl rfl)) (xs_nil)
theorem ok__law_signs (G : GF P K mg base D w) : Fk P K mg base D w 2 "_law_signs" 3 F__law_signs [] := by
  obtain ⟨fA, fd, FD, hm⟩ := G.def__law_signs
  exact ⟨fA, fd, ["_law_box_here", "_law_signs_here", "_law_many"], [], [], hm, fo__law_signs G FD, FD.bindsN fun _ _ _ _ _ _ us hl => match us, hl with | [_, _, _], _ => rfl, .nil, fun _ => by simp only [RTs], FD.kp⟩
/-! ### _law_text -/
def N__law_text : List Str := ["_law_box_here", "_law_way", "_law_good", "_law_at"]
noncomputable def m__law_text : MS := sSeq (sAsg (mA (callF F__law_take 2 [] false) (aCons (mVar 0) (aCons (mT (.int 4)) (aNil)))) (gN 1)) (sSeq (sIf (bOf (m2 (fEq false) (mVar 1) (mT (.int 0)))) (sSeq (sRet (mA (callF F__law_signs 3 [] false) (aCons (mVar 0) (aCons (mT (.str "abz019.AZ _-/:`{~\n!")) (aCons (mA (callF F__law_take 2 [] false) (aCons (mVar 0) (aCons (mT (.int 15)) (aNil)))) (aNil)))))) (sNil)) (sNil)) (sSeq (sIf (bOf (m2 (fEq false) (mVar 1) (mT (.int 1)))) (sSeq (sRet (m2 (fAdd false) (m2 fIdx (mLst false (aCons (mT (.str "")) (aCons (mT (.str "-")) (aCons (mT (.str " ")) (aCons (mT (.str "0")) (aCons (mT (.str "00")) (aCons (mT (.str ".")) (aNil)))))))) (mA (callF F__law_take 2 [] false) (aCons (mVar 0) (aCons (mT (.int 6)) (aNil))))) (mA (callF F__law_signs 3 [] false) (aCons (mVar 0) (aCons (mT (.str "0123456789")) (aCons (mA (callF F__law_take 2 [] false) (aCons (mVar 0) (aCons (mT (.int 7)) (aNil)))) (aNil))))))) (sNil)) (sNil)) (sSeq (sAsg (m2 (fAdd false) (mA (callF F__law_signs 3 [] false) (aCons (mVar 0) (aCons (mT (.str "abyz")) (aCons (mT (.int 1)) (aNil))))) (mA (callF F__law_signs 3 [] false) (aCons (mVar 0) (aCons (m2 fIdx (mLst false (aCons (mT (.str "azm059")) (aCons (mT (.str "azm059.")) (aNil)))) (m2 fSub (mVar 1) (mT (.int 2)))) (aCons (mA (callF F__law_take 2 [] false) (aCons (mVar 0) (aCons (mT (.int 13)) (aNil)))) (aNil)))))) (gN 2)) (sSeq (sIf (bOf (m2 (fGt) (mA (callF F__law_take 2 [] false) (aCons (mVar 0) (aCons (mT (.int 3)) (aNil)))) (mT (.int 0)))) (sSeq (sRet (mVar 2)) (sNil)) (sNil)) (sSeq (sAsg (mA (callF F__law_take 2 [] false) (aCons (mVar 0) (aCons (mA fLen (aCons (mVar 2) (aNil))) (aNil)))) (gN 3)) (sSeq (sRet (m2 (fAdd false) (m2 (fAdd false) (mSl false (mVar 2) (oNone) (oSome (mVar 3))) (m2 fIdx (mLst false (aCons (mT (.str "A")) (aCons (mT (.str ".")) (aCons (mT (.str "0")) (aCons (mT (.str " ")) (aCons (mT (.str "_")) (aCons (mT (.str "\n")) (aCons (mT (.str "")) (aCons (mT (.str "a")) (aNil)))))))))) (mA (callF F__law_take 2 [] false) (aCons (mVar 0) (aCons (mT (.int 8)) (aNil)))))) (mSl false (mVar 2) (oSome (m2 (fAdd false) (mVar 3) (mT (.int 1)))) (oNone)))) (sNil)))))))
noncomputable def F__law_text : MF := runF 4 1 m__law_text
theorem sc__law_text : FnScope N__law_text ["_law_box_here"] (defScope (top 13)) := ⟨rfl, rfl, rfl, by decide +kernel, rfl, by decide +kernel, by decide +kernel⟩
theorem fo__law_text (G : GF P K mg base D w) {fA : Addr} {fd : FuncData} (FD : FunD K "_law_text" "_law_text" (defArgs (top 13)) (defBody (top 13)) (defScope (top 13)) [] [] fA fd) : FnOk P w K mg base (L2.CX P w) 3 fA fd ["_law_box_here"] (spF D w 1 F__law_text) := by
  refine fn_ok FD sc__law_text rfl (by decide) fun cdv A outer s H E hr => ?_
  have c := Sc.fn (P := P) (w := w) (D := D) (E := E) (H := H) (K := K) (base := base) (outer := outer) (N := N__law_text) (is := [0, 1, 2, 3]) (ls := [0, 1, 2, 3]) (gs := ["_law_take", "_law_signs"]) (bs := ["len"]) (by kernel_rfl) (G.free (by kernel_rfl)) sc__law_text.nd hr
  have ow := own_fn (P := P) (w := w) (K := K) (mg := mg) (base := base) (N := N__law_text) (qual := "_law_text") (scope := defScope (top 13)) (f := fA) (cdv := cdv) (A := A) (outer := outer) (s := s) (H := H) (E := E)
  exact xs_cons (xs_asg (nCall c false 0 rfl (ok__law_take G) (by decide) (xa_cons (nv c 0 rfl rfl) (xa_cons (xe_int) (xa_nil) rfl) rfl) rfl rfl) (gv c 1 rfl rfl) rfl rfl rfl) (xs_cons (xs_if (tCmp (kEq c) (nv c 1 rfl rfl) (xe_int) rfl) (xs_cons (xs_ret (nCall c false 1 rfl (ok__law_signs G) (by decide) (xa_cons (nv c 0 rfl rfl) (xa_cons (xe_str) (xa_cons (nCall c false 0 rfl (ok__law_take G) (by decide) (xa_cons (nv c 0 rfl rfl) (xa_cons (xe_int) (xa_nil) rfl) rfl) rfl rfl) (xa_nil) rfl) rfl) rfl) rfl rfl)) (xs_nil)) (xs_nil)) (xs_cons (xs_if (tCmp (kEq c) (nv c 1 rfl rfl) (xe_int) rfl) (xs_cons (xs_ret (nAdd c false (nIx (xe_lst (live := false) (xa_cons (xe_str) (xa_cons (xe_str) (xa_cons (xe_str) (xa_cons (xe_str) (xa_cons (xe_str) (xa_cons (xe_str) (xa_nil) rfl) rfl) rfl) rfl) rfl) rfl)) (nCall c false 0 rfl (ok__law_take G) (by decide) (xa_cons (nv c 0 rfl rfl) (xa_cons (xe_int) (xa_nil) rfl) rfl) rfl rfl) (fun _ _ => rfl)) (nCall c false 1 rfl (ok__law_signs G) (by decide) (xa_cons (nv c 0 rfl rfl) (xa_cons (xe_str) (xa_cons (nCall c false 0 rfl (ok__law_take G) (by decide) (xa_cons (nv c 0 rfl rfl) (xa_cons (xe_int) (xa_nil) rfl) rfl) rfl rfl) (xa_nil) rfl) rfl) rfl) rfl rfl))) (xs_nil)) (xs_nil)) (xs_cons (xs_asg (nAdd c false (nCall c false 1 rfl (ok__law_signs G) (by decide) (xa_cons (nv c 0 rfl rfl) (xa_cons (xe_str) (xa_cons (xe_int) (xa_nil) rfl) rfl) rfl) rfl rfl) (nCall c false 1 rfl (ok__law_signs G) (by decide) (xa_cons (nv c 0 rfl rfl) (xa_cons (nIx (xe_lst (live := false) (xa_cons (xe_str) (xa_cons (xe_str) (xa_nil) rfl) rfl)) (nSub c (nv c 1 rfl rfl) (xe_int)) (fun _ _ => rfl)) (xa_cons (nCall c false 0 rfl (ok__law_take G) (by decide) (xa_cons (nv c 0 rfl rfl) (xa_cons (xe_int) (xa_nil) rfl) rfl) rfl rfl) (xa_nil) rfl) rfl) rfl) rfl rfl)) (gv c 2 rfl rfl) rfl rfl rfl) (xs_cons (xs_if (tCmp (kGt c) (nCall c false 0 rfl (ok__law_take G) (by decide) (xa_cons (nv c 0 rfl rfl) (xa_cons (xe_int) (xa_nil) rfl) rfl) rfl rfl) (xe_int) rfl) (xs_cons (xs_ret (nv c 2 rfl rfl)) (xs_nil)) (xs_nil)) (xs_cons (xs_asg (nCall c false 0 rfl (ok__law_take G) (by decide) (xa_cons (nv c 0 rfl rfl) (xa_cons (nLen c 0 rfl (xa_cons (nv c 2 rfl rfl) (xa_nil) rfl) rfl rfl) (xa_nil) rfl) rfl) rfl rfl) (gv c 3 rfl rfl) rfl rfl rfl) (xs_cons (xs_ret (nAdd c false (nAdd c false (xe_sl (live := false) (nv c 2 rfl rfl) (xo_none) (xo_some (nv c 3 rfl rfl))) (nIx (xe_lst (live := false) (xa_cons (xe_str) (xa_cons (xe_str) (xa_cons (xe_str) (xa_cons (xe_str) (xa_cons (xe_str) (xa_cons (xe_str) (xa_cons (xe_str) (xa_cons (xe_str) (xa_nil) rfl) rfl) rfl) rfl) rfl) rfl) rfl) rfl)) (nCall c false 0 rfl (ok__law_take G) (by decide) (xa_cons (nv c 0 rfl rfl) (xa_cons (xe_int) (xa_nil) rfl) rfl) rfl rfl) (fun _ _ => rfl))) (xe_sl (live := false) (nv c 2 rfl rfl) (xo_some (nAdd c false (nv c 3 rfl rfl) (xe_int))) (xo_none)))) (xs_nil)))))))
theorem ok__law_text (G : GF P K mg base D w) : Fk P K mg base D w 3 "_law_text" 1 F__law_text [] := by
  obtain ⟨fA, fd, FD, hm⟩ := G.def__law_text
  exact ⟨fA, fd, ["_law_box_here"], [], [], hm, fo__law_text G FD, FD.bindsN fun _ _ _ _ _ _ us hl => match us, hl with | [_], _ => rfl, .nil, fun _ => by simp only [RTs], FD.kp⟩
/-! ### are_signs -/
def N_are_signs : List Str := ["text", "signs", "sign"]
noncomputable def m_are_signs : MS := sSeq (sFor (iVal (mVar 0)) (gN 2) (sSeq (sIf (bOf (m2 (fIn true) (mVar 2) (mVar 1))) (sSeq (sRet (mT (.bl false))) (sNil)) (sNil)) (sNil))) (sSeq (sRet (mT (.bl true))) (sNil))
noncomputable def F_are_signs : MF := runF 3 2 m_are_signs
theorem sc_are_signs : FnScope N_are_signs ["text", "signs"] (defScope (top 3)) := ⟨rfl, rfl, rfl, by decide +kernel, rfl, by decide +kernel, by decide +kernel⟩
theorem fo_are_signs (G : GF P K mg base D w) {fA : Addr} {fd : FuncData} (FD : FunD K "are_signs" "are_signs" (defArgs (top 3)) (defBody (top 3)) (defScope (top 3)) [] [] fA fd) : FnOk P w K mg base (L2.CX P w) 1 fA fd ["text", "signs"] (spF D w 2 F_are_signs) := by
  refine fn_ok FD sc_are_signs rfl (by decide) fun cdv A outer s H E hr => ?_
  have c := Sc.fn (P := P) (w := w) (D := D) (E := E) (H := H) (K := K) (base := base) (outer := outer) (N := N_are_signs) (is := [0, 1, 2]) (ls := [0, 1, 2]) (gs := []) (bs := []) (by kernel_rfl) (G.free (by kernel_rfl)) sc_are_signs.nd hr
  have ow := own_fn (P := P) (w := w) (K := K) (mg := mg) (base := base) (N := N_are_signs) (qual := "are_signs") (scope := defScope (top 3)) (f := fA) (cdv := cdv) (A := A) (outer := outer) (s := s) (H := H) (E := E)
  exact xs_cons (xs_for ow c.calm (xi_val (nv c 0 rfl rfl)) (gv c 2 rfl rfl) (xs_cons (xs_if (tCmp (kNIn c) (nv c 2 rfl rfl) (nv c 1 rfl rfl) rfl) (xs_cons (xs_ret (xe_bl)) (xs_nil)) (xs_nil)) (xs_nil)) (fun _ => rfl)) (xs_cons (xs_ret (xe_bl)) (xs_nil))
theorem ok_are_signs (G : GF P K mg base D w) : Fk P K mg base D w 1 "are_signs" 2 F_are_signs [] := by
  obtain ⟨fA, fd, FD, hm⟩ := G.def_are_signs
  exact ⟨fA, fd, ["text", "signs"], [], [], hm, fo_are_signs G FD, FD.bindsN fun _ _ _ _ _ _ us hl => match us, hl with | [_, _], _ => rfl, .nil, fun _ => by simp only [RTs], FD.kp⟩
/-! ### number_of -/
def N_number_of : List Str := ["thing"]
noncomputable def m_number_of : MS := sSeq (sIf (bOr (bNot (bOf (mA (fIsi ktB) (aCons (mVar 0) (aCons (mT (.ty "str")) (aNil)))))) (bOr (bNot (bOf (mChain (fLe) (fLe) (mT (.int 1)) (mA fLen (aCons (mVar 0) (aNil))) (mT (.int 4))))) (bNot (bOf (mA (callF F_are_signs 2 [] true) (aCons (mVar 0) (aCons (mT (.str "0123456789")) (aNil)))))))) (sSeq (sRet (mT .non)) (sNil)) (sNil)) (sSeq (sIf (bAnd (bOf (m2 (fEq false) (m2 fIdx (mVar 0) (mT (.int 0))) (mT (.str "0")))) (bOf (m2 (fGt) (mA fLen (aCons (mVar 0) (aNil))) (mT (.int 1))))) (sSeq (sRet (mT .non)) (sNil)) (sNil)) (sSeq (sRet (mA fInt (aCons (mVar 0) (aNil)))) (sNil)))
noncomputable def F_number_of : MF := runF 1 1 m_number_of
theorem sc_number_of : FnScope N_number_of ["thing"] (defScope (top 7)) := ⟨rfl, rfl, rfl, by decide +kernel, rfl, by decide +kernel, by decide +kernel⟩
theorem fo_number_of (G : GF P K mg base D w) {fA : Addr} {fd : FuncData} (FD : FunD K "number_of" "number_of" (defArgs (top 7)) (defBody (top 7)) (defScope (top 7)) [] [] fA fd) : FnOk P w K mg base (L2.CX P w) 2 fA fd ["thing"] (spF D w 1 F_number_of) := by
  refine fn_ok FD sc_number_of rfl (by decide) fun cdv A outer s H E hr => ?_
  have c := Sc.fn (P := P) (w := w) (D := D) (E := E) (H := H) (K := K) (base := base) (outer := outer) (N := N_number_of) (is := [0]) (ls := [0]) (gs := ["are_signs"]) (bs := ["isinstance", "str", "len", "int"]) (by kernel_rfl) (G.free (by kernel_rfl)) sc_number_of.nd hr
  have ow := own_fn (P := P) (w := w) (K := K) (mg := mg) (base := base) (N := N_number_of) (qual := "number_of") (scope := defScope (top 7)) (f := fA) (cdv := cdv) (A := A) (outer := outer) (s := s) (H := H) (E := E)
  exact xs_cons (xs_if ((xw_or (xt_not (xt_val (nIsi c G.hk 0 rfl (xa_cons (nv c 0 rfl rfl) (xa_cons (nTy c 1 rfl boot_str) (xa_nil) rfl) rfl) rfl rfl) (fun _ => rfl))) (xw_or (xt_not (tChainN (kLe c) (kLe c) (xe_int) (nLen c 2 rfl (xa_cons (nv c 0 rfl rfl) (xa_nil) rfl) rfl rfl) (xe_int) rfl)) (xw_or1 (xt_not (xt_val (nCall c true 0 rfl (ok_are_signs G) (by decide) (xa_cons (nv c 0 rfl rfl) (xa_cons (xe_str) (xa_nil) rfl) rfl) rfl rfl) (fun _ => rfl)))))).pt) (xs_cons (xs_ret (xe_non)) (xs_nil)) (xs_nil)) (xs_cons (xs_if ((xw_and (tCmp (kEq c) (nIx (nv c 0 rfl rfl) (xe_int) (fun _ _ => rfl)) (xe_str) rfl) (xw_and1 (tCmp (kGt c) (nLen c 2 rfl (xa_cons (nv c 0 rfl rfl) (xa_nil) rfl) rfl rfl) (xe_int) rfl))).pt) (xs_cons (xs_ret (xe_non)) (xs_nil)) (xs_nil)) (xs_cons (xs_ret (nInt c 3 rfl (xa_cons (nv c 0 rfl rfl) (xa_nil) rfl) rfl rfl)) (xs_nil)))
theorem ok_number_of (G : GF P K mg base D w) : Fk P K mg base D w 2 "number_of" 1 F_number_of [] := by
  obtain ⟨fA, fd, FD, hm⟩ := G.def_number_of
  exact ⟨fA, fd, ["thing"], [], [], hm, fo_number_of G FD, FD.bindsN fun _ _ _ _ _ _ us hl => match us, hl with | [_], _ => rfl, .nil, fun _ => by simp only [RTs], FD.kp⟩
/-! ### _law_whole -/
def N__law_whole : List Str := ["_law_found"]
noncomputable def m__law_whole : MS := sSeq (sRet (mAndV (mA (fIsi ktB) (aCons (mVar 0) (aCons (mT (.ty "int")) (aNil)))) (mNotV (mA (fIsi ktB) (aCons (mVar 0) (aCons (mT (.ty "bool")) (aNil))))))) (sNil)
noncomputable def F__law_whole : MF := runF 1 1 m__law_whole
theorem sc__law_whole : FnScope N__law_whole ["_law_found"] (defScope (top 17)) := ⟨rfl, rfl, rfl, by decide +kernel, rfl, by decide +kernel, by decide +kernel⟩
theorem fo__law_whole (G : GF P K mg base D w) {fA : Addr} {fd : FuncData} (FD : FunD K "_law_whole" "_law_whole" (defArgs (top 17)) (defBody (top 17)) (defScope (top 17)) [] [] fA fd) : FnOk P w K mg base (L2.CX P w) 1 fA fd ["_law_found"] (spF D w 1 F__law_whole) := by
  refine fn_ok FD sc__law_whole rfl (by decide) fun cdv A outer s H E hr => ?_
  have c := Sc.fn (P := P) (w := w) (D := D) (E := E) (H := H) (K := K) (base := base) (outer := outer) (N := N__law_whole) (is := [0]) (ls := [0]) (gs := []) (bs := ["isinstance", "int", "bool"]) (by kernel_rfl) (G.free (by kernel_rfl)) sc__law_whole.nd hr
  have ow := own_fn (P := P) (w := w) (K := K) (mg := mg) (base := base) (N := N__law_whole) (qual := "_law_whole") (scope := defScope (top 17)) (f := fA) (cdv := cdv) (A := A) (outer := outer) (s := s) (H := H) (E := E)
  exact xs_cons (xs_ret (xe_and (nIsi c G.hk 0 rfl (xa_cons (nv c 0 rfl rfl) (xa_cons (nTy c 1 rfl boot_int) (xa_nil) rfl) rfl) rfl rfl) (xe_one (xe_not (nIsi c G.hk 0 rfl (xa_cons (nv c 0 rfl rfl) (xa_cons (nTy c 2 rfl boot_bool) (xa_nil) rfl) rfl) rfl rfl))))) (xs_nil)
theorem ok__law_whole (G : GF P K mg base D w) : Fk P K mg base D w 1 "_law_whole" 1 F__law_whole [] := by
  obtain ⟨fA, fd, FD, hm⟩ := G.def__law_whole
  exact ⟨fA, fd, ["_law_found"], [], [], hm, fo__law_whole G FD, FD.bindsN fun _ _ _ _ _ _ us hl => match us, hl with | [_], _ => rfl, .nil, fun _ => by simp only [RTs], FD.kp⟩
/-! ### _law_number -/
def N__law_number : List Str := ["_law_thing", "_law_total", "_law_sign"]
noncomputable def m__law_number : MS := sSeq (sIf (bOr (bNot (bOf (mA (fIsi ktB) (aCons (mVar 0) (aCons (mT (.ty "str")) (aNil)))))) (bOr (bOf (m2 (fLt) (mA fLen (aCons (mVar 0) (aNil))) (mT (.int 1)))) (bOf (m2 (fGt) (mA fLen (aCons (mVar 0) (aNil))) (mT (.int 4)))))) (sSeq (sRet (mT .non)) (sNil)) (sNil)) (sSeq (sAsg (mT (.int 0)) (gN 1)) (sSeq (sFor (iVal (mVar 0)) (gN 2) (sSeq (sIf (bOf (m2 (fIn true) (mVar 2) (mTup (aCons (mT (.str "0")) (aCons (mT (.str "1")) (aCons (mT (.str "2")) (aCons (mT (.str "3")) (aCons (mT (.str "4")) (aCons (mT (.str "5")) (aCons (mT (.str "6")) (aCons (mT (.str "7")) (aCons (mT (.str "8")) (aCons (mT (.str "9")) (aNil)))))))))))))) (sSeq (sRet (mT .non)) (sNil)) (sNil)) (sSeq (sAsg (m2 (fAdd false) (m2 (fMul false) (mVar 1) (mT (.int 10))) (mM1 fFind (mT (.str "0123456789")) (mVar 2))) (gN 1)) (sNil)))) (sSeq (sIf (bAnd (bOf (m2 (fEq false) (m2 fIdx (mVar 0) (mT (.int 0))) (mT (.str "0")))) (bOf (m2 (fGt) (mA fLen (aCons (mVar 0) (aNil))) (mT (.int 1))))) (sSeq (sRet (mT .non)) (sNil)) (sNil)) (sSeq (sRet (mVar 1)) (sNil)))))
noncomputable def F__law_number : MF := runF 3 1 m__law_number
theorem sc__law_number : FnScope N__law_number ["_law_thing"] (defScope (top 16)) := ⟨rfl, rfl, rfl, by decide +kernel, rfl, by decide +kernel, by decide +kernel⟩
theorem fo__law_number (G : GF P K mg base D w) {fA : Addr} {fd : FuncData} (FD : FunD K "_law_number" "_law_number" (defArgs (top 16)) (defBody (top 16)) (defScope (top 16)) [] [] fA fd) : FnOk P w K mg base (L2.CX P w) 1 fA fd ["_law_thing"] (spF D w 1 F__law_number) := by
  refine fn_ok FD sc__law_number rfl (by decide) fun cdv A outer s H E hr => ?_
  have c := Sc.fn (P := P) (w := w) (D := D) (E := E) (H := H) (K := K) (base := base) (outer := outer) (N := N__law_number) (is := [0, 1, 2]) (ls := [0, 1, 2]) (gs := []) (bs := ["isinstance", "str", "len"]) (by kernel_rfl) (G.free (by kernel_rfl)) sc__law_number.nd hr
  have ow := own_fn (P := P) (w := w) (K := K) (mg := mg) (base := base) (N := N__law_number) (qual := "_law_number") (scope := defScope (top 16)) (f := fA) (cdv := cdv) (A := A) (outer := outer) (s := s) (H := H) (E := E)
  exact xs_cons (xs_if ((xw_or (xt_not (xt_val (nIsi c G.hk 0 rfl (xa_cons (nv c 0 rfl rfl) (xa_cons (nTy c 1 rfl boot_str) (xa_nil) rfl) rfl) rfl rfl) (fun _ => rfl))) (xw_or (tCmp (kLt c) (nLen c 2 rfl (xa_cons (nv c 0 rfl rfl) (xa_nil) rfl) rfl rfl) (xe_int) rfl) (xw_or1 (tCmp (kGt c) (nLen c 2 rfl (xa_cons (nv c 0 rfl rfl) (xa_nil) rfl) rfl rfl) (xe_int) rfl)))).pt) (xs_cons (xs_ret (xe_non)) (xs_nil)) (xs_nil)) (xs_cons (xs_asg (xe_int) (gv c 1 rfl rfl) rfl rfl rfl) (xs_cons (xs_for ow c.calm (xi_val (nv c 0 rfl rfl)) (gv c 2 rfl rfl) (xs_cons (xs_if (tCmp (kNIn c) (nv c 2 rfl rfl) (xe_tup (xa_cons (xe_str) (xa_cons (xe_str) (xa_cons (xe_str) (xa_cons (xe_str) (xa_cons (xe_str) (xa_cons (xe_str) (xa_cons (xe_str) (xa_cons (xe_str) (xa_cons (xe_str) (xa_cons (xe_str) (xa_nil) rfl) rfl) rfl) rfl) rfl) rfl) rfl) rfl) rfl) rfl)) rfl) (xs_cons (xs_ret (xe_non)) (xs_nil)) (xs_nil)) (xs_cons (xs_asg (nAdd c false (nMul c false (nv c 1 rfl rfl) (xe_int)) (nFind (xe_str) (nv c 2 rfl rfl) rfl rfl rfl)) (gv c 1 rfl rfl) rfl rfl rfl) (xs_nil))) (fun _ => rfl)) (xs_cons (xs_if ((xw_and (tCmp (kEq c) (nIx (nv c 0 rfl rfl) (xe_int) (fun _ _ => rfl)) (xe_str) rfl) (xw_and1 (tCmp (kGt c) (nLen c 2 rfl (xa_cons (nv c 0 rfl rfl) (xa_nil) rfl) rfl rfl) (xe_int) rfl))).pt) (xs_cons (xs_ret (xe_non)) (xs_nil)) (xs_nil)) (xs_cons (xs_ret (nv c 1 rfl rfl)) (xs_nil)))))
theorem ok__law_number (G : GF P K mg base D w) : Fk P K mg base D w 1 "_law_number" 1 F__law_number [] := by
  obtain ⟨fA, fd, FD, hm⟩ := G.def__law_number
  exact ⟨fA, fd, ["_law_thing"], [], [], hm, fo__law_number G FD, FD.bindsN fun _ _ _ _ _ _ us hl => match us, hl with | [_], _ => rfl, .nil, fun _ => by simp only [RTs], FD.kp⟩
/-! ### _law_same -/
def N__law_same : List Str := ["_law_found", "_law_due"]
noncomputable def m__law_same : MS := sSeq (sRet (mAndV (mA (fIsi ktB) (aCons (mVar 0) (aCons (mT (.ty "bool")) (aNil)))) (m2 (fEq false) (mVar 0) (mVar 1)))) (sNil)
noncomputable def F__law_same : MF := runF 2 2 m__law_same
theorem sc__law_same : FnScope N__law_same ["_law_found", "_law_due"] (defScope (top 18)) := ⟨rfl, rfl, rfl, by decide +kernel, rfl, by decide +kernel, by decide +kernel⟩
theorem fo__law_same (G : GF P K mg base D w) {fA : Addr} {fd : FuncData} (FD : FunD K "_law_same" "_law_same" (defArgs (top 18)) (defBody (top 18)) (defScope (top 18)) [] [] fA fd) : FnOk P w K mg base (L2.CX P w) 1 fA fd ["_law_found", "_law_due"] (spF D w 2 F__law_same) := by
  refine fn_ok FD sc__law_same rfl (by decide) fun cdv A outer s H E hr => ?_
  have c := Sc.fn (P := P) (w := w) (D := D) (E := E) (H := H) (K := K) (base := base) (outer := outer) (N := N__law_same) (is := [0, 1]) (ls := [0, 1]) (gs := []) (bs := ["isinstance", "bool"]) (by kernel_rfl) (G.free (by kernel_rfl)) sc__law_same.nd hr
  have ow := own_fn (P := P) (w := w) (K := K) (mg := mg) (base := base) (N := N__law_same) (qual := "_law_same") (scope := defScope (top 18)) (f := fA) (cdv := cdv) (A := A) (outer := outer) (s := s) (H := H) (E := E)
  exact xs_cons (xs_ret (xe_and (nIsi c G.hk 0 rfl (xa_cons (nv c 0 rfl rfl) (xa_cons (nTy c 1 rfl boot_bool) (xa_nil) rfl) rfl) rfl rfl) (xe_one (nCmp (kEq c) (nv c 0 rfl rfl) (nv c 1 rfl rfl) rfl)))) (xs_nil)
theorem ok__law_same (G : GF P K mg base D w) : Fk P K mg base D w 1 "_law_same" 2 F__law_same [] := by
  obtain ⟨fA, fd, FD, hm⟩ := G.def__law_same
  exact ⟨fA, fd, ["_law_found", "_law_due"], [], [], hm, fo__law_same G FD, FD.bindsN fun _ _ _ _ _ _ us hl => match us, hl with | [_, _], _ => rfl, .nil, fun _ => by simp only [RTs], FD.kp⟩
/-! ### is_whole -/
def N_is_whole : List Str := ["thing"]
noncomputable def m_is_whole : MS := sSeq (sRet (mAndV (mA (fIsi ktB) (aCons (mVar 0) (aCons (mT (.ty "int")) (aNil)))) (mNotV (mA (fIsi ktB) (aCons (mVar 0) (aCons (mT (.ty "bool")) (aNil))))))) (sNil)
noncomputable def F_is_whole : MF := runF 1 1 m_is_whole
theorem sc_is_whole : FnScope N_is_whole ["thing"] (defScope (top 1)) := ⟨rfl, rfl, rfl, by decide +kernel, rfl, by decide +kernel, by decide +kernel⟩
theorem fo_is_whole (G : GF P K mg base D w) {fA : Addr} {fd : FuncData} (FD : FunD K "is_whole" "is_whole" (defArgs (top 1)) (defBody (top 1)) (defScope (top 1)) [] [] fA fd) : FnOk P w K mg base (L2.CX P w) 1 fA fd ["thing"] (spF D w 1 F_is_whole) := by
  refine fn_ok FD sc_is_whole rfl (by decide) fun cdv A outer s H E hr => ?_
  have c := Sc.fn (P := P) (w := w) (D := D) (E := E) (H := H) (K := K) (base := base) (outer := outer) (N := N_is_whole) (is := [0]) (ls := [0]) (gs := []) (bs := ["isinstance", "int", "bool"]) (by kernel_rfl) (G.free (by kernel_rfl)) sc_is_whole.nd hr
  have ow := own_fn (P := P) (w := w) (K := K) (mg := mg) (base := base) (N := N_is_whole) (qual := "is_whole") (scope := defScope (top 1)) (f := fA) (cdv := cdv) (A := A) (outer := outer) (s := s) (H := H) (E := E)
  exact xs_cons (xs_ret (xe_and (nIsi c G.hk 0 rfl (xa_cons (nv c 0 rfl rfl) (xa_cons (nTy c 1 rfl boot_int) (xa_nil) rfl) rfl) rfl rfl) (xe_one (xe_not (nIsi c G.hk 0 rfl (xa_cons (nv c 0 rfl rfl) (xa_cons (nTy c 2 rfl boot_bool) (xa_nil) rfl) rfl) rfl rfl))))) (xs_nil)
theorem ok_is_whole (G : GF P K mg base D w) : Fk P K mg base D w 1 "is_whole" 1 F_is_whole [] := by
  obtain ⟨fA, fd, FD, hm⟩ := G.def_is_whole
  exact ⟨fA, fd, ["thing"], [], [], hm, fo_is_whole G FD, FD.bindsN fun _ _ _ _ _ _ us hl => match us, hl with | [_], _ => rfl, .nil, fun _ => by simp only [RTs], FD.kp⟩
/-! ### is_within -/
def N_is_within : List Str := ["thing", "low", "high"]
noncomputable def m_is_within : MS := sSeq (sRet (mAndV (mA (callF F_is_whole 1 [] true) (aCons (mVar 0) (aNil))) (mChain (fLe) (fLe) (mVar 1) (mVar 0) (mVar 2)))) (sNil)
noncomputable def F_is_within : MF := runF 3 3 m_is_within
theorem sc_is_within : FnScope N_is_within ["thing", "low", "high"] (defScope (top 2)) := ⟨rfl, rfl, rfl, by decide +kernel, rfl, by decide +kernel, by decide +kernel⟩
theorem fo_is_within (G : GF P K mg base D w) {fA : Addr} {fd : FuncData} (FD : FunD K "is_within" "is_within" (defArgs (top 2)) (defBody (top 2)) (defScope (top 2)) [] [] fA fd) : FnOk P w K mg base (L2.CX P w) 2 fA fd ["thing", "low", "high"] (spF D w 3 F_is_within) := by
  refine fn_ok FD sc_is_within rfl (by decide) fun cdv A outer s H E hr => ?_
  have c := Sc.fn (P := P) (w := w) (D := D) (E := E) (H := H) (K := K) (base := base) (outer := outer) (N := N_is_within) (is := [0, 1, 2]) (ls := [0, 1, 2]) (gs := ["is_whole"]) (bs := []) (by kernel_rfl) (G.free (by kernel_rfl)) sc_is_within.nd hr
  have ow := own_fn (P := P) (w := w) (K := K) (mg := mg) (base := base) (N := N_is_within) (qual := "is_within") (scope := defScope (top 2)) (f := fA) (cdv := cdv) (A := A) (outer := outer) (s := s) (H := H) (E := E)
  exact xs_cons (xs_ret (xe_and (nCall c true 0 rfl (ok_is_whole G) (by decide) (xa_cons (nv c 0 rfl rfl) (xa_nil) rfl) rfl rfl) (xe_one (nChain (kLe c) (kLe c) (nv c 1 rfl rfl) (nv c 0 rfl rfl) (nv c 2 rfl rfl) rfl)))) (xs_nil)
theorem ok_is_within (G : GF P K mg base D w) : Fk P K mg base D w 2 "is_within" 3 F_is_within [] := by
  obtain ⟨fA, fd, FD, hm⟩ := G.def_is_within
  exact ⟨fA, fd, ["thing", "low", "high"], [], [], hm, fo_is_within G FD, FD.bindsN fun _ _ _ _ _ _ us hl => match us, hl with | [_, _, _], _ => rfl, .nil, fun _ => by simp only [RTs], FD.kp⟩
/-! ### begins_well -/
def N_begins_well : List Str := ["thing", "most"]
noncomputable def m_begins_well : MS := sSeq (sRet (mAndV (mA (fIsi ktB) (aCons (mVar 0) (aCons (mT (.ty "str")) (aNil)))) (mAndV (mChain (fLe) (fLe) (mT (.int 1)) (mA fLen (aCons (mVar 0) (aNil))) (mVar 1)) (mChain (fLe) (fLe) (mT (.str "a")) (m2 fIdx (mVar 0) (mT (.int 0))) (mT (.str "z")))))) (sNil)
noncomputable def F_begins_well : MF := runF 2 2 m_begins_well
theorem sc_begins_well : FnScope N_begins_well ["thing", "most"] (defScope (top 4)) := ⟨rfl, rfl, rfl, by decide +kernel, rfl, by decide +kernel, by decide +kernel⟩
theorem fo_begins_well (G : GF P K mg base D w) {fA : Addr} {fd : FuncData} (FD : FunD K "begins_well" "begins_well" (defArgs (top 4)) (defBody (top 4)) (defScope (top 4)) [] [] fA fd) : FnOk P w K mg base (L2.CX P w) 1 fA fd ["thing", "most"] (spF D w 2 F_begins_well) := by
  refine fn_ok FD sc_begins_well rfl (by decide) fun cdv A outer s H E hr => ?_
  have c := Sc.fn (P := P) (w := w) (D := D) (E := E) (H := H) (K := K) (base := base) (outer := outer) (N := N_begins_well) (is := [0, 1]) (ls := [0, 1]) (gs := []) (bs := ["isinstance", "str", "len"]) (by kernel_rfl) (G.free (by kernel_rfl)) sc_begins_well.nd hr
  have ow := own_fn (P := P) (w := w) (K := K) (mg := mg) (base := base) (N := N_begins_well) (qual := "begins_well") (scope := defScope (top 4)) (f := fA) (cdv := cdv) (A := A) (outer := outer) (s := s) (H := H) (E := E)
  exact xs_cons (xs_ret (xe_and (nIsi c G.hk 0 rfl (xa_cons (nv c 0 rfl rfl) (xa_cons (nTy c 1 rfl boot_str) (xa_nil) rfl) rfl) rfl rfl) (xe_and (nChain (kLe c) (kLe c) (xe_int) (nLen c 2 rfl (xa_cons (nv c 0 rfl rfl) (xa_nil) rfl) rfl rfl) (nv c 1 rfl rfl) rfl) (xe_one (nChain (kLe c) (kLe c) (xe_str) (nIx (nv c 0 rfl rfl) (xe_int) (fun _ _ => rfl)) (xe_str) rfl))))) (xs_nil)
theorem ok_begins_well (G : GF P K mg base D w) : Fk P K mg base D w 1 "begins_well" 2 F_begins_well [] := by
  obtain ⟨fA, fd, FD, hm⟩ := G.def_begins_well
  exact ⟨fA, fd, ["thing", "most"], [], [], hm, fo_begins_well G FD, FD.bindsN fun _ _ _ _ _ _ us hl => match us, hl with | [_, _], _ => rfl, .nil, fun _ => by simp only [RTs], FD.kp⟩
/-! ### is_name -/
def N_is_name : List Str := ["thing"]
noncomputable def m_is_name : MS := sSeq (sRet (mAndV (mA (callF F_begins_well 2 [] true) (aCons (mVar 0) (aCons (mT (.int 8)) (aNil)))) (mA (callF F_are_signs 2 [] true) (aCons (mVar 0) (aCons (mT (.str "abcdefghijklmnopqrstuvwxyz0123456789")) (aNil)))))) (sNil)
noncomputable def F_is_name : MF := runF 1 1 m_is_name
theorem sc_is_name : FnScope N_is_name ["thing"] (defScope (top 5)) := ⟨rfl, rfl, rfl, by decide +kernel, rfl, by decide +kernel, by decide +kernel⟩
theorem fo_is_name (G : GF P K mg base D w) {fA : Addr} {fd : FuncData} (FD : FunD K "is_name" "is_name" (defArgs (top 5)) (defBody (top 5)) (defScope (top 5)) [] [] fA fd) : FnOk P w K mg base (L2.CX P w) 2 fA fd ["thing"] (spF D w 1 F_is_name) := by
  refine fn_ok FD sc_is_name rfl (by decide) fun cdv A outer s H E hr => ?_
  have c := Sc.fn (P := P) (w := w) (D := D) (E := E) (H := H) (K := K) (base := base) (outer := outer) (N := N_is_name) (is := [0]) (ls := [0]) (gs := ["begins_well", "are_signs"]) (bs := []) (by kernel_rfl) (G.free (by kernel_rfl)) sc_is_name.nd hr
  have ow := own_fn (P := P) (w := w) (K := K) (mg := mg) (base := base) (N := N_is_name) (qual := "is_name") (scope := defScope (top 5)) (f := fA) (cdv := cdv) (A := A) (outer := outer) (s := s) (H := H) (E := E)
  exact xs_cons (xs_ret (xe_and (nCall c true 0 rfl (ok_begins_well G) (by decide) (xa_cons (nv c 0 rfl rfl) (xa_cons (xe_int) (xa_nil) rfl) rfl) rfl rfl) (xe_one (nCall c true 1 rfl (ok_are_signs G) (by decide) (xa_cons (nv c 0 rfl rfl) (xa_cons (xe_str) (xa_nil) rfl) rfl) rfl rfl)))) (xs_nil)
theorem ok_is_name (G : GF P K mg base D w) : Fk P K mg base D w 2 "is_name" 1 F_is_name [] := by
  obtain ⟨fA, fd, FD, hm⟩ := G.def_is_name
  exact ⟨fA, fd, ["thing"], [], [], hm, fo_is_name G FD, FD.bindsN fun _ _ _ _ _ _ us hl => match us, hl with | [_], _ => rfl, .nil, fun _ => by simp only [RTs], FD.kp⟩
/-! ### _law_is -/
def N__law_is : List Str := ["_law_thing", "_law_most", "_law_more", "_law_k", "_law_sign"]
noncomputable def m__law_is : MS := sSeq (sIf (bOr (bNot (bOf (mA (fIsi ktB) (aCons (mVar 0) (aCons (mT (.ty "str")) (aNil)))))) (bOr (bOf (m2 (fLt) (mA fLen (aCons (mVar 0) (aNil))) (mT (.int 1)))) (bOf (m2 (fGt) (mA fLen (aCons (mVar 0) (aNil))) (mVar 1))))) (sSeq (sRet (mT (.bl false))) (sNil)) (sNil)) (sSeq (sFor (iEnu (aCons (mVar 0) (aNil))) (gT [3, 4]) (sSeq (sIf (bOf (m2 (fIn false) (mVar 4) (mT (.str "abcdefghijklmnopqrstuvwxyz")))) (sSeq (sCont) (sNil)) (sNil)) (sSeq (sIf (bOr (bOf (m2 (fEq false) (mVar 3) (mT (.int 0)))) (bOf (m2 (fIn true) (mVar 4) (m2 (fAdd false) (mT (.str "0123456789")) (mVar 2))))) (sSeq (sRet (mT (.bl false))) (sNil)) (sNil)) (sNil)))) (sSeq (sRet (mT (.bl true))) (sNil)))
noncomputable def F__law_is : MF := runF 5 3 m__law_is
theorem sc__law_is : FnScope N__law_is ["_law_thing", "_law_most", "_law_more"] (defScope (top 15)) := ⟨rfl, rfl, rfl, by decide +kernel, rfl, by decide +kernel, by decide +kernel⟩
theorem fo__law_is (G : GF P K mg base D w) {fA : Addr} {fd : FuncData} (FD : FunD K "_law_is" "_law_is" (defArgs (top 15)) (defBody (top 15)) (defScope (top 15)) [] [] fA fd) : FnOk P w K mg base (L2.CX P w) 1 fA fd ["_law_thing", "_law_most", "_law_more"] (spF D w 3 F__law_is) := by
  refine fn_ok FD sc__law_is rfl (by decide) fun cdv A outer s H E hr => ?_
  have c := Sc.fn (P := P) (w := w) (D := D) (E := E) (H := H) (K := K) (base := base) (outer := outer) (N := N__law_is) (is := [0, 1, 2, 3, 4]) (ls := [0, 1, 2, 3, 4]) (gs := []) (bs := ["isinstance", "str", "len", "enumerate"]) (by kernel_rfl) (G.free (by kernel_rfl)) sc__law_is.nd hr
  have ow := own_fn (P := P) (w := w) (K := K) (mg := mg) (base := base) (N := N__law_is) (qual := "_law_is") (scope := defScope (top 15)) (f := fA) (cdv := cdv) (A := A) (outer := outer) (s := s) (H := H) (E := E)
  exact xs_cons (xs_if ((xw_or (xt_not (xt_val (nIsi c G.hk 0 rfl (xa_cons (nv c 0 rfl rfl) (xa_cons (nTy c 1 rfl boot_str) (xa_nil) rfl) rfl) rfl rfl) (fun _ => rfl))) (xw_or (tCmp (kLt c) (nLen c 2 rfl (xa_cons (nv c 0 rfl rfl) (xa_nil) rfl) rfl rfl) (xe_int) rfl) (xw_or1 (tCmp (kGt c) (nLen c 2 rfl (xa_cons (nv c 0 rfl rfl) (xa_nil) rfl) rfl rfl) (nv c 1 rfl rfl) rfl)))).pt) (xs_cons (xs_ret (xe_bl)) (xs_nil)) (xs_nil)) (xs_cons (xs_for ow c.calm (xi_enu (c.bl 3 _ rfl).1 (c.bl 3 _ rfl).2.1 (xa_cons (nv c 0 rfl rfl) (xa_nil) rfl) rfl) (xg_tup c.calm (gs_cons c 3 rfl rfl (gs_cons c 4 rfl rfl (gs_nil) rfl) rfl) rfl rfl) (xs_cons (xs_if (tCmp (kIn c) (nv c 4 rfl rfl) (xe_str) rfl) (xs_cons (xs_cont) (xs_nil)) (xs_nil)) (xs_cons (xs_if ((xw_or (tCmp (kEq c) (nv c 3 rfl rfl) (xe_int) rfl) (xw_or1 (tCmp (kNIn c) (nv c 4 rfl rfl) (nAdd c false (xe_str) (nv c 2 rfl rfl)) rfl))).pt) (xs_cons (xs_ret (xe_bl)) (xs_nil)) (xs_nil)) (xs_nil))) (fun _ => rfl)) (xs_cons (xs_ret (xe_bl)) (xs_nil)))
theorem ok__law_is (G : GF P K mg base D w) : Fk P K mg base D w 1 "_law_is" 3 F__law_is [] := by
  obtain ⟨fA, fd, FD, hm⟩ := G.def__law_is
  exact ⟨fA, fd, ["_law_thing", "_law_most", "_law_more"], [], [], hm, fo__law_is G FD, FD.bindsN fun _ _ _ _ _ _ us hl => match us, hl with | [_, _, _], _ => rfl, .nil, fun _ => by simp only [RTs], FD.kp⟩
/-! ### is_group_name -/
def N_is_group_name : List Str := ["thing"]
noncomputable def m_is_group_name : MS := sSeq (sRet (mAndV (mA (callF F_begins_well 2 [] true) (aCons (mVar 0) (aCons (mT (.int 12)) (aNil)))) (mA (callF F_are_signs 2 [] true) (aCons (mVar 0) (aCons (mT (.str "abcdefghijklmnopqrstuvwxyz0123456789.")) (aNil)))))) (sNil)
noncomputable def F_is_group_name : MF := runF 1 1 m_is_group_name
theorem sc_is_group_name : FnScope N_is_group_name ["thing"] (defScope (top 6)) := ⟨rfl, rfl, rfl, by decide +kernel, rfl, by decide +kernel, by decide +kernel⟩
theorem fo_is_group_name (G : GF P K mg base D w) {fA : Addr} {fd : FuncData} (FD : FunD K "is_group_name" "is_group_name" (defArgs (top 6)) (defBody (top 6)) (defScope (top 6)) [] [] fA fd) : FnOk P w K mg base (L2.CX P w) 2 fA fd ["thing"] (spF D w 1 F_is_group_name) := by
  refine fn_ok FD sc_is_group_name rfl (by decide) fun cdv A outer s H E hr => ?_
  have c := Sc.fn (P := P) (w := w) (D := D) (E := E) (H := H) (K := K) (base := base) (outer := outer) (N := N_is_group_name) (is := [0]) (ls := [0]) (gs := ["begins_well", "are_signs"]) (bs := []) (by kernel_rfl) (G.free (by kernel_rfl)) sc_is_group_name.nd hr
  have ow := own_fn (P := P) (w := w) (K := K) (mg := mg) (base := base) (N := N_is_group_name) (qual := "is_group_name") (scope := defScope (top 6)) (f := fA) (cdv := cdv) (A := A) (outer := outer) (s := s) (H := H) (E := E)
  exact xs_cons (xs_ret (xe_and (nCall c true 0 rfl (ok_begins_well G) (by decide) (xa_cons (nv c 0 rfl rfl) (xa_cons (xe_int) (xa_nil) rfl) rfl) rfl rfl) (xe_one (nCall c true 1 rfl (ok_are_signs G) (by decide) (xa_cons (nv c 0 rfl rfl) (xa_cons (xe_str) (xa_nil) rfl) rfl) rfl rfl)))) (xs_nil)
theorem ok_is_group_name (G : GF P K mg base D w) : Fk P K mg base D w 2 "is_group_name" 1 F_is_group_name [] := by
  obtain ⟨fA, fd, FD, hm⟩ := G.def_is_group_name
  exact ⟨fA, fd, ["thing"], [], [], hm, fo_is_group_name G FD, FD.bindsN fun _ _ _ _ _ _ us hl => match us, hl with | [_], _ => rfl, .nil, fun _ => by simp only [RTs], FD.kp⟩
/-! ### _law_right -/
def N__law_right : List Str := ["_law_thing", "_law_low", "_law_high", "_law_whole_here", "_law_found", "_law_due"]
noncomputable def m__law_right : MS := sSeq (sAsg (mA (callF F__law_whole 1 [] true) (aCons (mVar 0) (aNil))) (gN 3)) (sSeq (sIf (bNot (bOf (mA (callF F__law_same 2 [] true) (aCons (mA (callF F_is_whole 1 [] true) (aCons (mVar 0) (aNil))) (aCons (mVar 3) (aNil)))))) (sSeq (sRet (mT (.bl false))) (sNil)) (sNil)) (sSeq (sIf (bNot (bOf (mA (callF F__law_same 2 [] true) (aCons (mA (callF F_is_within 3 [] true) (aCons (mVar 0) (aCons (mVar 1) (aCons (mVar 2) (aNil))))) (aCons (mAndV (mVar 3) (mAndV (m2 (fLe) (mVar 1) (mVar 0)) (m2 (fLe) (mVar 0) (mVar 2)))) (aNil)))))) (sSeq (sRet (mT (.bl false))) (sNil)) (sNil)) (sSeq (sIf (bNot (bOf (mA (callF F__law_same 2 [] true) (aCons (mA (callF F_is_name 1 [] true) (aCons (mVar 0) (aNil))) (aCons (mA (callF F__law_is 3 [] true) (aCons (mVar 0) (aCons (mT (.int 8)) (aCons (mT (.str "")) (aNil))))) (aNil)))))) (sSeq (sRet (mT (.bl false))) (sNil)) (sNil)) (sSeq (sIf (bNot (bOf (mA (callF F__law_same 2 [] true) (aCons (mA (callF F_is_group_name 1 [] true) (aCons (mVar 0) (aNil))) (aCons (mA (callF F__law_is 3 [] true) (aCons (mVar 0) (aCons (mT (.int 12)) (aCons (mT (.str ".")) (aNil))))) (aNil)))))) (sSeq (sRet (mT (.bl false))) (sNil)) (sNil)) (sSeq (sAsg (mA (callF F_number_of 1 [] true) (aCons (mVar 0) (aNil))) (gN 4)) (sSeq (sAsg (mA (callF F__law_number 1 [] true) (aCons (mVar 0) (aNil))) (gN 5)) (sSeq (sRet (mOrV (mAndV (m2 (fIsN false) (mVar 4) (mT .non)) (m2 (fIsN false) (mVar 5) (mT .non))) (mAndV (m2 (fIsN true) (mVar 5) (mT .non)) (mAndV (mA (callF F__law_whole 1 [] true) (aCons (mVar 4) (aNil))) (m2 (fEq false) (mVar 4) (mVar 5)))))) (sNil))))))))
noncomputable def F__law_right : MF := runF 6 3 m__law_right
theorem sc__law_right : FnScope N__law_right ["_law_thing", "_law_low", "_law_high"] (defScope (top 19)) := ⟨rfl, rfl, rfl, by decide +kernel, rfl, by decide +kernel, by decide +kernel⟩
theorem fo__law_right (G : GF P K mg base D w) {fA : Addr} {fd : FuncData} (FD : FunD K "_law_right" "_law_right" (defArgs (top 19)) (defBody (top 19)) (defScope (top 19)) [] [] fA fd) : FnOk P w K mg base (L2.CX P w) 3 fA fd ["_law_thing", "_law_low", "_law_high"] (spF D w 3 F__law_right) := by
  refine fn_ok FD sc__law_right rfl (by decide) fun cdv A outer s H E hr => ?_
  have c := Sc.fn (P := P) (w := w) (D := D) (E := E) (H := H) (K := K) (base := base) (outer := outer) (N := N__law_right) (is := [0, 1, 2, 3, 4, 5]) (ls := [0, 1, 2, 3, 4, 5]) (gs := ["_law_whole", "_law_same", "is_whole", "is_within", "is_name", "_law_is", "is_group_name", "number_of", "_law_number"]) (bs := []) (by kernel_rfl) (G.free (by kernel_rfl)) sc__law_right.nd hr
  have ow := own_fn (P := P) (w := w) (K := K) (mg := mg) (base := base) (N := N__law_right) (qual := "_law_right") (scope := defScope (top 19)) (f := fA) (cdv := cdv) (A := A) (outer := outer) (s := s) (H := H) (E := E)
  exact xs_cons (xs_asg (nCall c true 0 rfl (ok__law_whole G) (by decide) (xa_cons (nv c 0 rfl rfl) (xa_nil) rfl) rfl rfl) (gv c 3 rfl rfl) rfl rfl rfl) (xs_cons (xs_if (xt_not (xt_val (nCall c true 1 rfl (ok__law_same G) (by decide) (xa_cons (nCall c true 2 rfl (ok_is_whole G) (by decide) (xa_cons (nv c 0 rfl rfl) (xa_nil) rfl) rfl rfl) (xa_cons (nv c 3 rfl rfl) (xa_nil) rfl) rfl) rfl rfl) (fun _ => rfl))) (xs_cons (xs_ret (xe_bl)) (xs_nil)) (xs_nil)) (xs_cons (xs_if (xt_not (xt_val (nCall c true 1 rfl (ok__law_same G) (by decide) (xa_cons (nCall c true 3 rfl (ok_is_within G) (by decide) (xa_cons (nv c 0 rfl rfl) (xa_cons (nv c 1 rfl rfl) (xa_cons (nv c 2 rfl rfl) (xa_nil) rfl) rfl) rfl) rfl rfl) (xa_cons (xe_and (nv c 3 rfl rfl) (xe_and (nCmp (kLe c) (nv c 1 rfl rfl) (nv c 0 rfl rfl) rfl) (xe_one (nCmp (kLe c) (nv c 0 rfl rfl) (nv c 2 rfl rfl) rfl)))) (xa_nil) rfl) rfl) rfl rfl) (fun _ => rfl))) (xs_cons (xs_ret (xe_bl)) (xs_nil)) (xs_nil)) (xs_cons (xs_if (xt_not (xt_val (nCall c true 1 rfl (ok__law_same G) (by decide) (xa_cons (nCall c true 4 rfl (ok_is_name G) (by decide) (xa_cons (nv c 0 rfl rfl) (xa_nil) rfl) rfl rfl) (xa_cons (nCall c true 5 rfl (ok__law_is G) (by decide) (xa_cons (nv c 0 rfl rfl) (xa_cons (xe_int) (xa_cons (xe_str) (xa_nil) rfl) rfl) rfl) rfl rfl) (xa_nil) rfl) rfl) rfl rfl) (fun _ => rfl))) (xs_cons (xs_ret (xe_bl)) (xs_nil)) (xs_nil)) (xs_cons (xs_if (xt_not (xt_val (nCall c true 1 rfl (ok__law_same G) (by decide) (xa_cons (nCall c true 6 rfl (ok_is_group_name G) (by decide) (xa_cons (nv c 0 rfl rfl) (xa_nil) rfl) rfl rfl) (xa_cons (nCall c true 5 rfl (ok__law_is G) (by decide) (xa_cons (nv c 0 rfl rfl) (xa_cons (xe_int) (xa_cons (xe_str) (xa_nil) rfl) rfl) rfl) rfl rfl) (xa_nil) rfl) rfl) rfl rfl) (fun _ => rfl))) (xs_cons (xs_ret (xe_bl)) (xs_nil)) (xs_nil)) (xs_cons (xs_asg (nCall c true 7 rfl (ok_number_of G) (by decide) (xa_cons (nv c 0 rfl rfl) (xa_nil) rfl) rfl rfl) (gv c 4 rfl rfl) rfl rfl rfl) (xs_cons (xs_asg (nCall c true 8 rfl (ok__law_number G) (by decide) (xa_cons (nv c 0 rfl rfl) (xa_nil) rfl) rfl rfl) (gv c 5 rfl rfl) rfl rfl rfl) (xs_cons (xs_ret (xe_or (xe_and (nCmp (kIs c) (nv c 4 rfl rfl) (xe_non) rfl) (xe_one (nCmp (kIs c) (nv c 5 rfl rfl) (xe_non) rfl))) (xe_one (xe_and (nCmp (kIsN c) (nv c 5 rfl rfl) (xe_non) rfl) (xe_and (nCall c true 0 rfl (ok__law_whole G) (by decide) (xa_cons (nv c 4 rfl rfl) (xa_nil) rfl) rfl rfl) (xe_one (nCmp (kEq c) (nv c 4 rfl rfl) (nv c 5 rfl rfl) rfl))))))) (xs_nil))))))))
theorem ok__law_right (G : GF P K mg base D w) : Fk P K mg base D w 3 "_law_right" 3 F__law_right [] := by
  obtain ⟨fA, fd, FD, hm⟩ := G.def__law_right
  exact ⟨fA, fd, ["_law_thing", "_law_low", "_law_high"], [], [], hm, fo__law_right G FD, FD.bindsN fun _ _ _ _ _ _ us hl => match us, hl with | [_, _, _], _ => rfl, .nil, fun _ => by simp only [RTs], FD.kp⟩
/-! ### law -/
def N_law : List Str := ["_law_script", "_law_cell_here", "_law_box_here", "_law_things_here", "_law_most", "_law_bounds", "_law_thing", "_law_low", "_law_high", "_law_number_here"]
noncomputable def m_law : MS := sSeq (sFor (iVal (m2 (fAdd false) (mSl false (mVar 0) (oNone) (oSome (mT (.int 60)))) (mLst false (aCons (mT (.int 2)) (aCons (mT (.int 3)) (aCons (mT (.int 5)) (aCons (mT (.int 7)) (aCons (mT (.int 11)) (aNil))))))))) (gN 1) (sSeq (sAsg (mA (callF F__law_box 1 [] false) (aCons (mVar 1) (aNil))) (gN 2)) (sSeq (sAsg (mA (callF F__law_things 2 [] false) (aCons (mVar 2) (aCons (mA (callF F__law_text 1 [] false) (aCons (mVar 2) (aNil))) (aNil)))) (gN 3)) (sSeq (sAsg (m2 fSub (m2 fPow (mT (.int 10)) (mT (.int 30))) (mT (.int 1))) (gN 4)) (sSeq (sAsg (mLst false (aCons (mTup (aCons (m1 fNeg (mT (.int 12))) (aCons (mT (.int 11)) (aNil)))) (aCons (mTup (aCons (mT (.int 0)) (aCons (mT (.int 0)) (aNil)))) (aCons (mTup (aCons (mT (.int 1)) (aCons (mT (.int 50)) (aNil)))) (aCons (mTup (aCons (mT (.int 5)) (aCons (mT (.int 4)) (aNil)))) (aCons (mTup (aCons (m2 fIdx (mVar 3) (mT (.int 1))) (aCons (m2 fIdx (mVar 3) (mT (.int 1))) (aNil)))) (aCons (mTup (aCons (mA fMin (aCons (m2 (fAdd false) (m2 fIdx (mVar 3) (mT (.int 1))) (mT (.int 1))) (aCons (mVar 4) (aNil)))) (aCons (mVar 4) (aNil)))) (aNil)))))))) (gN 5)) (sSeq (sFor (iVal (mVar 3)) (gN 6) (sSeq (sAsg (m2 fIdx (mVar 5) (mA (callF F__law_take 2 [] false) (aCons (mVar 2) (aCons (mT (.int 6)) (aNil))))) (gT [7, 8])) (sSeq (sIf (bNot (bOf (mA (callF F__law_right 3 [] true) (aCons (mVar 6) (aCons (mVar 7) (aCons (mVar 8) (aNil))))))) (sSeq (sRet (mT (.bl false))) (sNil)) (sNil)) (sNil)))) (sNil))))))) (sSeq (sFor (iR1 (aCons (mT (.int 12)) (aNil))) (gN 9) (sSeq (sIf (bOf (m2 (fEq true) (mA (callF F_number_of 1 [] true) (aCons (mA fStr (aCons (m2 (fMul false) (mVar 9) (mT (.int 911))) (aNil))) (aNil))) (m2 fIdx (mLst false (aCons (m2 (fMul false) (mVar 9) (mT (.int 911))) (aCons (mT .non) (aNil)))) (mA fInt (aCons (m2 (fGt) (m2 (fMul false) (mVar 9) (mT (.int 911))) (mT (.int 9999))) (aNil)))))) (sSeq (sRet (mT (.bl false))) (sNil)) (sNil)) (sNil))) (sSeq (sRet (mAndV (m2 (fIsN false) (mA (callF F_number_of 1 [] true) (aCons (mT (.str "10000")) (aNil))) (mT .non)) (mAndV (m2 (fEq false) (mA (callF F_number_of 1 [] true) (aCons (mT (.str "9999")) (aNil))) (mT (.int 9999))) (m2 (fEq false) (mA (callF F_number_of 1 [] true) (aCons (mT (.str "0")) (aNil))) (mT (.int 0)))))) (sNil)))
noncomputable def F_law : MF := runF 10 1 m_law
theorem sc_law : FnScope N_law ["_law_script"] (defScope (top 20)) := ⟨rfl, rfl, rfl, by decide +kernel, rfl, by decide +kernel, by decide +kernel⟩
theorem fo_law (G : GF P K mg base D w) {fA : Addr} {fd : FuncData} (FD : FunD K "law" "law" (defArgs (top 20)) (defBody (top 20)) (defScope (top 20)) [] [] fA fd) : FnOk P w K mg base (L2.CX P w) 4 fA fd ["_law_script"] (spF D w 1 F_law) := by
  refine fn_ok FD sc_law rfl (by decide) fun cdv A outer s H E hr => ?_
  have c := Sc.fn (P := P) (w := w) (D := D) (E := E) (H := H) (K := K) (base := base) (outer := outer) (N := N_law) (is := [0, 1, 2, 3, 4, 5, 6, 7, 8, 9]) (ls := [0, 1, 2, 3, 4, 5, 6, 7, 8, 9]) (gs := ["_law_box", "_law_things", "_law_text", "_law_take", "_law_right", "number_of"]) (bs := ["min", "range", "str", "int"]) (by kernel_rfl) (G.free (by kernel_rfl)) sc_law.nd hr
  have ow := own_fn (P := P) (w := w) (K := K) (mg := mg) (base := base) (N := N_law) (qual := "law") (scope := defScope (top 20)) (f := fA) (cdv := cdv) (A := A) (outer := outer) (s := s) (H := H) (E := E)
  exact xs_cons (xs_for ow c.calm (xi_val (nAdd c false (xe_sl (live := false) (nv c 0 rfl rfl) (xo_none) (xo_some (xe_int))) (xe_lst (live := false) (xa_cons (xe_int) (xa_cons (xe_int) (xa_cons (xe_int) (xa_cons (xe_int) (xa_cons (xe_int) (xa_nil) rfl) rfl) rfl) rfl) rfl)))) (gv c 1 rfl rfl) (xs_cons (xs_asg (nCall c false 0 rfl (ok__law_box G) (by decide) (xa_cons (nv c 1 rfl rfl) (xa_nil) rfl) rfl rfl) (gv c 2 rfl rfl) rfl rfl rfl) (xs_cons (xs_asg (nCall c false 1 rfl (ok__law_things G) (by decide) (xa_cons (nv c 2 rfl rfl) (xa_cons (nCall c false 2 rfl (ok__law_text G) (by decide) (xa_cons (nv c 2 rfl rfl) (xa_nil) rfl) rfl rfl) (xa_nil) rfl) rfl) rfl rfl) (gv c 3 rfl rfl) rfl rfl rfl) (xs_cons (xs_asg (nSub c (nPow c (xe_int) (xe_int)) (xe_int)) (gv c 4 rfl rfl) rfl rfl rfl) (xs_cons (xs_asg (xe_lst (live := false) (xa_cons (xe_tup (xa_cons (nNeg c (xe_int)) (xa_cons (xe_int) (xa_nil) rfl) rfl)) (xa_cons (xe_tup (xa_cons (xe_int) (xa_cons (xe_int) (xa_nil) rfl) rfl)) (xa_cons (xe_tup (xa_cons (xe_int) (xa_cons (xe_int) (xa_nil) rfl) rfl)) (xa_cons (xe_tup (xa_cons (xe_int) (xa_cons (xe_int) (xa_nil) rfl) rfl)) (xa_cons (xe_tup (xa_cons (nIx (nv c 3 rfl rfl) (xe_int) (fun _ _ => rfl)) (xa_cons (nIx (nv c 3 rfl rfl) (xe_int) (fun _ _ => rfl)) (xa_nil) rfl) rfl)) (xa_cons (xe_tup (xa_cons (nMin c 0 rfl (xa_cons (nAdd c false (nIx (nv c 3 rfl rfl) (xe_int) (fun _ _ => rfl)) (xe_int)) (xa_cons (nv c 4 rfl rfl) (xa_nil) rfl) rfl) rfl rfl) (xa_cons (nv c 4 rfl rfl) (xa_nil) rfl) rfl)) (xa_nil) rfl) rfl) rfl) rfl) rfl) rfl)) (gv c 5 rfl rfl) rfl rfl rfl) (xs_cons (xs_for ow c.calm (xi_val (nv c 3 rfl rfl)) (gv c 6 rfl rfl) (xs_cons (xs_asg (nIx (nv c 5 rfl rfl) (nCall c false 3 rfl (ok__law_take G) (by decide) (xa_cons (nv c 2 rfl rfl) (xa_cons (xe_int) (xa_nil) rfl) rfl) rfl rfl) (fun _ _ => rfl)) (xg_tup c.calm (gs_cons c 7 rfl rfl (gs_cons c 8 rfl rfl (gs_nil) rfl) rfl) rfl rfl) rfl rfl rfl) (xs_cons (xs_if (xt_not (xt_val (nCall c true 4 rfl (ok__law_right G) (by decide) (xa_cons (nv c 6 rfl rfl) (xa_cons (nv c 7 rfl rfl) (xa_cons (nv c 8 rfl rfl) (xa_nil) rfl) rfl) rfl) rfl rfl) (fun _ => rfl))) (xs_cons (xs_ret (xe_bl)) (xs_nil)) (xs_nil)) (xs_nil))) (fun _ => rfl)) (xs_nil)))))) (fun _ => rfl)) (xs_cons (xs_for ow c.calm (xi_r1 (c.bl 1 _ rfl).1 (c.bl 1 _ rfl).2.1 (xa_cons (xe_int) (xa_nil) rfl) rfl) (gv c 9 rfl rfl) (xs_cons (xs_if (tCmp (kNe c) (nCall c true 5 rfl (ok_number_of G) (by decide) (xa_cons (nStr c 2 rfl (xa_cons (nMul c false (nv c 9 rfl rfl) (xe_int)) (xa_nil) rfl) rfl rfl) (xa_nil) rfl) rfl rfl) (nIx (xe_lst (live := false) (xa_cons (nMul c false (nv c 9 rfl rfl) (xe_int)) (xa_cons (xe_non) (xa_nil) rfl) rfl)) (nInt c 3 rfl (xa_cons (nCmp (kGt c) (nMul c false (nv c 9 rfl rfl) (xe_int)) (xe_int) rfl) (xa_nil) rfl) rfl rfl) (fun _ _ => rfl)) rfl) (xs_cons (xs_ret (xe_bl)) (xs_nil)) (xs_nil)) (xs_nil)) (fun _ => rfl)) (xs_cons (xs_ret (xe_and (nCmp (kIs c) (nCall c true 5 rfl (ok_number_of G) (by decide) (xa_cons (xe_str) (xa_nil) rfl) rfl rfl) (xe_non) rfl) (xe_and (nCmp (kEq c) (nCall c true 5 rfl (ok_number_of G) (by decide) (xa_cons (xe_str) (xa_nil) rfl) rfl rfl) (xe_int) rfl) (xe_one (nCmp (kEq c) (nCall c true 5 rfl (ok_number_of G) (by decide) (xa_cons (xe_str) (xa_nil) rfl) rfl rfl) (xe_int) rfl))))) (xs_nil)))
theorem ok_law (G : GF P K mg base D w) : Fk P K mg base D w 4 "law" 1 F_law [] := by
  obtain ⟨fA, fd, FD, hm⟩ := G.def_law
  exact ⟨fA, fd, ["_law_script"], [], [], hm, fo_law G FD, FD.bindsN fun _ _ _ _ _ _ us hl => match us, hl with | [_], _ => rfl, .nil, fun _ => by simp only [RTs], FD.kp⟩
end
end HQ
namespace HQ
open PySem PySem.Spec PyProof.Rows L2
local macro_rules | `(tactic| walk_at "side") => `(tactic| first | omega | assumption | (simp only [bigL]; omega) | decide)
local macro_rules | `(tactic| walk_at "w") => `(tactic| first
  | with_reducible refine ws_sSeq ?_
  | ((with_reducible refine' w_var ?wv ?_); (case' wv => exact rfl))
  | with_reducible refine w_T ?_
  | with_reducible refine w_m2 ?_
  | with_reducible refine w_mA ?_
  | with_reducible refine w_aCons ?_
  | with_reducible refine w_aNil ?_
  | with_reducible refine ws_asgN ?_
  | with_reducible refine ws_ret ?_
  | with_reducible refine ws_if ?_
  | with_reducible refine w_bOf ?_
  | with_reducible refine w_asB ?_
  | with_reducible refine ws_nil ?_
  | with_reducible refine w_bNot ?_
  | with_reducible refine w_bAnd ?_
  | with_reducible refine w_bOr ?_
  | with_reducible refine w_andV ?_
  | with_reducible refine w_orV ?_
  | with_reducible refine w_notV ?_
  | with_reducible refine w_mChain ?_
  | with_reducible refine w_mIf ?_
  | with_reducible refine w_m1 ?_
  | with_reducible refine w_sub ?_
  | with_reducible refine w_addI ?_
  | with_reducible refine w_neg ?_
  | with_reducible refine w_gt ?_
  | with_reducible refine w_lt ?_
  | with_reducible refine w_ge ?_
  | with_reducible refine w_le ?_
  | with_reducible refine w_leS ?_
  | with_reducible refine w_isN ?_
  | with_reducible refine w_isNn ?_
  | with_reducible refine w_neI ?_
  | with_reducible refine w_neS ?_
  | with_reducible refine w_neB ?_
  | with_reducible refine w_eqI ?_
  | with_reducible refine w_eqS ?_
  | with_reducible refine w_eqB ?_
  | with_reducible refine w_max ?_
  | with_reducible refine w_min ?_
  | with_reducible refine w_intI ?_
  | with_reducible refine w_intB ?_
  | ((with_reducible refine w_mod ?wc ?_); (case' wc => walk_at "side"))
  | ((with_reducible refine w_div ?wc ?wd ?_); (case' wc => walk_at "side"); (case' wd => walk_at "side"))
  | ((with_reducible refine w_mulI ?wc ?_); (case' wc => exact cmul_of (by walk_at "side") (by walk_at "side")))
  | ((with_reducible refine w_pow ?wc ?_); (case' wc => decide))
  | with_reducible refine w_mTup ?_
  | with_reducible refine w_mLst ?_
  | with_reducible refine w_mSl ?_
  | with_reducible refine w_oNone ?_
  | with_reducible refine w_oSome ?_
  | with_reducible refine w_mM1 ?_
  | with_reducible refine w_mDic1 ?_
  | with_reducible refine w_mkLl ?_
  | ((with_reducible refine' w_mkL ?wc ?_); (case' wc => exact rfl))
  | with_reducible refine ws_retN ?_
  | with_reducible refine ws_cont ?_
  | with_reducible refine ws_brk ?_
  | with_reducible refine ws_ex ?_
  | with_reducible refine ws_asgT ?_
  | with_reducible refine ws_setL ?_
  | with_reducible refine ws_for ?_
  | with_reducible refine w_iVal ?_
  | with_reducible refine w_iR1 ?_
  | with_reducible refine w_iR2 ?_
  | with_reducible refine w_iEnu ?_
  | with_reducible refine w_mLc ?_
  | with_reducible refine w_bYes ?_
  | with_reducible refine p_iteT ?_
  | with_reducible refine p_iteF ?_
  | with_reducible refine p_iteNT ?_
  | with_reducible refine p_iteNF ?_
  | ((with_reducible refine And.intro ?wl ?_); (case' wl => first | exact Nat.le_of_ble_eq_true rfl))
  | ((with_reducible refine' w_isi (r := true) ?w1 ?w2 ?w3 ?_); (case' w1 => exact rfl); (case' w2 => exact rfl); (case' w3 => exact rfl))
  | ((with_reducible refine' w_isi (r := false) ?w1 ?w2 ?w3 ?_); (case' w1 => exact rfl); (case' w2 => exact rfl); (case' w3 => exact rfl))
  | ((with_reducible refine w_call ?wc ?_); (case' wc => exact rfl))
  | ((with_reducible refine' w_ix_L ?w1 ?w2 ?_); (case' w1 => first | assumption | exact rfl); (case' w2 => exact rfl))
  | ((with_reducible refine' w_ix_T ?w1 ?w2 ?_); (case' w1 => first | exact rfl | assumption); (case' w2 => exact rfl))
  | ((with_reducible refine' w_len_L ?w1 ?_); (case' w1 => first | assumption | exact rfl))
  | ((with_reducible refine' w_len_T ?w1 ?_); (case' w1 => exact rfl))
  | ((with_reducible refine w_len_str ?wc ?_); (case' wc => walk_at "side"))
  | ((with_reducible refine w_kStr ?wc ?_); (case' wc => walk_at "side"))
  | ((with_reducible refine w_kEnuS ?wc ?_); (case' wc => walk_at "side"))
  | ((with_reducible refine w_strI ?wc ?_); (case' wc => walk_at "side"))
  | ((with_reducible refine w_addS ?wc ?_); (case' wc => walk_at "side")))
/-! ### draws -/
/-- a box of draws: what is left of a great number, the seed, how often -/
structure Bx where
  a : Int
  b : Int
  c : Int
def Bx.o (s : Bx) : O := .lst [.t (.int s.a), .t (.int s.b), .t (.int s.c)]
structure Bx.Ok (s : Bx) (M : Nat) : Prop where
  a0 : 0 ≤ s.a
  b0 : 0 ≤ s.b
  b1 : s.b < 2147483647
  c0 : 0 ≤ s.c
  c1 : s.c ≤ M
theorem Bx.Ok.mono {s : Bx} {M N : Nat} (h : s.Ok M) (k : M ≤ N) : s.Ok N := ⟨h.a0, h.b0, h.b1, h.c0, by have := h.c1; omega⟩
/-- what a draw from the box at n does: a number below many, the box turned -/
def Drw (n : Nat) (μ : Mem) (M : Nat) (many : Int) (Q : W → Mem → Prop) : Prop :=
  ∀ (d : Int) (s : Bx), 0 ≤ d → d < many → s.Ok (M + 1) → Q (.t (.int d)) (μ.set n s.o)
theorem take_ok {n : Nat} {μ : Mem} {M : Nat} {many : Int} {s : Bx} {Q : W → Mem → Prop} {X : XV → Mem → Prop} (hs : μ[n]? = some s.o) (ok : s.Ok M) (hM : M < 2 ^ 100) (h0 : 0 < many) (h1 : many < 2 ^ 200) (h : Drw n μ M many Q) :
    Wp (F__law_take [.ref n, .t (.int many)] μ) Q X := by
  obtain ⟨a0, b0, b1, c0, c1⟩ := ok
  have hn : n < μ.length := (List.getElem?_eq_some_iff.mp hs).1
  have g0 := getL_at hs
  refine w_run rfl ?_
  simp only [List.map_cons, List.map_nil, List.cons_append, List.nil_append, List.replicate, Nat.reduceSub]
  rw [m__law_take]
  repeat walk_at "w"
  refine p_iteB (fun hc => ?_) (fun hc => ?_)
  · have hc := of_decide_eq_true hc
    repeat walk_at "w"
    refine ⟨_, setL_at hs rfl, ?_⟩
    repeat walk_at "w"
    refine w_fin (by simp) (h (s.a % many) ⟨s.a / many, s.b, s.c⟩ (Int.emod_nonneg _ (by omega)) (Int.emod_lt_of_pos _ h0) ⟨Int.ediv_nonneg a0 (by omega), b0, b1, c0, by show s.c ≤ _; omega⟩)
  · repeat walk_at "w"
    refine ⟨_, setL_at hs rfl, ?_⟩
    have g1 : getL (.ref n) (μ.set n (Bx.o ⟨s.a, s.b, s.c + 1⟩)) = some [.t (.int s.a), .t (.int s.b), .t (.int (s.c + 1))] := getL_at (List.getElem?_set_self hn)
    repeat walk_at "w"
    exact w_fin (by simp) (h _ ⟨s.a, s.b, s.c + 1⟩ (Int.emod_nonneg _ (by omega)) (Int.emod_lt_of_pos _ h0) ⟨a0, b0, b1, by show 0 ≤ s.c + 1; omega, by show s.c + 1 ≤ _; omega⟩)
theorem set_same {μ : Mem} {n : Nat} {o : O} (h : μ[n]? = some o) : μ.set n o = μ := by
  obtain ⟨hn, rfl⟩ := List.getElem?_eq_some_iff.mp h
  exact List.set_getElem_self hn
theorem atI_lt {α : Type} {xs : List α} {d : Int} (h0 : 0 ≤ d) (h1 : d < xs.length) : ∃ c, atI xs d = some c ∧ xs[d.toNat]? = some c := by
  obtain ⟨j, rfl⟩ := Int.eq_ofNat_of_zero_le h0
  have hj : j < xs.length := by omega
  exact ⟨xs[j], atI_nat (List.getElem?_eq_getElem hj), List.getElem?_eq_getElem hj⟩
theorem toTs_strs (rs : List Str) : toTs (rs.map fun r => .t (.str r)) = some (rs.map T.str) := by
  rw [← toTs_map, List.map_map]; rfl
theorem strsW_strs (rs : List Str) : strsW (rs.map fun r => .t (.str r)) = some rs := by
  induction rs with
  | nil => rfl
  | cons r rs ih => simp [strsW, ih]
theorem len_join {rs : List Str} (h : ∀ r ∈ rs, r.length = 1) : (Txt.join ("" : Str) rs).length = rs.length := by
  rw [TL.join_eq]
  induction rs with
  | nil => rfl
  | cons r rs ih =>
    have e1 := h r (by simp)
    have e2 := ih fun x hx => h x (by simp [hx])
    cases rs with
    | nil => simpa [Str.join] using e1
    | cons r2 rs =>
      simp only [Str.join]
      have : ∀ a b : Str, (a ++ b).length = a.length + b.length := fun a b => by show (a.cps ++ b.cps).size = _; simp [Str.length]
      rw [this, this, e1, e2]
      show 1 + 0 + _ = _
      simp; omega
/-- some signs of z -/
theorem signs_ok {n : Nat} {μ : Mem} {M : Nat} {k : Int} {z : Str} {s : Bx} {Q : W → Mem → Prop} {X : XV → Mem → Prop} (hs : μ[n]? = some s.o) (ok : s.Ok M) (hM : M < 2 ^ 90) (h0 : 0 ≤ k) (h1 : k ≤ 20) (hz : 1 ≤ z.length) (hz2 : z.length ≤ 100)
    (h : ∀ (r : Str) (s : Bx), r.length = k.toNat → s.Ok (M + 20) → Q (.t (.str r)) (μ.set n s.o)) : Wp (F__law_signs [.ref n, .t (.str z), .t (.int k)] μ) Q X := by
  have hn : n < μ.length := (List.getElem?_eq_some_iff.mp hs).1
  refine w_run rfl ?_
  simp only [List.map_cons, List.map_nil, List.cons_append, List.nil_append, List.replicate, Nat.reduceSub]
  rw [m__law_signs]
  repeat walk_at "w"
  refine ⟨_, rfl, ?_⟩
  repeat walk_at "w"
  refine ⟨_, rfl, w_rg (by omega) (by simp [bigL]; omega) ⟨by simp [bigL]; omega, ?_⟩⟩
  refine w_lcM (fun i acc ν => ∃ s' : Bx, ν = μ.set n s'.o ∧ s'.Ok (M + i) ∧ ∃ rs : List Str, acc = (rs.map fun r => .t (.str r)) ∧ rs.length = i ∧ ∀ r ∈ rs, r.length = 1) ⟨s, (set_same hs).symm, ok, [], rfl, rfl, by simp⟩ (fun _ _ _ _ => trivial) ?_ ?_
  · rintro i y acc ν hy ⟨s', rfl, ok', rs, rfl, hl, hr⟩
    have hi : i < (k - 0).toNat := by simpa using (List.getElem?_eq_some_iff.mp hy).1
    refine ⟨_, rfl, ?_⟩
    repeat walk_at "w"
    refine take_ok (List.getElem?_set_self hn) ok' (by omega) (by omega) (by omega) fun d s2 d0 d1 ok2 => ?_
    obtain ⟨c, hc, _⟩ := atI_lt (xs := z.cps.toList) d0 (by simpa [Str.length] using d1)
    refine w_ix_S hc (by simp only [bigL]; omega) ?_
    refine ⟨s2, by rw [List.set_set], ok2.mono (by omega), rs ++ [⟨#[c]⟩], by simp, by simp [hl], fun r h => ?_⟩
    rcases List.mem_append.mp h with h | h
    · exact hr r h
    · simp at h; subst h; rfl
  · rintro acc ν ⟨s', rfl, ok', rs, rfl, hl, hr⟩
    simp only [List.length_map, List.length_range, Int.sub_zero] at hl ok'
    refine w_mkL (toTs_strs rs) ?_
    have e : fJoin ("" : Str) (.t (.lst (rs.map T.str))) (μ.set n s'.o) = .ok (.t (.str (Txt.join "" rs))) (μ.set n s'.o) := by
      have z0 : ("" : Str).length = 0 := rfl
      have z1 : (rs.map (·.length)).sum = rs.length := by
        have := len_join hr
        have z2 : ∀ l : List Str, (∀ r ∈ l, r.length = 1) → (l.map (·.length)).sum = l.length := fun l h => by
          induction l with
          | nil => rfl
          | cons r l ih => simp [h r (by simp), ih fun x hx => h x (by simp [hx])]; omega
        exact z2 rs hr
      simp only [fJoin, getL, getLT, List.map_map]
      rw [show (rs.map (W.t ∘ T.str)) = rs.map fun r => .t (.str r) from rfl, strsW_strs]
      simp only [z0, z1]
      rw [if_pos (by omega)]
    refine Wp.of e ?_
    exact w_fin (by simp) (h _ s' (by rw [len_join hr, hl]) (ok'.mono (by omega)))
theorem len_app (a b : Str) : (a ++ b).length = a.length + b.length := by show (a.cps ++ b.cps).size = _; simp [Str.length]
theorem len_cut (z : Str) (lo hi : Option Int) : (cutS z lo hi).length ≤ z.length := by
  simp only [cutS, Str.length, List.size_toArray, List.length_take, List.length_drop, Array.length_toList]
  omega
theorem len_one {c : Nat} : (⟨#[c]⟩ : Str).length = 1 := rfl
theorem w_sl_S {l : Bool} {z : Str} {lo hi : Option Int} {μ : Mem} {Q : W → Mem → Prop} {X : XV → Mem → Prop} (hl : z.length ≤ bigL) (h : Q (.t (.str (cutS z lo hi))) μ) : Wp (fSl l (.t (.str z)) lo hi μ) Q X := w_if ⟨hl, h⟩
/-- an item of a written list of texts -/
theorem ix_strs {rs : List Str} {d : Int} (h0 : 0 ≤ d) (h1 : d < rs.length) : ∃ r ∈ rs, atI (rs.map fun r => W.t (.str r)) d = some (.t (.str r)) := by
  obtain ⟨c, hc, e⟩ := atI_lt (xs := rs) h0 h1
  refine ⟨c, List.mem_of_getElem? e, ?_⟩
  obtain ⟨x, hx, e2⟩ := atI_lt (xs := rs.map fun r => W.t (.str r)) h0 (by simpa using h1)
  rw [hx]
  rw [List.getElem?_map, e] at e2
  exact e2.symm
theorem text_ok {n : Nat} {μ : Mem} {M : Nat} {s : Bx} {Q : W → Mem → Prop} {X : XV → Mem → Prop} (hs : μ[n]? = some s.o) (ok : s.Ok M) (hM : M < 2 ^ 80)
    (h : ∀ (r : Str) (s : Bx), r.length ≤ 100 → s.Ok (M + 100) → Q (.t (.str r)) (μ.set n s.o)) : Wp (F__law_text [.ref n] μ) Q X := by
  have hn : n < μ.length := (List.getElem?_eq_some_iff.mp hs).1
  have at_ : ∀ s : Bx, (μ.set n s.o)[n]? = some s.o := fun s => List.getElem?_set_self hn
  refine w_run rfl ?_
  simp only [List.map_cons, List.map_nil, List.cons_append, List.nil_append, List.replicate, Nat.reduceSub]
  rw [m__law_text]
  repeat walk_at "w"
  refine take_ok hs ok (by omega) (by omega) (by omega) fun d s1 d0 d1 ok1 => ?_
  repeat walk_at "w"
  refine p_iteB (fun hc => ?_) (fun hc => ?_)
  · repeat walk_at "w"
    refine take_ok (at_ _) ok1 (by omega) (by omega) (by omega) fun k s2 k0 k1 ok2 => ?_
    rw [List.set_set]
    repeat walk_at "w"
    refine signs_ok (at_ _) ok2 (by omega) k0 (by omega) (by decide +kernel) (by decide +kernel) fun r s3 hr ok3 => ?_
    rw [List.set_set]
    exact w_fin (by simp) (h r s3 (by omega) (ok3.mono (by omega)))
  have hc : d ≠ 0 := of_decide_eq_false hc
  repeat walk_at "w"
  refine p_iteB (fun hc1 => ?_) (fun hc1 => ?_)
  · repeat walk_at "w"
    refine take_ok (at_ _) ok1 (by omega) (by omega) (by omega) fun k s2 k0 k1 ok2 => ?_
    rw [List.set_set]
    repeat walk_at "w"
    obtain ⟨r0, hr0, hx⟩ := ix_strs (rs := ["", "-", " ", "0", "00", "."]) k0 k1
    have l0 : r0.length ≤ 2 := (show ∀ r ∈ (["", "-", " ", "0", "00", "."] : List Str), r.length ≤ 2 by decide +kernel) r0 hr0
    refine w_ix_L rfl hx ?_
    repeat walk_at "w"
    refine take_ok (at_ _) ok2 (by omega) (by omega) (by omega) fun k' s3 k0' k1' ok3 => ?_
    rw [List.set_set]
    repeat walk_at "w"
    refine signs_ok (at_ _) ok3 (by omega) k0' (by omega) (by decide +kernel) (by decide +kernel) fun r s4 hr ok4 => ?_
    rw [List.set_set]
    repeat walk_at "w"
    exact w_fin (by simp) (h _ s4 (by rw [len_app]; omega) (ok4.mono (by omega)))
  have hc1 : d ≠ 1 := of_decide_eq_false hc1
  repeat walk_at "w"
  refine signs_ok (at_ _) ok1 (by omega) (by omega) (by omega) (by decide +kernel) (by decide +kernel) fun r1 s2 hr1 ok2 => ?_
  rw [List.set_set]
  repeat walk_at "w"
  obtain ⟨r0, hr0, hx⟩ := ix_strs (rs := ["azm059", "azm059."]) (d := d - 2) (by omega) (show d - 2 < (2 : Nat) by omega)
  have l0 : 1 ≤ r0.length ∧ r0.length ≤ 100 := (show ∀ r ∈ (["azm059", "azm059."] : List Str), 1 ≤ r.length ∧ r.length ≤ 100 by decide +kernel) r0 hr0
  refine w_ix_L rfl hx ?_
  repeat walk_at "w"
  refine take_ok (at_ _) ok2 (by omega) (by omega) (by omega) fun k s3 k0 k1 ok3 => ?_
  rw [List.set_set]
  repeat walk_at "w"
  refine signs_ok (at_ _) ok3 (by omega) k0 (by omega) l0.1 l0.2 fun r2 s4 hr2 ok4 => ?_
  rw [List.set_set]
  repeat walk_at "w"
  have lg : (r1 ++ r2).length ≤ 15 ∧ 1 ≤ (r1 ++ r2).length := by rw [len_app]; omega
  generalize r1 ++ r2 = g at lg
  refine take_ok (at_ _) ok4 (by omega) (by omega) (by omega) fun k' s5 k0' k1' ok5 => ?_
  rw [List.set_set]
  repeat walk_at "w"
  refine p_iteB (fun hc2 => ?_) (fun hc2 => ?_)
  · repeat walk_at "w"
    exact w_fin (by simp) (h _ s5 (by omega) (ok5.mono (by omega)))
  repeat walk_at "w"
  refine take_ok (at_ _) ok5 (by omega) (by omega) (by omega) fun j s6 j0 j1 ok6 => ?_
  rw [List.set_set]
  repeat walk_at "w"
  refine ⟨_, rfl, ?_⟩
  refine w_sl_S (by walk_at "side") ?_
  repeat walk_at "w"
  refine take_ok (at_ _) ok6 (by omega) (by omega) (by omega) fun i s7 i0 i1 ok7 => ?_
  rw [List.set_set]
  obtain ⟨r3, hr3, hx3⟩ := ix_strs (rs := ["A", ".", "0", " ", "_", "\n", "", "a"]) i0 i1
  have l3 : r3.length ≤ 1 := (show ∀ r ∈ (["A", ".", "0", " ", "_", "\n", "", "a"] : List Str), r.length ≤ 1 by decide +kernel) r3 hr3
  refine w_ix_L rfl hx3 ?_
  have c1 := len_cut g none (some j)
  have c2 := len_cut g (some (j + 1)) none
  generalize cutS g none (some j) = g1 at c1
  repeat walk_at "w"
  have c3 := len_app g1 r3
  generalize g1 ++ r3 = g2 at c3
  refine ⟨_, rfl, ?_⟩
  repeat walk_at "w"
  refine w_sl_S (by walk_at "side") ?_
  generalize cutS g (some (j + 1)) none = g3 at c2
  repeat walk_at "w"
  exact w_fin (by simp) (h _ s7 (by rw [len_app]; omega) (ok7.mono (by omega)))
end HQ
namespace HQ
open PySem PySem.Spec PyProof.Rows L2
local macro_rules | `(tactic| walk_at "side") => `(tactic| first | omega | assumption | (simp only [bigL]; omega) | decide)
local macro_rules | `(tactic| walk_at "w") => `(tactic| first
  | with_reducible refine ws_sSeq ?_
  | ((with_reducible refine' w_var ?wv ?_); (case' wv => exact rfl))
  | with_reducible refine w_T ?_
  | with_reducible refine w_m2 ?_
  | with_reducible refine w_mA ?_
  | with_reducible refine w_aCons ?_
  | with_reducible refine w_aNil ?_
  | with_reducible refine ws_asgN ?_
  | with_reducible refine ws_ret ?_
  | with_reducible refine ws_if ?_
  | with_reducible refine w_bOf ?_
  | with_reducible refine w_asB ?_
  | with_reducible refine ws_nil ?_
  | with_reducible refine w_bNot ?_
  | with_reducible refine w_bAnd ?_
  | with_reducible refine w_bOr ?_
  | with_reducible refine w_andV ?_
  | with_reducible refine w_orV ?_
  | with_reducible refine w_notV ?_
  | with_reducible refine w_mChain ?_
  | with_reducible refine w_mIf ?_
  | with_reducible refine w_m1 ?_
  | with_reducible refine w_sub ?_
  | with_reducible refine w_addI ?_
  | with_reducible refine w_neg ?_
  | with_reducible refine w_gt ?_
  | with_reducible refine w_lt ?_
  | with_reducible refine w_ge ?_
  | with_reducible refine w_le ?_
  | with_reducible refine w_leS ?_
  | with_reducible refine w_isN ?_
  | with_reducible refine w_isNn ?_
  | with_reducible refine w_neI ?_
  | with_reducible refine w_neS ?_
  | with_reducible refine w_neB ?_
  | with_reducible refine w_eqI ?_
  | with_reducible refine w_eqS ?_
  | with_reducible refine w_eqB ?_
  | with_reducible refine w_max ?_
  | with_reducible refine w_min ?_
  | with_reducible refine w_intI ?_
  | with_reducible refine w_intB ?_
  | ((with_reducible refine w_mod ?wc ?_); (case' wc => walk_at "side"))
  | ((with_reducible refine w_div ?wc ?wd ?_); (case' wc => walk_at "side"); (case' wd => walk_at "side"))
  | ((with_reducible refine w_mulI ?wc ?_); (case' wc => exact cmul_of (by walk_at "side") (by walk_at "side")))
  | ((with_reducible refine w_pow ?wc ?_); (case' wc => decide))
  | with_reducible refine w_mTup ?_
  | with_reducible refine w_mLst ?_
  | with_reducible refine w_mSl ?_
  | with_reducible refine w_oNone ?_
  | with_reducible refine w_oSome ?_
  | with_reducible refine w_mM1 ?_
  | with_reducible refine w_mDic1 ?_
  | with_reducible refine w_mkLl ?_
  | ((with_reducible refine' w_mkL ?wc ?_); (case' wc => exact rfl))
  | with_reducible refine ws_retN ?_
  | with_reducible refine ws_cont ?_
  | with_reducible refine ws_brk ?_
  | with_reducible refine ws_ex ?_
  | with_reducible refine ws_asgT ?_
  | with_reducible refine ws_setL ?_
  | with_reducible refine ws_for ?_
  | with_reducible refine w_iVal ?_
  | with_reducible refine w_iR1 ?_
  | with_reducible refine w_iR2 ?_
  | with_reducible refine w_iEnu ?_
  | with_reducible refine w_mLc ?_
  | with_reducible refine w_bYes ?_
  | with_reducible refine p_iteT ?_
  | with_reducible refine p_iteF ?_
  | with_reducible refine p_iteNT ?_
  | with_reducible refine p_iteNF ?_
  | ((with_reducible refine And.intro ?wl ?_); (case' wl => first | exact Nat.le_of_ble_eq_true rfl))
  | ((with_reducible refine' w_isi (r := true) ?w1 ?w2 ?w3 ?_); (case' w1 => exact rfl); (case' w2 => exact rfl); (case' w3 => exact rfl))
  | ((with_reducible refine' w_isi (r := false) ?w1 ?w2 ?w3 ?_); (case' w1 => exact rfl); (case' w2 => exact rfl); (case' w3 => exact rfl))
  | ((with_reducible refine w_call ?wc ?_); (case' wc => exact rfl))
  | ((with_reducible refine' w_ix_L ?w1 ?w2 ?_); (case' w1 => first | assumption | exact rfl); (case' w2 => exact rfl))
  | ((with_reducible refine' w_ix_T ?w1 ?w2 ?_); (case' w1 => first | exact rfl | assumption); (case' w2 => exact rfl))
  | ((with_reducible refine' w_len_L ?w1 ?_); (case' w1 => first | assumption | exact rfl))
  | ((with_reducible refine' w_len_T ?w1 ?_); (case' w1 => exact rfl))
  | ((with_reducible refine w_len_str ?wc ?_); (case' wc => walk_at "side"))
  | ((with_reducible refine w_kStr ?wc ?_); (case' wc => walk_at "side"))
  | ((with_reducible refine w_kEnuS ?wc ?_); (case' wc => walk_at "side"))
  | ((with_reducible refine w_strI ?wc ?_); (case' wc => walk_at "side"))
  | ((with_reducible refine w_addS ?wc ?_); (case' wc => walk_at "side")))
/-! ### kinds of things -/
def plainT : T → Bool
  | .non | .bl _ | .int _ | .str _ | .tup _ | .lst _ | .dic _ _ => true
  | _ => false
def isStrT : T → Bool
  | .str _ => true
  | _ => false
def isIntT : T → Bool
  | .int _ => true
  | _ => false
def isBlT : T → Bool
  | .bl _ => true
  | _ => false
section
variable {t : T} {μ : Mem} {Q : W → Mem → Prop} {X : XV → Mem → Prop}
theorem w_isiStr (h : plainT t = true) (q : Q (.t (.bl (isStrT t))) μ) : Wp (fIsi ktB [.t t, .t (.ty "str")] μ) Q X := by
  cases t <;> first | exact w_isi rfl rfl rfl q | exact absurd h (by simp [plainT])
theorem w_isiInt (h : plainT t = true) (q : Q (.t (.bl (isIntT t || isBlT t))) μ) : Wp (fIsi ktB [.t t, .t (.ty "int")] μ) Q X := by
  cases t <;> first | exact w_isi rfl rfl rfl q | exact absurd h (by simp [plainT])
theorem w_isiBool (h : plainT t = true) (q : Q (.t (.bl (isBlT t))) μ) : Wp (fIsi ktB [.t t, .t (.ty "bool")] μ) Q X := by
  cases t <;> first | exact w_isi rfl rfl rfl q | exact absurd h (by simp [plainT])
end
abbrev Pu (r : R W) (t : T) : Prop := Wp r (fun u _ => u = .t t) noX
theorem is_whole_ok {t : T} (h : plainT t = true) : Pu (F_is_whole [.t t] []) (.bl (isIntT t)) := by
  refine w_run rfl ?_
  simp only [List.map_cons, List.map_nil, List.cons_append, List.nil_append, List.replicate, Nat.reduceSub]
  rw [m_is_whole]
  repeat walk_at "w"
  refine w_isiInt h ?_
  repeat walk_at "w"
  refine p_iteB (fun hc => ?_) (fun hc => ?_)
  · repeat walk_at "w"
    refine w_isiBool h ?_
    repeat walk_at "w"
    exact w_fin (by simp) (by cases t <;> first | rfl | simp [isIntT, isBlT] at hc ⊢)
  · exact w_fin (by simp) (by cases t <;> first | rfl | simp [isIntT, isBlT] at hc ⊢)
theorem law_whole_ok {t : T} (h : plainT t = true) : Pu (F__law_whole [.t t] []) (.bl (isIntT t)) := is_whole_ok h
def inT (t : T) (low high : Int) : Bool := match t with
  | .int i => decide (low ≤ i) && decide (i ≤ high)
  | _ => false
theorem is_within_ok {t : T} {low high : Int} (h : plainT t = true) : Pu (F_is_within [.t t, .t (.int low), .t (.int high)] []) (.bl (inT t low high)) := by
  refine w_run rfl ?_
  simp only [List.map_cons, List.map_nil, List.cons_append, List.nil_append, List.replicate, Nat.reduceSub]
  rw [m_is_within]
  repeat walk_at "w"
  refine w_pure rfl rfl (is_whole_ok h) ?_
  repeat walk_at "w"
  refine p_iteB (fun hc => ?_) (fun hc => ?_)
  · obtain ⟨i, rfl⟩ : ∃ i, t = .int i := by cases t <;> simp [isIntT] at hc; exact ⟨_, rfl⟩
    repeat walk_at "w"
    refine p_iteB (fun hc => ?_) (fun hc => ?_)
    · repeat walk_at "w"
      exact w_fin (by simp) (by simp [inT, of_decide_eq_true hc])
    · exact w_fin (by simp) (by simp [inT, of_decide_eq_false hc])
  · exact w_fin (by simp) (by cases t <;> first | rfl | simp [isIntT] at hc)
theorem law_same_ok {a b : Bool} : Pu (F__law_same [.t (.bl a), .t (.bl b)] []) (.bl (decide (a = b))) := by
  refine w_run rfl ?_
  simp only [List.map_cons, List.map_nil, List.cons_append, List.nil_append, List.replicate, Nat.reduceSub]
  rw [m__law_same]
  repeat walk_at "w"
  exact w_fin (by simp) rfl
/-! ### texts -/
abbrev cs (z : Str) : List Nat := z.cps.toList
def allIn (l g : List Nat) : Bool := l.all fun c => decide (c ∈ g)
theorem signs_at {z : Str} {i : Nat} {y : W} (h : (z.cps.toList.map fun c => W.t (.str ⟨#[c]⟩))[i]? = some y) : ∃ c, (cs z)[i]? = some c ∧ y = .t (.str ⟨#[c]⟩) := by
  rw [List.getElem?_map] at h
  cases e : z.cps.toList[i]? with
  | none => rw [e] at h; cases h
  | some c => rw [e] at h; cases h; exact ⟨c, rfl, rfl⟩
theorem take_succ_all {p : Nat → Bool} {l : List Nat} {i c : Nat} (h : l[i]? = some c) : (l.take (i + 1)).all p = ((l.take i).all p && p c) := by
  rw [List.take_succ, h, List.all_append]; simp
theorem all_false {p : Nat → Bool} {l : List Nat} {i c : Nat} (h : l[i]? = some c) (hp : p c = false) : l.all p = false := by
  rw [Bool.eq_false_iff]
  intro q
  have := List.all_eq_true.mp q c (List.mem_of_getElem? h)
  rw [hp] at this; cases this
theorem are_signs_ok {z g : Str} (hz : z.length ≤ 1000) : Pu (F_are_signs [.t (.str z), .t (.str g)] []) (.bl (allIn (cs z) (cs g))) := by
  refine w_run rfl ?_
  simp only [List.map_cons, List.map_nil, List.cons_append, List.nil_append, List.replicate, Nat.reduceSub]
  rw [m_are_signs]
  repeat walk_at "w"
  refine w_loop (fun i e ν => (∃ o, e = [some (.t (.str z)), some (.t (.str g)), o]) ∧ ν = [] ∧ allIn ((cs z).take i) (cs g) = true) ⟨⟨_, rfl⟩, rfl, by simp [allIn]⟩ (fun _ _ _ _ => trivial) ?_ ?_
  · rintro i y e ν hy ⟨⟨o, rfl⟩, rfl, ha⟩
    obtain ⟨c, hc, rfl⟩ := signs_at hy
    refine ⟨_, rfl, ?_⟩
    show WpS (sSeq _ _ [some (.t (.str z)), some (.t (.str g)), some (.t (.str ⟨#[c]⟩))] []) _ _ _ _ _
    repeat walk_at "w"
    refine w_nin (b := decide (c ∈ cs g)) rfl ?_
    repeat walk_at "w"
    refine p_N (fun h => ?_) (fun h => ?_)
    · repeat walk_at "w"
      refine w_fin (by simp) ?_
      rw [allIn, all_false hc h]
    · repeat walk_at "w"
      refine ⟨⟨_, rfl⟩, rfl, ?_⟩
      unfold allIn at ha ⊢
      rw [take_succ_all hc, ha, h]; rfl
  · rintro e ν ⟨⟨o, rfl⟩, rfl, ha⟩
    repeat walk_at "w"
    refine w_fin (by simp) ?_
    rw [List.length_map, List.take_length] at ha
    rw [ha]
/-- a text's beginning -/
def begT (t : T) (most : Int) : Bool := match t with
  | .str z => decide (1 ≤ z.length) && decide ((z.length : Int) ≤ most) && decide (97 ≤ (cs z).headD 0) && decide ((cs z).headD 0 ≤ 122)
  | _ => false
theorem lt_one (a b : Nat) : decide (([a] : List Nat) < [b]) = decide (a < b) := by
  rw [decide_eq_decide, List.cons_lt_cons_iff]; simp
theorem head_at {z : Str} (h : 1 ≤ z.length) : atI z.cps.toList 0 = some ((cs z).headD 0) := by
  have h : 0 < (cs z).length := Nat.lt_of_lt_of_le Nat.zero_lt_one (by simpa [Str.length, cs] using h)
  obtain ⟨a, l, e⟩ : ∃ a l, cs z = a :: l := by
    cases q : cs z with
    | nil => rw [q] at h; simp at h
    | cons a l => exact ⟨a, l, rfl⟩
  show atI (cs z) 0 = _
  rw [e]
  exact atI_nat (j := 0) (by simp)
theorem cs_a : cs ("a" : Str) = [97] := by decide +kernel
theorem cs_z : cs ("z" : Str) = [122] := by decide +kernel
theorem begins_ok {t : T} {most : Int} (h : plainT t = true) (hz : ∀ z, t = .str z → z.length ≤ 1000) : Pu (F_begins_well [.t t, .t (.int most)] []) (.bl (begT t most)) := by
  refine w_run rfl ?_
  simp only [List.map_cons, List.map_nil, List.cons_append, List.nil_append, List.replicate, Nat.reduceSub]
  rw [m_begins_well]
  repeat walk_at "w"
  refine w_isiStr h ?_
  repeat walk_at "w"
  refine p_iteB (fun hc => ?_) (fun hc => ?_)
  · obtain ⟨z, rfl⟩ : ∃ z, t = .str z := by cases t <;> simp [isStrT] at hc; exact ⟨_, rfl⟩
    have hz := hz z rfl
    repeat walk_at "w"
    refine p_iteB (fun h1 => ?_) (fun h1 => ?_)
    · have h1 := of_decide_eq_true h1
      repeat walk_at "w"
      refine p_iteB (fun h2 => ?_) (fun h2 => ?_)
      · have h2 := of_decide_eq_true h2
        repeat walk_at "w"
        refine w_ix_S (head_at (by omega)) (by walk_at "side") ?_
        repeat walk_at "w"
        rw [show ("a" : Str).cps.toList = [97] from cs_a, lt_one]
        refine p_iteB (fun h3 => ?_) (fun h3 => ?_)
        · repeat walk_at "w"
          rw [show ("z" : Str).cps.toList = [122] from cs_z, lt_one]
          refine w_fin (by simp) ?_
          simp only [Bool.not_eq_true', decide_eq_false_iff_not, Nat.not_lt] at h3
          simp only [begT, W.t.injEq, T.bl.injEq]
          rw [decide_eq_true (show 1 ≤ z.length by omega), decide_eq_true h2, decide_eq_true h3]
          rw [Bool.eq_iff_iff]
          simp
        · refine w_fin (by simp) ?_
          simp only [Bool.not_eq_false', decide_eq_true_eq] at h3
          simp only [begT, W.t.injEq, T.bl.injEq]
          rw [decide_eq_false (show ¬ 97 ≤ (cs z).headD 0 by omega)]; simp
      · have h2 := of_decide_eq_false h2
        refine w_fin (by simp) ?_
        simp [begT, h2]
    · have h1 := of_decide_eq_false h1
      repeat walk_at "w"
      refine w_fin (by simp) ?_
      simp only [begT, W.t.injEq, T.bl.injEq]
      rw [decide_eq_false (show ¬ 1 ≤ z.length by omega)]; simp
  · exact w_fin (by simp) (by cases t <;> first | rfl | simp [isStrT] at hc)
def L36 : List Nat := cs ("abcdefghijklmnopqrstuvwxyz0123456789" : Str)
def L37 : List Nat := cs ("abcdefghijklmnopqrstuvwxyz0123456789." : Str)
def strL (t : T) : List Nat := match t with
  | .str z => cs z
  | _ => []
def nameT (t : T) (most : Int) (l : List Nat) : Bool := begT t most && allIn (strL t) l
theorem name_any {t : T} {most : Int} {g : Str} {f : MF} (h : plainT t = true) (hz : ∀ z, t = .str z → z.length ≤ 1000)
    (hf : f = runF 1 1 (sSeq (sRet (mAndV (mA (callF F_begins_well 2 [] true) (aCons (mVar 0) (aCons (mT (.int most)) (aNil)))) (mA (callF F_are_signs 2 [] true) (aCons (mVar 0) (aCons (mT (.str g)) (aNil)))))) (sNil))) : Pu (f [.t t] []) (.bl (nameT t most (cs g))) := by
  subst hf
  refine w_run rfl ?_
  simp only [List.map_cons, List.map_nil, List.cons_append, List.nil_append, List.replicate, Nat.reduceSub]
  repeat walk_at "w"
  refine w_pure rfl rfl (begins_ok h hz) ?_
  repeat walk_at "w"
  refine p_iteB (fun hc => ?_) (fun hc => ?_)
  · obtain ⟨z, rfl⟩ : ∃ z, t = .str z := by cases t <;> simp [begT] at hc; exact ⟨_, rfl⟩
    repeat walk_at "w"
    refine w_pure rfl rfl (are_signs_ok (hz z rfl)) ?_
    exact w_fin (by simp) (by simp [nameT, hc, strL])
  · exact w_fin (by simp) (by simp [nameT, hc])
theorem is_name_ok {t : T} (h : plainT t = true) (hz : ∀ z, t = .str z → z.length ≤ 1000) : Pu (F_is_name [.t t] []) (.bl (nameT t 8 L36)) := name_any h hz rfl
theorem is_group_name_ok {t : T} (h : plainT t = true) (hz : ∀ z, t = .str z → z.length ≤ 1000) : Pu (F_is_group_name [.t t] []) (.bl (nameT t 12 L37)) := name_any h hz rfl
/-! ### the law's own reading of names -/
def letters : List Nat := cs ("abcdefghijklmnopqrstuvwxyz" : Str)
def goodAt (more : List Nat) (k c : Nat) : Bool := decide (c ∈ letters) || (decide (k ≠ 0) && decide (c ∈ cs ("0123456789" : Str) ++ more))
def goodAll (more : List Nat) : Nat → List Nat → Bool
  | _, [] => true
  | k, c :: l => goodAt more k c && goodAll more (k + 1) l
def lawIs (t : T) (most : Int) (more : List Nat) : Bool := match t with
  | .str z => decide (1 ≤ z.length) && decide ((z.length : Int) ≤ most) && goodAll more 0 (cs z)
  | _ => false
theorem goodAll_snoc (more : List Nat) (c : Nat) : ∀ (l : List Nat) (k : Nat), goodAll more k (l ++ [c]) = (goodAll more k l && goodAt more (k + l.length) c)
  | [], k => by simp [goodAll]
  | x :: l, k => by
    simp only [List.cons_append, goodAll, goodAll_snoc more c l (k + 1), List.length_cons]
    rw [show k + 1 + l.length = k + (l.length + 1) by omega, Bool.and_assoc]
theorem goodAll_take {more l : List Nat} {i c : Nat} (h : l[i]? = some c) : goodAll more 0 (l.take (i + 1)) = (goodAll more 0 (l.take i) && goodAt more i c) := by
  rw [List.take_succ, h]
  show goodAll more 0 (l.take i ++ [c]) = _
  rw [goodAll_snoc, List.length_take, Nat.min_eq_left (by have := (List.getElem?_eq_some_iff.mp h).1; omega)]
  simp
theorem goodAll_false {more : List Nat} {c : Nat} : ∀ {l : List Nat} {i k : Nat}, l[i]? = some c → goodAt more (k + i) c = false → goodAll more k l = false
  | [], i, k, h, _ => by simp at h
  | x :: l, 0, k, h, q => by simp at h; subst h; simp [goodAll]; intro z; rw [Nat.add_zero] at q; rw [q] at z; cases z
  | x :: l, i + 1, k, h, q => by
    have := goodAll_false (k := k + 1) (i := i) (l := l) (by simpa using h) (by rw [show k + 1 + i = k + (i + 1) by omega]; exact q)
    simp [goodAll, this]
theorem law_is_ok {t : T} {most : Int} {more : Str} (h : plainT t = true) (hm : more.length ≤ 10) (hz : ∀ z, t = .str z → z.length ≤ 1000) : Pu (F__law_is [.t t, .t (.int most), .t (.str more)] []) (.bl (lawIs t most (cs more))) := by
  refine w_run rfl ?_
  simp only [List.map_cons, List.map_nil, List.cons_append, List.nil_append, List.replicate, Nat.reduceSub]
  rw [m__law_is]
  repeat walk_at "w"
  refine w_isiStr h ?_
  repeat walk_at "w"
  refine p_iteB (fun hc => ?_) (fun hc => ?_)
  · repeat walk_at "w"
    exact w_fin (by simp) (by cases t <;> first | rfl | simp [isStrT] at hc)
  obtain ⟨z, rfl⟩ : ∃ z, t = .str z := by cases t <;> simp [isStrT] at hc; exact ⟨_, rfl⟩
  have hz := hz z rfl
  repeat walk_at "w"
  refine p_iteB (fun h1 => ?_) (fun h1 => ?_)
  · repeat walk_at "w"
    have h1 := of_decide_eq_true h1
    exact w_fin (by simp) (by simp only [lawIs]; rw [decide_eq_false (show ¬ 1 ≤ z.length by omega)]; rfl)
  have h1 := of_decide_eq_false h1
  repeat walk_at "w"
  refine p_iteB (fun h2 => ?_) (fun h2 => ?_)
  · repeat walk_at "w"
    have h2 := of_decide_eq_true h2
    exact w_fin (by simp) (by simp only [lawIs]; rw [decide_eq_false (show ¬ (z.length : Int) ≤ most by omega)]; simp)
  have h2 := of_decide_eq_false h2
  repeat walk_at "w"
  have key : ∀ (c : Nat), decide (c ∈ ("abcdefghijklmnopqrstuvwxyz" : Str).cps.toList) = decide (c ∈ letters) := fun _ => rfl
  refine w_loop (fun i e ν => (∃ o1 o2, e = [some (.t (.str z)), some (.t (.int most)), some (.t (.str more)), o1, o2]) ∧ ν = [] ∧ goodAll (cs more) 0 ((cs z).take i) = true) ⟨⟨_, _, rfl⟩, rfl, by simp [goodAll]⟩ (fun _ _ _ _ => trivial) ?_ ?_
  · rintro i y e ν hy ⟨⟨o1, o2, rfl⟩, rfl, ha⟩
    obtain ⟨u, hu, rfl⟩ := pairs_at hy
    obtain ⟨c, hc, rfl⟩ := signs_at hu
    refine ⟨_, rfl, ?_⟩
    show WpS (sSeq _ _ [some (.t (.str z)), some (.t (.int most)), some (.t (.str more)), some (.t (.int (i : Nat))), some (.t (.str ⟨#[c]⟩))] []) _ _ _ _ _
    have go : goodAt (cs more) i c = true → goodAll (cs more) 0 ((cs z).take (i + 1)) = true := fun h => by rw [goodAll_take hc, ha, h]; rfl
    have no : goodAt (cs more) i c = false → (T.bl false) = .bl (lawIs (.str z) most (cs more)) := fun h => by
      have := goodAll_false (more := cs more) (k := 0) hc (by simpa using h)
      simp [lawIs, this]
    repeat walk_at "w"
    refine w_in (b := decide (c ∈ letters)) rfl ?_
    repeat walk_at "w"
    refine p_D (fun h => ?_) (fun h => ?_)
    · repeat walk_at "w"
      exact ⟨⟨_, _, rfl⟩, rfl, go (by simp [goodAt, h])⟩
    repeat walk_at "w"
    refine p_D (fun h5 => ?_) (fun h5 => ?_)
    · repeat walk_at "w"
      refine w_fin (by simp) ?_
      have h5 : i = 0 := by omega
      rw [no (by simp [goodAt, h, h5])]
    have h5 : i ≠ 0 := by omega
    repeat walk_at "w"
    have l10 : ("0123456789" : Str).length = 10 := by decide +kernel
    refine w_addS (by rw [l10]; simp only [bigL]; omega) ?_
    refine w_nin (b := decide (c ∈ cs ("0123456789" : Str) ++ cs more)) (by
      show some (decide (c ∈ (("0123456789" : Str).cps ++ more.cps).toList)) = _
      rw [Array.toList_append]) ?_
    repeat walk_at "w"
    refine p_N (fun h6 => ?_) (fun h6 => ?_)
    · repeat walk_at "w"
      refine w_fin (by simp) ?_
      rw [no (by simp only [goodAt, h6]; simp [h])]
    · repeat walk_at "w"
      exact ⟨⟨_, _, rfl⟩, rfl, go (by simp only [goodAt, h6]; simp [h5])⟩
  · rintro e ν ⟨⟨o1, o2, rfl⟩, rfl, ha⟩
    repeat walk_at "w"
    refine w_fin (by simp) ?_
    have e : (pairs (List.map (fun c => W.t (T.str { cps := #[c] })) z.cps.toList)).length = (cs z).length := by rw [pairs_len, List.length_map]
    simp only [e, List.take_length] at ha
    simp only [lawIs, ha]
    rw [decide_eq_true (show 1 ≤ z.length by omega), decide_eq_true (show (z.length : Int) ≤ most by omega)]; rfl
/-! ### numbers -/
def digits : List Nat := [48, 49, 50, 51, 52, 53, 54, 55, 56, 57]
theorem cs_digits : cs ("0123456789" : Str) = digits := by decide +kernel
def dval (l : List Nat) : Int := l.foldl (fun (a : Int) (c : Nat) => a * 10 + ((c : Int) - 48)) 0
def numT (t : T) : T := match t with
  | .str z => if 1 ≤ z.length ∧ z.length ≤ 4 ∧ allIn (cs z) digits = true ∧ ¬ ((cs z).headD 0 = 48 ∧ 1 < z.length) then .int (dval (cs z)) else .non
  | _ => .non
theorem dval_digits : ∀ (l : List Nat) (a : Nat), allIn l digits = true → l.foldl (fun (a : Int) (c : Nat) => a * 10 + ((c : Int) - 48)) (a : Int) = ((l.foldl (fun a c => a * 10 + (c - 48)) a : Nat) : Int)
  | [], a, _ => rfl
  | c :: l, a, h => by
    simp only [allIn, List.all_cons, Bool.and_eq_true] at h
    have hc : 48 ≤ c := by have := of_decide_eq_true h.1; simp [digits] at this; omega
    simp only [List.foldl_cons]
    rw [show (a : Int) * 10 + ((c : Int) - 48) = ((a * 10 + (c - 48) : Nat) : Int) by omega]
    exact dval_digits l _ h.2
theorem int_digits {z : Str} (h1 : 1 ≤ z.length) (h4 : z.length ≤ 4) (h : allIn (cs z) digits = true) : PySem.intText? z = some (dval (cs z)) := by
  have e := intText_digits (x := z) (fun c hc => by
    have := of_decide_eq_true (List.all_eq_true.mp h c hc)
    simp [digits] at this; omega) (fun q => by rw [show z.length = 0 by simp only [Str.length]; rw [← Array.length_toList, q]; rfl] at h1; omega) (by omega)
  rw [e]
  congr 1
  exact (dval_digits (cs z) 0 h).symm
theorem str_one {z : Str} (h : atI z.cps.toList 0 = some ((cs z).headD 0)) : decide ((⟨#[(cs z).headD 0]⟩ : Str) = "0") = decide ((cs z).headD 0 = 48) := by
  rw [decide_eq_decide]
  have : ("0" : Str) = ⟨#[48]⟩ := by decide +kernel
  rw [this]
  constructor
  · intro e; injection e with e; simpa using e
  · intro e; rw [e]
theorem number_of_ok {t : T} (h : plainT t = true) (hz : ∀ z, t = .str z → z.length ≤ 1000) : Pu (F_number_of [.t t] []) (numT t) := by
  refine w_run rfl ?_
  simp only [List.map_cons, List.map_nil, List.cons_append, List.nil_append, List.replicate, Nat.reduceSub]
  rw [m_number_of]
  repeat walk_at "w"
  refine w_isiStr h ?_
  repeat walk_at "w"
  refine p_iteB (fun hc => ?_) (fun hc => ?_)
  · repeat walk_at "w"
    exact w_fin (by simp) (by cases t <;> first | rfl | simp [isStrT] at hc)
  obtain ⟨z, rfl⟩ : ∃ z, t = .str z := by cases t <;> simp [isStrT] at hc; exact ⟨_, rfl⟩
  have hz := hz z rfl
  have no : ¬ (1 ≤ z.length ∧ z.length ≤ 4 ∧ allIn (cs z) digits = true ∧ ¬ ((cs z).headD 0 = 48 ∧ 1 < z.length)) → W.t (.non) = .t (numT (.str z)) := fun h => by simp only [numT, if_neg h]
  repeat walk_at "w"
  refine p_iteB (fun h1 => ?_) (fun h1 => ?_)
  · have h1 := of_decide_eq_true h1
    repeat walk_at "w"
    refine p_iteB (fun h2 => ?_) (fun h2 => ?_)
    · repeat walk_at "w"
      have h2 := of_decide_eq_false (bT h2)
      exact w_fin (by simp) (no fun q => by omega)
    have h2 := of_decide_eq_true (bF h2)
    repeat walk_at "w"
    refine w_pure rfl rfl (are_signs_ok hz) ?_
    repeat walk_at "w"
    rw [cs_digits]
    refine p_iteB (fun h3 => ?_) (fun h3 => ?_)
    · repeat walk_at "w"
      exact w_fin (by simp) (no fun q => by rw [q.2.2.1] at h3; cases h3)
    have h3 := bF h3
    repeat walk_at "w"
    refine w_ix_S (head_at (by omega)) (by walk_at "side") ?_
    repeat walk_at "w"
    rw [str_one (head_at (by omega))]
    refine p_D (fun h4 => ?_) (fun h4 => ?_)
    · repeat walk_at "w"
      refine p_D (fun h5 => ?_) (fun h5 => ?_)
      · repeat walk_at "w"
        exact w_fin (by simp) (no fun q => q.2.2.2 ⟨h4, by omega⟩)
      repeat walk_at "w"
      refine w_intS (int_digits (by omega) (by omega) h3) (by omega) ?_
      exact w_fin (by simp) (by simp only [numT]; rw [if_pos ⟨by omega, by omega, h3, fun q => by omega⟩])
    · repeat walk_at "w"
      refine w_intS (int_digits (by omega) (by omega) h3) (by omega) ?_
      exact w_fin (by simp) (by simp only [numT]; rw [if_pos ⟨by omega, by omega, h3, fun q => h4 q.1⟩])
  · have h1 := of_decide_eq_false h1
    repeat walk_at "w"
    exact w_fin (by simp) (no fun q => by omega)
/-- the law's own number -/
theorem find_digit {c : Nat} (h : c ∈ digits) : Txt.find ("0123456789" : Str) (⟨#[c]⟩ : Str) = (c : Int) - 48 := by
  simp only [digits, List.mem_cons, List.not_mem_nil, or_false] at h
  rcases h with rfl | rfl | rfl | rfl | rfl | rfl | rfl | rfl | rfl | rfl <;> decide +kernel
theorem in_digits (c : Nat) : inV (.str ⟨#[c]⟩) [.str "0", .str "1", .str "2", .str "3", .str "4", .str "5", .str "6", .str "7", .str "8", .str "9"] = decide (c ∈ digits) := by
  have e : ([V.str ("0" : Str), .str "1", .str "2", .str "3", .str "4", .str "5", .str "6", .str "7", .str "8", .str "9"] : List V) = digits.map fun d => V.str ⟨#[d]⟩ := by decide +kernel
  rw [e]
  have : ∀ l : List Nat, inV (.str ⟨#[c]⟩) (l.map fun d => V.str ⟨#[d]⟩) = decide (c ∈ l) := fun l => by
    unfold inV
    rw [List.any_map, Bool.eq_iff_iff, List.any_eq_true]
    simp only [Function.comp, eqV, decide_eq_true_eq, beq_iff_eq]
    constructor
    · rintro ⟨d, hd, e⟩; injection e with e; have e : d = c := by simpa using e
      subst e; exact hd
    · intro h; exact ⟨c, h, rfl⟩
  exact this digits
theorem dval_take {l : List Nat} {i c : Nat} (h : l[i]? = some c) : dval (l.take (i + 1)) = dval (l.take i) * 10 + ((c : Int) - 48) := by
  unfold dval
  rw [List.take_succ, h, List.foldl_append]; rfl
theorem dval_small : ∀ (l : List Nat) (a : Int), allIn l digits = true → 0 ≤ a → 0 ≤ l.foldl (fun (a : Int) (c : Nat) => a * 10 + ((c : Int) - 48)) a ∧ l.foldl (fun (a : Int) (c : Nat) => a * 10 + ((c : Int) - 48)) a < (a + 1) * 10 ^ l.length
  | [], a, _, h0 => ⟨h0, by simp; omega⟩
  | c :: l, a, h, h0 => by
    simp only [allIn, List.all_cons, Bool.and_eq_true] at h
    have hc : 48 ≤ c ∧ c ≤ 57 := by have := of_decide_eq_true h.1; simp [digits] at this; omega
    have := dval_small l (a * 10 + ((c : Int) - 48)) h.2 (by omega)
    rw [List.length_cons, Int.pow_succ]
    refine ⟨this.1, Int.lt_of_lt_of_le this.2 ?_⟩
    rw [Int.mul_comm (10 ^ l.length) 10, ← Int.mul_assoc]
    exact Int.mul_le_mul_of_nonneg_right (by omega) (Int.pow_nonneg (by omega))
theorem dval_4 {l : List Nat} (h : allIn l digits = true) (hl : l.length ≤ 4) : 0 ≤ dval l ∧ dval l < 10000 := by
  have := dval_small l 0 h (by omega)
  refine ⟨this.1, Int.lt_of_lt_of_le this.2 ?_⟩
  have : l.length = 0 ∨ l.length = 1 ∨ l.length = 2 ∨ l.length = 3 ∨ l.length = 4 := by omega
  rcases this with e | e | e | e | e <;> rw [e] <;> decide
theorem law_number_ok {t : T} (h : plainT t = true) (hz : ∀ z, t = .str z → z.length ≤ 1000) : Pu (F__law_number [.t t] []) (numT t) := by
  refine w_run rfl ?_
  simp only [List.map_cons, List.map_nil, List.cons_append, List.nil_append, List.replicate, Nat.reduceSub]
  rw [m__law_number]
  repeat walk_at "w"
  refine w_isiStr h ?_
  repeat walk_at "w"
  refine p_N (fun hc => ?_) (fun hc => ?_)
  · repeat walk_at "w"
    exact w_fin (by simp) (by cases t <;> first | rfl | simp [isStrT] at hc)
  obtain ⟨z, rfl⟩ : ∃ z, t = .str z := by cases t <;> simp [isStrT] at hc; exact ⟨_, rfl⟩
  have hz := hz z rfl
  have no : ¬ (1 ≤ z.length ∧ z.length ≤ 4 ∧ allIn (cs z) digits = true ∧ ¬ ((cs z).headD 0 = 48 ∧ 1 < z.length)) → W.t (.non) = .t (numT (.str z)) := fun h => by simp only [numT, if_neg h]
  repeat walk_at "w"
  refine p_D (fun h1 => ?_) (fun h1 => ?_)
  · repeat walk_at "w"
    exact w_fin (by simp) (no fun q => by omega)
  repeat walk_at "w"
  refine p_D (fun h2 => ?_) (fun h2 => ?_)
  · repeat walk_at "w"
    exact w_fin (by simp) (no fun q => by omega)
  have lz : (cs z).length = z.length := by simp [cs, Str.length]
  repeat walk_at "w"
  refine w_loop (fun i e ν => (∃ o, e = [some (.t (.str z)), some (.t (.int (dval ((cs z).take i)))), o]) ∧ ν = [] ∧ allIn ((cs z).take i) digits = true) ⟨⟨none, rfl⟩, rfl, by simp [allIn]⟩ (fun _ _ _ _ => trivial) ?_ ?_
  · rintro i y e ν hy ⟨⟨o, rfl⟩, rfl, ha⟩
    obtain ⟨c, hc, rfl⟩ := signs_at hy
    refine ⟨_, rfl, ?_⟩
    have dv := dval_4 ha (by rw [List.length_take]; omega)
    have e10 := dval_take hc
    generalize dval ((cs z).take i) = D at dv e10
    show WpS (sSeq _ _ [some (.t (.str z)), some (.t (.int D)), some (.t (.str ⟨#[c]⟩))] []) _ _ _ _ _
    repeat walk_at "w"
    refine w_nin (b := decide (c ∈ digits)) (by
      show some (inV (.str ⟨#[c]⟩) [.str "0", .str "1", .str "2", .str "3", .str "4", .str "5", .str "6", .str "7", .str "8", .str "9"]) = _
      rw [in_digits]) ?_
    repeat walk_at "w"
    refine p_ND (fun h6 => ?_) (fun h6 => ?_)
    · repeat walk_at "w"
      refine w_fin (by simp) (no fun q => ?_)
      have := List.all_eq_true.mp q.2.2.1 c (List.mem_of_getElem? hc)
      exact h6 (of_decide_eq_true this)
    repeat walk_at "w"
    refine ⟨_, rfl, ?_⟩
    repeat walk_at "w"
    have ef : fFind ("0123456789" : Str) (.t (.str ⟨#[c]⟩)) [] = .ok (.t (.int ((c : Int) - 48))) [] := by
      show R.ok (W.t (.int (Txt.find ("0123456789" : Str) (⟨#[c]⟩ : Str)))) _ = _
      rw [find_digit h6]
    refine Wp.of ef ?_
    repeat walk_at "w"
    refine ⟨⟨_, by rw [e10]; rfl⟩, rfl, ?_⟩
    unfold allIn at ha ⊢
    rw [take_succ_all hc, ha, decide_eq_true h6]; rfl
  · rintro e ν ⟨⟨o, rfl⟩, rfl, ha⟩
    rw [List.length_map, List.take_length] at ha
    have e9 : (cs z).take ({ gd := always, ys := List.map (fun c => W.t (T.str { cps := #[c] })) z.cps.toList } : WK).ys.length = cs z := by rw [List.length_map]; exact List.take_length
    rw [e9]
    have iy : ¬ ((cs z).headD 0 = 48 ∧ 1 < z.length) → W.t (.int (dval (cs z))) = .t (numT (.str z)) := fun h => by
      simp only [numT]; rw [if_pos ⟨by omega, by omega, ha, h⟩]
    repeat walk_at "w"
    refine w_ix_S (head_at (by omega)) (by walk_at "side") ?_
    repeat walk_at "w"
    rw [str_one (head_at (by omega))]
    refine p_D (fun h4 => ?_) (fun h4 => ?_)
    · repeat walk_at "w"
      refine p_D (fun h5 => ?_) (fun h5 => ?_)
      · repeat walk_at "w"
        exact w_fin (by simp) (no fun q => q.2.2.2 ⟨h4, by omega⟩)
      repeat walk_at "w"
      exact w_fin (by simp) (iy fun q => by omega)
    · repeat walk_at "w"
      exact w_fin (by simp) (iy fun q => h4 q.1)
/-! ### the two readings agree -/
theorem mem_letters {c : Nat} : c ∈ letters ↔ 97 ≤ c ∧ c ≤ 122 := by
  have e : letters = (List.range 26).map (97 + ·) := by decide +kernel
  rw [e]
  simp only [List.mem_map, List.mem_range]
  constructor
  · rintro ⟨a, h, rfl⟩; omega
  · intro h; exact ⟨c - 97, by omega, by omega⟩
theorem L36_eq : L36 = letters ++ digits := by decide +kernel
theorem L37_eq : L37 = letters ++ digits ++ [46] := by decide +kernel
theorem goodAll_tail (more : List Nat) : ∀ (l : List Nat) (k : Nat), 0 < k → goodAll more k l = allIn l (letters ++ cs ("0123456789" : Str) ++ more)
  | [], k, _ => rfl
  | c :: l, k, h => by
    simp only [goodAll, goodAll_tail more l (k + 1) (by omega), allIn, List.all_cons, goodAt]
    congr 1
    rw [Bool.eq_iff_iff]
    simp [show k ≠ 0 by omega]
theorem name_eq {t : T} {most : Int} {more : Str} (hm : 0 ≤ most) {l : List Nat} (hl : l = letters ++ digits ++ cs more) : nameT t most l = lawIs t most (cs more) := by
  subst hl
  cases t <;> first | rfl | skip
  rename_i z
  have lz : (cs z).length = z.length := by simp [cs, Str.length]
  simp only [nameT, begT, lawIs, strL]
  cases e : cs z with
  | nil =>
    rw [e] at lz
    rw [decide_eq_false (show ¬ 1 ≤ z.length by rw [← lz]; simp)]; rfl
  | cons c r =>
    rw [e] at lz
    simp only [List.headD_cons, goodAll, goodAll_tail (cs more) r 1 (by omega), allIn, List.all_cons, goodAt, cs_digits]
    rw [Bool.eq_iff_iff]
    simp only [Bool.and_eq_true, decide_eq_true_eq, Bool.or_eq_true, mem_letters, ne_eq, not_true, decide_false, Bool.false_and, List.mem_append]
    constructor
    · rintro ⟨⟨⟨⟨h1, h2⟩, h3⟩, h4⟩, h5, h6⟩
      exact ⟨⟨h1, h2⟩, .inl ⟨of_decide_eq_true h3, of_decide_eq_true h4⟩, h6⟩
    · rintro ⟨⟨h1, h2⟩, h3 | h3, h6⟩
      · exact ⟨⟨⟨⟨h1, h2⟩, decide_eq_true h3.1⟩, decide_eq_true h3.2⟩, .inl (.inl h3), h6⟩
      · simp at h3
theorem right_ok {t : T} {low high : Int} (h : plainT t = true) (hz : ∀ z, t = .str z → z.length ≤ 1000) : Pu (F__law_right [.t t, .t (.int low), .t (.int high)] []) (.bl true) := by
  have tr : ∀ b : Bool, decide (b = b) = true := fun b => by simp
  refine w_run rfl ?_
  simp only [List.map_cons, List.map_nil, List.cons_append, List.nil_append, List.replicate, Nat.reduceSub]
  rw [m__law_right]
  repeat walk_at "w"
  refine w_pure rfl rfl (law_whole_ok h) ?_
  repeat walk_at "w"
  refine w_pure rfl rfl (is_whole_ok h) ?_
  repeat walk_at "w"
  refine w_pure rfl rfl law_same_ok ?_
  rw [tr]
  repeat walk_at "w"
  refine w_pure rfl rfl (is_within_ok h) ?_
  repeat walk_at "w"
  have go : ∀ {Q : W → Mem → Prop}, Q (.t (.bl (inT t low high))) [] → (if isIntT t = true then Wp (mAndV (m2 fLe (mVar 1) (mVar 0)) (m2 fLe (mVar 0) (mVar 2)) [some (.t t), some (.t (.int low)), some (.t (.int high)), some (.t (.bl (isIntT t))), none, none] []) Q (fun x μ => noX x μ) else Q (.t (.bl false)) []) := fun {Q} q => by
    refine p_B (fun hi => ?_) (fun hi => ?_)
    · obtain ⟨i, rfl⟩ : ∃ i, t = .int i := by cases t <;> simp [isIntT] at hi; exact ⟨_, rfl⟩
      repeat walk_at "w"
      refine p_D (fun h1 => ?_) (fun h1 => ?_)
      · repeat walk_at "w"
        have e : inT (.int i) low high = decide (i ≤ high) := by simp [inT, h1]
        rw [e] at q; exact q
      · have e : inT (.int i) low high = false := by simp [inT, h1]
        rw [e] at q; exact q
    · have e : inT t low high = false := by cases t <;> first | rfl | simp [isIntT] at hi
      rw [e] at q; exact q
  refine go ?_
  repeat walk_at "w"
  refine w_pure rfl rfl law_same_ok ?_
  rw [tr]
  repeat walk_at "w"
  refine w_pure rfl rfl (is_name_ok h hz) ?_
  repeat walk_at "w"
  refine w_pure rfl rfl (law_is_ok h (by decide +kernel) hz) ?_
  rw [name_eq (more := "") (by omega) (by rw [L36_eq]; rfl)]
  repeat walk_at "w"
  refine w_pure rfl rfl law_same_ok ?_
  rw [tr]
  repeat walk_at "w"
  refine w_pure rfl rfl (is_group_name_ok h hz) ?_
  repeat walk_at "w"
  refine w_pure rfl rfl (law_is_ok h (by decide +kernel) hz) ?_
  rw [name_eq (more := ".") (by omega) (by rw [L37_eq]; rfl)]
  repeat walk_at "w"
  refine w_pure rfl rfl law_same_ok ?_
  rw [tr]
  repeat walk_at "w"
  refine w_pure rfl rfl (number_of_ok h hz) ?_
  repeat walk_at "w"
  refine w_pure rfl rfl (law_number_ok h hz) ?_
  repeat walk_at "w"
  have nk : numT t = .non ∨ ∃ i, numT t = .int i := by
    cases t <;> first | exact .inl rfl | skip
    simp only [numT]
    split
    · exact .inr ⟨_, rfl⟩
    · exact .inl rfl
  rcases nk with e | ⟨i, e⟩
  · rw [e]
    repeat walk_at "w"
    refine p_pos rfl ?_
    repeat walk_at "w"
    refine p_pos rfl ?_
    exact w_fin (by simp) rfl
  · rw [e]
    repeat walk_at "w"
    refine p_neg (by simp [isNonW]) ?_
    repeat walk_at "w"
    refine p_pos rfl ?_
    repeat walk_at "w"
    refine w_pure rfl rfl (law_whole_ok (t := .int i) rfl) ?_
    repeat walk_at "w"
    refine p_pos rfl ?_
    repeat walk_at "w"
    exact w_fin (by simp) (by simp)
end HQ
namespace HQ
open PySem PySem.Spec PyProof.Rows L2
local macro_rules | `(tactic| walk_at "side") => `(tactic| first | omega | assumption | (simp only [bigL]; omega) | decide)
local macro_rules | `(tactic| walk_at "w") => `(tactic| first
  | with_reducible refine ws_sSeq ?_
  | ((with_reducible refine' w_var ?wv ?_); (case' wv => exact rfl))
  | with_reducible refine w_T ?_
  | with_reducible refine w_m2 ?_
  | with_reducible refine w_mA ?_
  | with_reducible refine w_aCons ?_
  | with_reducible refine w_aNil ?_
  | with_reducible refine ws_asgN ?_
  | with_reducible refine ws_ret ?_
  | with_reducible refine ws_if ?_
  | with_reducible refine w_bOf ?_
  | with_reducible refine w_asB ?_
  | with_reducible refine ws_nil ?_
  | with_reducible refine w_bNot ?_
  | with_reducible refine w_bAnd ?_
  | with_reducible refine w_bOr ?_
  | with_reducible refine w_andV ?_
  | with_reducible refine w_orV ?_
  | with_reducible refine w_notV ?_
  | with_reducible refine w_mChain ?_
  | with_reducible refine w_mIf ?_
  | with_reducible refine w_m1 ?_
  | with_reducible refine w_sub ?_
  | with_reducible refine w_addI ?_
  | with_reducible refine w_neg ?_
  | with_reducible refine w_gt ?_
  | with_reducible refine w_lt ?_
  | with_reducible refine w_ge ?_
  | with_reducible refine w_le ?_
  | with_reducible refine w_leS ?_
  | with_reducible refine w_isN ?_
  | with_reducible refine w_isNn ?_
  | with_reducible refine w_neI ?_
  | with_reducible refine w_neS ?_
  | with_reducible refine w_neB ?_
  | with_reducible refine w_eqI ?_
  | with_reducible refine w_eqS ?_
  | with_reducible refine w_eqB ?_
  | with_reducible refine w_max ?_
  | with_reducible refine w_min ?_
  | with_reducible refine w_intI ?_
  | with_reducible refine w_intB ?_
  | ((with_reducible refine w_mod ?wc ?_); (case' wc => walk_at "side"))
  | ((with_reducible refine w_div ?wc ?wd ?_); (case' wc => walk_at "side"); (case' wd => walk_at "side"))
  | ((with_reducible refine w_mulI ?wc ?_); (case' wc => exact cmul_of (by walk_at "side") (by walk_at "side")))
  | ((with_reducible refine w_pow ?wc ?_); (case' wc => decide))
  | with_reducible refine w_mTup ?_
  | with_reducible refine w_mLst ?_
  | with_reducible refine w_mSl ?_
  | with_reducible refine w_oNone ?_
  | with_reducible refine w_oSome ?_
  | with_reducible refine w_mM1 ?_
  | with_reducible refine w_mDic1 ?_
  | with_reducible refine w_mkLl ?_
  | ((with_reducible refine' w_mkL ?wc ?_); (case' wc => exact rfl))
  | with_reducible refine ws_retN ?_
  | with_reducible refine ws_cont ?_
  | with_reducible refine ws_brk ?_
  | with_reducible refine ws_ex ?_
  | with_reducible refine ws_asgT ?_
  | with_reducible refine ws_setL ?_
  | with_reducible refine ws_for ?_
  | with_reducible refine w_iVal ?_
  | with_reducible refine w_iR1 ?_
  | with_reducible refine w_iR2 ?_
  | with_reducible refine w_iEnu ?_
  | with_reducible refine w_mLc ?_
  | with_reducible refine w_bYes ?_
  | with_reducible refine p_iteT ?_
  | with_reducible refine p_iteF ?_
  | with_reducible refine p_iteNT ?_
  | with_reducible refine p_iteNF ?_
  | ((with_reducible refine And.intro ?wl ?_); (case' wl => first | exact Nat.le_of_ble_eq_true rfl))
  | ((with_reducible refine' w_isi (r := true) ?w1 ?w2 ?w3 ?_); (case' w1 => exact rfl); (case' w2 => exact rfl); (case' w3 => exact rfl))
  | ((with_reducible refine' w_isi (r := false) ?w1 ?w2 ?w3 ?_); (case' w1 => exact rfl); (case' w2 => exact rfl); (case' w3 => exact rfl))
  | ((with_reducible refine w_call ?wc ?_); (case' wc => exact rfl))
  | ((with_reducible refine' w_ix_L ?w1 ?w2 ?_); (case' w1 => first | assumption | exact rfl); (case' w2 => exact rfl))
  | ((with_reducible refine' w_ix_T ?w1 ?w2 ?_); (case' w1 => first | exact rfl | assumption); (case' w2 => exact rfl))
  | ((with_reducible refine' w_len_L ?w1 ?_); (case' w1 => first | assumption | exact rfl))
  | ((with_reducible refine' w_len_T ?w1 ?_); (case' w1 => exact rfl))
  | ((with_reducible refine w_len_str ?wc ?_); (case' wc => walk_at "side"))
  | ((with_reducible refine w_kStr ?wc ?_); (case' wc => walk_at "side"))
  | ((with_reducible refine w_kEnuS ?wc ?_); (case' wc => walk_at "side"))
  | ((with_reducible refine w_strI ?wc ?_); (case' wc => walk_at "side"))
  | ((with_reducible refine w_addS ?wc ?_); (case' wc => walk_at "side")))
theorem fin_new {ν : Mem} {o : O} : fin ν.length (.ref ν.length) (ν ++ [o]) = .ok (.ref ν.length) (ν ++ [o]) := by
  unfold fin
  rw [if_neg (by simp)]
  simp only [cleanW, Nat.lt_irrefl, decide_false, Bool.false_eq_true, if_false, List.take_left']
  have e : (ν ++ [o])[ν.length]? = some o := by simp
  simp only [e, List.take_left]
  split
  · split <;> rfl
  · rfl
theorem fin_t {n : Nat} {t : T} {ν : Mem} {Q : W → Prop} {X : XV → Mem → Prop} (h : Q (.t t)) : Wp (fin n (.t t) ν) (fun u _ => Q u) X := by
  unfold fin
  simp only [cleanW, if_true]
  split
  · exact h
  · split <;> exact h
theorem box_ok {c : Int} {μ : Mem} {Q : W → Mem → Prop} {X : XV → Mem → Prop} (h : ∀ s : Bx, s.Ok 0 → Q (.ref μ.length) (μ ++ [s.o])) : Wp (F__law_box [.t (.int c)] μ) Q X := by
  refine w_run rfl ?_
  simp only [List.map_cons, List.map_nil, List.cons_append, List.nil_append, List.replicate, Nat.reduceSub]
  rw [m__law_box]
  repeat walk_at "w"
  have key : 0 ≤ if c - 10 ^ Int.toNat 18 > 0 then c - 10 ^ Int.toNat 18 else 0 := by split <;> omega
  exact Wp.of fin_new (h ⟨_, _, 0⟩ ⟨key, Int.emod_nonneg _ (by omega), Int.emod_lt_of_pos _ (by omega), by simp, by simp⟩)
/-- things of all kinds -/
def okThing (t : T) : Prop := plainT t = true ∧ ∀ z, t = .str z → z.length ≤ 1000
theorem small_str : ∀ i : _root_.Fin 24, (toString ((i.val : Int) - 12) : Str).length ≤ 1000 := by decide +kernel
theorem things_ok {n : Nat} {μ : Mem} {M : Nat} {s : Bx} {z : Str} {Q : W → Mem → Prop} {X : XV → Mem → Prop} (hs : μ[n]? = some s.o) (ok : s.Ok M) (hM : M < 2 ^ 70) (hz : z.length ≤ 100)
    (h : ∀ (t0 t2 t3 t4 t5 t6 t7 t8 t9 t10 : T) (i : Int) (s : Bx), (∀ t ∈ [t0, .int i, t2, t3, t4, t5, t6, t7, t8, t9, t10], okThing t) → s.Ok (M + 2) → Q (.t (.lst [t0, .int i, t2, t3, t4, t5, t6, t7, t8, t9, t10])) (μ.set n s.o)) : Wp (F__law_things [.ref n, .t (.str z)] μ) Q X := by
  have hn : n < μ.length := (List.getElem?_eq_some_iff.mp hs).1
  have at_ : ∀ s : Bx, (μ.set n s.o)[n]? = some s.o := fun s => List.getElem?_set_self hn
  refine w_run rfl ?_
  simp only [List.map_cons, List.map_nil, List.cons_append, List.nil_append, List.replicate, Nat.reduceSub]
  rw [m__law_things]
  repeat walk_at "w"
  refine take_ok hs ok (by omega) (by decide) (by decide) fun d s1 d0 d1 ok1 => ?_
  repeat walk_at "w"
  refine take_ok (at_ _) ok1 (by omega) (by omega) (by omega) fun k s2 k0 k1 ok2 => ?_
  rw [List.set_set]
  repeat walk_at "w"
  have e : dic1 (.t (.str z)) (.t (.int (k - 12))) (μ.set n s2.o) = .ok (.t (.dic [.str z] [.int (k - 12)])) (μ.set n s2.o) := rfl
  refine Wp.of e ?_
  repeat walk_at "w"
  refine w_fin (by simp) (h _ _ _ _ _ _ _ _ _ _ _ s2 ?_ ok2)
  have ls : (toString (k - 12) : Str).length ≤ 1000 := by
    have := small_str ⟨k.toNat, by omega⟩
    simpa [show ((k.toNat : Nat) : Int) = k by omega] using this
  intro t ht
  simp only [List.mem_cons, List.not_mem_nil, or_false] at ht
  rcases ht with rfl | rfl | rfl | rfl | rfl | rfl | rfl | rfl | rfl | rfl | rfl <;> refine ⟨rfl, fun y e => ?_⟩ <;> cases e <;> omega
theorem ix_pairs {rs : List (Int × Int)} {d : Int} (h0 : 0 ≤ d) (h1 : d < rs.length) : ∃ a b, atI (rs.map fun r => W.t (.tup [.int r.1, .int r.2])) d = some (.t (.tup [.int a, .int b])) := by
  obtain ⟨c, hc, e⟩ := atI_lt (xs := rs) h0 h1
  obtain ⟨x, hx, e2⟩ := atI_lt (xs := rs.map fun r => W.t (.tup [.int r.1, .int r.2])) h0 (by simpa using h1)
  rw [List.getElem?_map, e] at e2
  exact ⟨c.1, c.2, by rw [hx]; exact e2.symm⟩
theorem num_911 : ∀ k : _root_.Fin 12, numT (.str (toString ((k.val : Int) * 911))) = if (k.val : Int) * 911 > 9999 then .non else .int ((k.val : Int) * 911) := by
  intro k
  match k with
  | 0 => kernel_rfl
  | 1 => kernel_rfl
  | 2 => kernel_rfl
  | 3 => kernel_rfl
  | 4 => kernel_rfl
  | 5 => kernel_rfl
  | 6 => kernel_rfl
  | 7 => kernel_rfl
  | 8 => kernel_rfl
  | 9 => kernel_rfl
  | 10 => kernel_rfl
  | 11 => kernel_rfl
theorem w_sl_scr {ns : List Int} {lo hi : Option Int} {μ : Mem} {Q : W → Mem → Prop} {X : XV → Mem → Prop} (h : Q (.t (.lst ((cutA ns lo hi).map .int))) μ) : Wp (fSl false (.t (.scr ns)) lo hi μ) Q X := by
  have e : cutA (ns.map fun n => W.t (.int n)) lo hi = ((cutA ns lo hi).map T.int).map .t := by
    simp only [cutA, List.length_map, List.map_take, List.map_drop, List.map_map]; rfl
  show Wp (mkL false (cutA (ns.map fun n => W.t (.int n)) lo hi) μ) Q X
  rw [e]
  exact w_mkL (toTs_map _) h
theorem len_cutA {α : Type} (xs : List α) (lo hi : Option Int) : (cutA xs lo hi).length ≤ xs.length := by
  simp only [cutA, List.length_take, List.length_drop]; omega
theorem law_ok (ns : List Int) (hl : ns.length ≤ 63) : Wp (F_law [.t (.scr ns)] []) (fun u _ => u = .t (.bl true)) noX := by
  refine w_run rfl ?_
  simp only [List.map_cons, List.map_nil, List.cons_append, List.nil_append, List.replicate, Nat.reduceSub]
  rw [m_law]
  repeat walk_at "w"
  refine ⟨_, rfl, ?_⟩
  refine w_sl_scr ?_
  have hc := len_cutA ns none (some 60)
  generalize cutA ns none (some 60) = cells at hc
  repeat walk_at "w"
  refine w_addL (a := cells.map .int) (b := [2, 3, 5, 7, 11].map .int) (by simp [bigL]; omega) ?_
  rw [← List.map_append]
  have hc : (cells ++ [2, 3, 5, 7, 11]).length ≤ 100 := by simp; omega
  generalize cells ++ [2, 3, 5, 7, 11] = cells at hc
  refine w_mkL (toTs_map _) ?_
  refine w_kL rfl (by simp [bigL]; omega) ?_
  refine w_loop (fun i e ν => ∃ o1 o2 o3 o4 o5 o6 o7 o8 o9, e = [some (.t (.scr ns)), o1, o2, o3, o4, o5, o6, o7, o8, o9]) ⟨_, _, _, _, _, _, _, _, _, rfl⟩ (fun _ _ _ _ => rfl) ?_ ?_
  · rintro i y e ν hy ⟨o1, o2, o3, o4, o5, o6, o7, o8, o9, rfl⟩
    obtain ⟨c, rfl⟩ : ∃ c, y = .t (.int c) := by
      have := List.mem_of_getElem? hy
      simp only [List.map_map, List.mem_map] at this
      obtain ⟨c, _, rfl⟩ := this
      exact ⟨c, rfl⟩
    refine ⟨_, rfl, ?_⟩
    show WpS (sSeq _ _ [some (.t (.scr ns)), some (.t (.int c)), o2, o3, o4, o5, o6, o7, o8, o9] ν) _ _ _ _ _
    repeat walk_at "w"
    refine box_ok fun s ok0 => ?_
    have at_ : ∀ s : Bx, (ν ++ [s.o])[ν.length]? = some s.o := fun s => by simp
    have set_ : ∀ s s' : Bx, (ν ++ [s.o]).set ν.length s'.o = ν ++ [s'.o] := fun s s' => by simp
    repeat walk_at "w"
    refine text_ok (at_ s) ok0 (by decide) fun z s1 lz ok1 => ?_
    rw [set_]
    repeat walk_at "w"
    refine things_ok (at_ s1) ok1 (by decide) lz fun t0 t2 t3 t4 t5 t6 t7 t8 t9 t10 i s2 hT ok2 => ?_
    rw [set_]
    repeat walk_at "w"
    refine w_kL rfl (by simp [bigL]) ?_
    have lt : ∀ t ∈ [t0, .int i, t2, t3, t4, t5, t6, t7, t8, t9, t10], okThing t := hT
    generalize hLT : ([t0, .int i, t2, t3, t4, t5, t6, t7, t8, t9, t10] : List T) = LT at lt
    generalize hp1 : (10 : Int) ^ Int.toNat 30 - 1 = P30
    refine w_loop (fun j e ν' => ∃ o6 o7 o8 o9, e = [some (.t (.scr ns)), some (.t (.int c)), some (.ref ν.length), some (.t (.lst LT)), some (.t (.int P30)), some (.t (.lst [T.tup [T.int (-12), T.int 11], T.tup [T.int 0, T.int 0], T.tup [T.int 1, T.int 50],
                    T.tup [T.int 5, T.int 4], T.tup [T.int i, T.int i], T.tup [T.int (if P30 < i + 1 then P30 else i + 1), T.int P30]])), o6, o7, o8, o9] ∧ ∃ s : Bx, ν' = ν ++ [s.o] ∧ s.Ok (102 + j)) ⟨_, _, _, _, rfl, _, rfl, ok2⟩ (fun _ _ _ _ => rfl) ?_ ?_
    · rintro j y e ν' hy ⟨o6, o7, o8, o9, rfl, s, rfl, ok⟩
      have hj : j < 100 := by
        have := (List.getElem?_eq_some_iff.mp hy).1
        rw [List.length_map, ← hLT] at this
        simp at this; omega
      obtain ⟨t, ht, rfl⟩ : ∃ t ∈ LT, W.t t = y := by
        have := List.mem_of_getElem? hy
        simpa [List.mem_map] using this
      obtain ⟨h1, h2⟩ := lt t ht
      refine ⟨_, rfl, ?_⟩
      simp only [List.set]
      repeat walk_at "w"
      refine take_ok (at_ s) ok (by omega) (by decide) (by decide) fun d s3 d0 d1 ok3 => ?_
      rw [set_]
      obtain ⟨a, b, hx⟩ := ix_pairs (rs := [(-12, 11), (0, 0), (1, 50), (5, 4), (i, i), (if P30 < i + 1 then P30 else i + 1, P30)]) d0 (by simp; omega)
      refine w_ix_L rfl hx ?_
      refine ⟨_, rfl, ?_⟩
      repeat walk_at "w"
      refine w_pure rfl rfl (right_ok h1 h2) ?_
      repeat walk_at "w"
      exact ⟨_, _, _, _, rfl, s3, rfl, ok3.mono (by omega)⟩
    · rintro e ν' ⟨o6, o7, o8, o9, rfl, s, rfl, ok⟩
      repeat walk_at "w"
      exact ⟨_, _, _, _, _, _, _, _, _, rfl⟩
  · rintro e ν ⟨o1, o2, o3, o4, o5, o6, o7, o8, o9, rfl⟩
    repeat walk_at "w"
    refine ⟨_, rfl, ?_⟩
    refine w_rg (by decide) (by decide) ?_
    refine w_loop (fun j e ν => ∃ o1 o2 o3 o4 o5 o6 o7 o8 o9, e = [some (.t (.scr ns)), o1, o2, o3, o4, o5, o6, o7, o8, o9]) ⟨_, _, _, _, _, _, _, _, _, rfl⟩ (fun _ _ _ _ => trivial) ?_ ?_
    · rintro j y e ν hy ⟨o1, o2, o3, o4, o5, o6, o7, o8, o9, rfl⟩
      obtain ⟨hj, rfl⟩ : j < 12 ∧ y = .t (.int (j : Nat)) := by
        obtain ⟨h1, h2⟩ := List.getElem?_eq_some_iff.mp hy
        have h1 : j < 12 := by simpa using h1
        refine ⟨h1, ?_⟩
        rw [← h2]; simp
      refine ⟨_, rfl, ?_⟩
      simp only [List.set]
      have lm : (toString ((j : Int) * 911) : Str).length ≤ 1000 := (show ∀ k : _root_.Fin 12, (toString ((k.val : Int) * 911) : Str).length ≤ 1000 by decide +kernel) ⟨j, hj⟩
      have e9 := num_911 ⟨j, hj⟩
      dsimp only at e9
      repeat walk_at "w"
      refine w_pure rfl rfl (number_of_ok (t := .str _) rfl fun z e => by cases e; exact lm) ?_
      rw [e9]
      repeat walk_at "w"
      by_cases h9 : 9999 < (j : Int) * 911
      · rw [if_pos h9, decide_eq_true h9]
        refine w_ix_L (i := 1) rfl rfl ?_
        refine w_ne (b := true) rfl ?_
        repeat walk_at "w"
        exact ⟨_, _, _, _, _, _, _, _, _, rfl⟩
      · rw [if_neg h9, decide_eq_false h9]
        refine w_ix_L (i := 0) rfl rfl ?_
        repeat walk_at "w"
        refine p_ND (fun h => absurd rfl h) (fun _ => ?_)
        repeat walk_at "w"
        exact ⟨_, _, _, _, _, _, _, _, _, rfl⟩
    · rintro e ν ⟨o1, o2, o3, o4, o5, o6, o7, o8, o9, rfl⟩
      have k1 : ∀ z : Str, z.length ≤ 5 → ∀ z', T.str z = .str z' → z'.length ≤ 1000 := fun z h z' e => by cases e; omega
      have v1 : numT (.str ("10000" : Str)) = .non := by kernel_rfl
      have v2 : numT (.str ("9999" : Str)) = .int 9999 := by kernel_rfl
      have v3 : numT (.str ("0" : Str)) = .int 0 := by kernel_rfl
      repeat walk_at "w"
      refine w_pure rfl rfl (number_of_ok (t := .str _) rfl (k1 _ (by decide +kernel))) ?_
      rw [v1]
      repeat walk_at "w"
      refine p_pos rfl ?_
      repeat walk_at "w"
      refine w_pure rfl rfl (number_of_ok (t := .str _) rfl (k1 _ (by decide +kernel))) ?_
      rw [v2]
      repeat walk_at "w"
      refine p_pos rfl ?_
      repeat walk_at "w"
      refine w_pure rfl rfl (number_of_ok (t := .str _) rfl (k1 _ (by decide +kernel))) ?_
      rw [v3]
      repeat walk_at "w"
      exact fin_t rfl
end HQ
namespace HQ
open PySem PySem.Spec PyProof.Rows L2
def dd__law_box : He.DefD := ⟨("_law_box", none), "_law_box", "_law_box", defArgs (top 10), defBody (top 10), defScope (top 10), [], []⟩
def dd__law_take : He.DefD := ⟨("_law_take", none), "_law_take", "_law_take", defArgs (top 11), defBody (top 11), defScope (top 11), [], []⟩
def dd__law_things : He.DefD := ⟨("_law_things", none), "_law_things", "_law_things", defArgs (top 14), defBody (top 14), defScope (top 14), [], []⟩
def dd__law_signs : He.DefD := ⟨("_law_signs", none), "_law_signs", "_law_signs", defArgs (top 12), defBody (top 12), defScope (top 12), [], []⟩
def dd__law_text : He.DefD := ⟨("_law_text", none), "_law_text", "_law_text", defArgs (top 13), defBody (top 13), defScope (top 13), [], []⟩
def dd_are_signs : He.DefD := ⟨("are_signs", none), "are_signs", "are_signs", defArgs (top 3), defBody (top 3), defScope (top 3), [], []⟩
def dd_number_of : He.DefD := ⟨("number_of", none), "number_of", "number_of", defArgs (top 7), defBody (top 7), defScope (top 7), [], []⟩
def dd__law_whole : He.DefD := ⟨("_law_whole", none), "_law_whole", "_law_whole", defArgs (top 17), defBody (top 17), defScope (top 17), [], []⟩
def dd__law_number : He.DefD := ⟨("_law_number", none), "_law_number", "_law_number", defArgs (top 16), defBody (top 16), defScope (top 16), [], []⟩
def dd__law_same : He.DefD := ⟨("_law_same", none), "_law_same", "_law_same", defArgs (top 18), defBody (top 18), defScope (top 18), [], []⟩
def dd_is_whole : He.DefD := ⟨("is_whole", none), "is_whole", "is_whole", defArgs (top 1), defBody (top 1), defScope (top 1), [], []⟩
def dd_is_within : He.DefD := ⟨("is_within", none), "is_within", "is_within", defArgs (top 2), defBody (top 2), defScope (top 2), [], []⟩
def dd_begins_well : He.DefD := ⟨("begins_well", none), "begins_well", "begins_well", defArgs (top 4), defBody (top 4), defScope (top 4), [], []⟩
def dd_is_name : He.DefD := ⟨("is_name", none), "is_name", "is_name", defArgs (top 5), defBody (top 5), defScope (top 5), [], []⟩
def dd__law_is : He.DefD := ⟨("_law_is", none), "_law_is", "_law_is", defArgs (top 15), defBody (top 15), defScope (top 15), [], []⟩
def dd_is_group_name : He.DefD := ⟨("is_group_name", none), "is_group_name", "is_group_name", defArgs (top 6), defBody (top 6), defScope (top 6), [], []⟩
def dd__law_right : He.DefD := ⟨("_law_right", none), "_law_right", "_law_right", defArgs (top 19), defBody (top 19), defScope (top 19), [], []⟩
def dd_law : He.DefD := ⟨("law", none), "law", "law", defArgs (top 20), defBody (top 20), defScope (top 20), [], []⟩
def hfn : List He.DefD := [dd__law_box, dd__law_take, dd__law_things, dd__law_signs, dd__law_text, dd_are_signs, dd_number_of, dd__law_whole, dd__law_number, dd__law_same, dd_is_whole, dd_is_within, dd_begins_well, dd_is_name, dd__law_is, dd_is_group_name, dd__law_right, dd_law]
def hfa : List He.Fa := [.glo "_law_box", .glo "_law_take", .glo "_law_things", .glo "_law_signs", .glo "_law_text", .glo "are_signs", .glo "number_of", .glo "_law_whole", .glo "_law_number", .glo "_law_same", .glo "is_whole", .glo "is_within", .glo "begins_well", .glo "is_name", .glo "_law_is", .glo "is_group_name", .glo "_law_right", .glo "law", .free "isinstance", .free "int", .free "bool", .free "str", .free "len", .free "max", .free "min", .free "range", .free "enumerate"]
def hnames : List Str := ["_law_box", "_law_take", "_law_things", "_law_signs", "_law_text", "are_signs", "number_of", "_law_whole", "_law_number", "_law_same", "is_whole", "is_within", "begins_well", "is_name", "_law_is", "is_group_name", "_law_right", "law"]
abbrev hR : PySem.W.OpenRow := PySem.W.OpenLaw.row PySem.Challenge.rw_homequay_k01_names_and_numbers
abbrev hkX : PySem.W.Hook := hookX hnames 3 [] hfa hfn
def hob (s : PySem.W.SharedT) : AlX := obsXG hnames 3 [] hfa hfn (HandSHeadRun.getT s)
theorem hob_eq (s : PySem.W.SharedT) : hob s = hkX.obs s.abs := obsXG_eq (HandSHeadRun.getT_eq s)
def hloose0 : List Str := ["is_whole", "is_within", "are_signs", "begins_well", "is_name", "is_group_name", "number_of", "_law_cell", "_law_box", "_law_take", "_law_signs", "_law_text", "_law_things", "_law_is", "_law_number", "_law_whole", "_law_same", "_law_right"]
abbrev hloose : List Str := hloose0
theorem hrun (w : World) : HandSHeadRun.RunEq hR (PySem.W.view hR.prog [20]) hkX hob 3000 hloose w := by
  intro os
  kernel_rfl
theorem hG {P : Program} {w : World} {K : PySem.W.Frag} {h : Heap} {mg : Str → Option Value} {base : Heap} {D : Ad} (X : K.In h) (G : h.Ns mainGlobals mg) (c : SaysX [] hfa hfn K) : GF P K mg base D w := by
  constructor
  · exact ktB_ok
  · intro x hx
    have hx : x ∈ freeL := List.elem_iff.mp hx
    simp only [freeL, List.mem_cons, List.not_mem_nil, or_false] at hx
    rcases hx with rfl | rfl | rfl | rfl | rfl | rfl | rfl | rfl | rfl
    · exact He.free_ok X G (c.d.fact 18 (f := .free "isinstance") rfl)
    · exact He.free_ok X G (c.d.fact 19 (f := .free "int") rfl)
    · exact He.free_ok X G (c.d.fact 20 (f := .free "bool") rfl)
    · exact He.free_ok X G (c.d.fact 21 (f := .free "str") rfl)
    · exact He.free_ok X G (c.d.fact 22 (f := .free "len") rfl)
    · exact He.free_ok X G (c.d.fact 23 (f := .free "max") rfl)
    · exact He.free_ok X G (c.d.fact 24 (f := .free "min") rfl)
    · exact He.free_ok X G (c.d.fact 25 (f := .free "range") rfl)
    · exact He.free_ok X G (c.d.fact 26 (f := .free "enumerate") rfl)
  · obtain ⟨fd, F⟩ := c.d.def_ 0 (d := dd__law_box) rfl
    exact ⟨_, fd, F, He.glo_ok X G (c.d.fact 0 (f := .glo "_law_box") rfl)⟩
  · obtain ⟨fd, F⟩ := c.d.def_ 1 (d := dd__law_take) rfl
    exact ⟨_, fd, F, He.glo_ok X G (c.d.fact 1 (f := .glo "_law_take") rfl)⟩
  · obtain ⟨fd, F⟩ := c.d.def_ 2 (d := dd__law_things) rfl
    exact ⟨_, fd, F, He.glo_ok X G (c.d.fact 2 (f := .glo "_law_things") rfl)⟩
  · obtain ⟨fd, F⟩ := c.d.def_ 3 (d := dd__law_signs) rfl
    exact ⟨_, fd, F, He.glo_ok X G (c.d.fact 3 (f := .glo "_law_signs") rfl)⟩
  · obtain ⟨fd, F⟩ := c.d.def_ 4 (d := dd__law_text) rfl
    exact ⟨_, fd, F, He.glo_ok X G (c.d.fact 4 (f := .glo "_law_text") rfl)⟩
  · obtain ⟨fd, F⟩ := c.d.def_ 5 (d := dd_are_signs) rfl
    exact ⟨_, fd, F, He.glo_ok X G (c.d.fact 5 (f := .glo "are_signs") rfl)⟩
  · obtain ⟨fd, F⟩ := c.d.def_ 6 (d := dd_number_of) rfl
    exact ⟨_, fd, F, He.glo_ok X G (c.d.fact 6 (f := .glo "number_of") rfl)⟩
  · obtain ⟨fd, F⟩ := c.d.def_ 7 (d := dd__law_whole) rfl
    exact ⟨_, fd, F, He.glo_ok X G (c.d.fact 7 (f := .glo "_law_whole") rfl)⟩
  · obtain ⟨fd, F⟩ := c.d.def_ 8 (d := dd__law_number) rfl
    exact ⟨_, fd, F, He.glo_ok X G (c.d.fact 8 (f := .glo "_law_number") rfl)⟩
  · obtain ⟨fd, F⟩ := c.d.def_ 9 (d := dd__law_same) rfl
    exact ⟨_, fd, F, He.glo_ok X G (c.d.fact 9 (f := .glo "_law_same") rfl)⟩
  · obtain ⟨fd, F⟩ := c.d.def_ 10 (d := dd_is_whole) rfl
    exact ⟨_, fd, F, He.glo_ok X G (c.d.fact 10 (f := .glo "is_whole") rfl)⟩
  · obtain ⟨fd, F⟩ := c.d.def_ 11 (d := dd_is_within) rfl
    exact ⟨_, fd, F, He.glo_ok X G (c.d.fact 11 (f := .glo "is_within") rfl)⟩
  · obtain ⟨fd, F⟩ := c.d.def_ 12 (d := dd_begins_well) rfl
    exact ⟨_, fd, F, He.glo_ok X G (c.d.fact 12 (f := .glo "begins_well") rfl)⟩
  · obtain ⟨fd, F⟩ := c.d.def_ 13 (d := dd_is_name) rfl
    exact ⟨_, fd, F, He.glo_ok X G (c.d.fact 13 (f := .glo "is_name") rfl)⟩
  · obtain ⟨fd, F⟩ := c.d.def_ 14 (d := dd__law_is) rfl
    exact ⟨_, fd, F, He.glo_ok X G (c.d.fact 14 (f := .glo "_law_is") rfl)⟩
  · obtain ⟨fd, F⟩ := c.d.def_ 15 (d := dd_is_group_name) rfl
    exact ⟨_, fd, F, He.glo_ok X G (c.d.fact 15 (f := .glo "is_group_name") rfl)⟩
  · obtain ⟨fd, F⟩ := c.d.def_ 16 (d := dd__law_right) rfl
    exact ⟨_, fd, F, He.glo_ok X G (c.d.fact 16 (f := .glo "_law_right") rfl)⟩
  · obtain ⟨fd, F⟩ := c.d.def_ 17 (d := dd_law) rfl
    exact ⟨_, fd, F, He.glo_ok X G (c.d.fact 17 (f := .glo "law") rfl)⟩
theorem hfacts {P : Program} {w : World} {K : PySem.W.Frag} {h : Heap} {mg : Str → Option Value} {f : Addr} (D : Ad) (X : K.In h) (G : h.Ns mainGlobals mg) (hfa_ : mg ("law" : Str) = some (.ref f)) (c : SaysX [] hfa hfn K) :
    ∃ fd : FuncData, (∀ (s : Shared) (v : Value), BindsTo s fd ⟨[v], []⟩ [("_law_script", v)]) ∧ ∀ base : Heap, K.In base → base.Ns mainGlobals mg → FnOk P w K mg base (L2.CX P w) 4 f fd ["_law_script"] (spF D w 1 F_law) := by
  obtain ⟨fA, fd, FD, hm⟩ := (hG (P := P) (w := w) (base := h) (D := D) X G c).def_law
  have e := hfa_.symm.trans hm
  cases e
  have b := FunD.bindsA (ps := ["_law_script"]) FD fun _ _ _ _ _ _ us hl => match us, hl with | [_], _ => rfl
  refine ⟨fd, fun s v => b s [v] rfl, fun base _ _ => ?_⟩
  exact fo_law (hG (base := base) X G c) FD
end HQ
open PySem PySem.W PySem.Calls PyProof.Rows
set_option maxHeartbeats 0
theorem PySem.Challenge.cw_homequay_k01_names_and_numbers_holds : PySem.Challenge.rw_homequay_k01_names_and_numbers.Holds := by
  w_on; o_law
  refine HandSHeadRun.head_any (r := OpenLaw.row PySem.Challenge.rw_homequay_k01_names_and_numbers) (q := view (OpenLaw.row PySem.Challenge.rw_homequay_k01_names_and_numbers).prog [20]) (H := HQ.hkX) (ob := HQ.hob) (M := 3000) (loose := HQ.hloose) (d := HandSHeadRun.topDef (OpenLaw.row PySem.Challenge.rw_homequay_k01_names_and_numbers).prog 20) (kwd := []) HQ.hob_eq
    (by kernel_rfl) (fun s => by kernel_rfl) HQ.hrun (by kernel_rfl) (by kernel_rfl) (by kernel_rfl) (by rfl) (by first | assumption | decide +kernel) (by decide +kernel) ⟨rfl, rfl, rfl, rfl, rfl, by decide +kernel⟩ ?hw ?hc
  case hw => w_witness2
  case hc =>
    refine HQ.walk_ofW (l := PySem.Challenge.rw_homequay_k01_names_and_numbers) (n := 63) (k := 4) (x := "_law_script") (CX := fun w => L2.CX (PySem.Challenge.rw_homequay_k01_names_and_numbers).prog w) rfl (by decide) (by kernel_rfl) ⟨rfl, by decide, by decide⟩ ?F fun _ _ _ _ _ ⟨_, _, _, _, _, _, _, _, _, _, _, _, h⟩ => h
    intro w mg fa h Y G hmg0
    obtain ⟨K, KX, c⟩ := Y
    have hmg : mg ("law" : PySem.Str) = some (.ref fa) := by
      have e : (HandSHeadRun.topDef (OpenLaw.row PySem.Challenge.rw_homequay_k01_names_and_numbers).prog 20).name = ("law" : PySem.Str) := by kernel_rfl
      rw [← e]
      exact hmg0
    obtain ⟨fd, hb, hF⟩ := HQ.hfacts (P := (PySem.Challenge.rw_homequay_k01_names_and_numbers).prog) (w := w) ⟨fun _ => 0, fun _ => 0⟩ KX G hmg c
    exact ⟨K, fd, HQ.spF ⟨fun _ => 0, fun _ => 0⟩ w 1 HQ.F_law, KX, hb, fun H a ns hl hO hS => HQ.law_sp (fun _ _ h => c.noL h) hO hS (HQ.law_ok ns hl), hF⟩
