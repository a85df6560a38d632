import PyProof.Rows.All
import Wide.All
import OpenK.AllK
import Wide.FinOn
import HandS.ForMost
import HandS.More
import HandS.Conv
import HandS.Wide
import HandS.WordsExc
import HandS.Defaults
import KE.KDictKeyed
import KE.KDictWalk
import HandS.Nested
import HandS.IsInst
import HandS.TupAny
import HandS.Deep
import HandS.StrMore
import HandS.CallSlots
import HandS.Walk
import HandS.Head0
import HandS.Head1
import HandS.Head2
import HandS.HeadEnd
import HandS.HeadHook1
import HandS.HeadHook2
import HandS.ExcInit
import PyProof.DictFindH
import PyProof.DictRoadsH
import KE.KeyNested
import HandS.Dict
import HandS.SortInts
import HandS.TupMul
import HandS.Zip
import PySem.Challenge.RW_homequay_k41_heaps
set_option Elab.async false
set_option linter.all false
set_option maxRecDepth 100000
set_option maxHeartbeats 4000000
set_option autoImplicit false
/-! HQ1: data, values, memory of the evaluator; how they stand in the abstract heap. -/
namespace HQ
open PySem PySem.Spec PyProof.Rows L2

/-- data that never changes any more -/
inductive T where
  | non | bl (b : Bool) | int (i : Int) | str (s : Str) | ty (n : String)
  | fn (i : Nat) | cls (c : Nat)
  | tup (ts : List T) | lst (ts : List T) | scr (ns : List Int)
  | ptup (ts : List T)
  | dic (ks vs : List T)
  | ins (c : Nat) (ns : List Str) (ts : List T)

/-- a value: data, a live object, a tuple with live objects in it -/
inductive W where
  | t (t : T) | ref (n : Nat) | tup (ws : List W)

/-- a live object -/
inductive O where
  | lst (ws : List W)
  | dic (ks : List T) (vs : List W)
  | ins (c : Nat) (ns : List Str) (ws : List W)
  | clo (i : Nat) (ts : List T)
  | dead

/-- it may change -/
@[simp] def O.Live : O → Prop
  | .dead => False
  | .clo _ _ => False
  | _ => True
theorem O.Live.nd {o : O} (h : o.Live) : o ≠ .dead := fun e => by subst e; exact h
abbrev Mem := List O
abbrev En := List (Option W)
abbrev Sg := L2.St

/-- where the program's defs and classes stand -/
structure CloD where
  name : Str
  qual : Str
  params : Arguments
  body : List Stmt
  scope : Scope
  fr : List Str
structure Ad where
  fa : Nat → Addr
  ca : Nat → Addr
  tabs : List (Addr × (Nat → Nat → Str)) := []
  cd : Nat → CloD := fun _ => ⟨"", "", ⟨[], [], none, [], [], none, []⟩, [], ⟨.function, [], false, false, []⟩, []⟩
/-- a captured cell holds v -/
def CellAt (F : Hp) (c : Addr) (v : V) : Prop := ∃ (ob : Obj) (u : Value), F c = some (.frz ob (.own 0)) ∧ ob.data = .cell (some u) ∧ RelV v u
/-- a table, a cell -/
def oddO (u : HO) : Prop := (∃ ps, u = .tbl ps) ∨ ∃ ob, u = .frz ob (.own 0)
/-- the captured cells -/
structure CloC (F : Hp) (cl : List (Str × Addr)) (fr : List Str) (vs : List V) : Prop where
  nd : fr.Nodup
  len : vs.length = fr.length
  mem : ∀ y c, cl.lookup y = some c → ∃ (j : Nat) (v : V), fr[j]? = some y ∧ vs[j]? = some v ∧ CellAt F c v
  inj : ∀ x y c, cl.lookup x = some c → cl.lookup y = some c → x = y
  has : ∀ (j : Nat) y, fr[j]? = some y → ∃ c, cl.lookup y = some c
theorem CloC.mono {F F' : Hp} {cl : List (Str × Addr)} {fr : List Str} {vs : List V} (h : CloC F cl fr vs) (hs : Same F F') : CloC F' cl fr vs := ⟨h.nd, h.len, fun y c e => by
  obtain ⟨j, v, h1, h2, ob, u, h3, h4, h5⟩ := h.mem y c e
  exact ⟨j, v, h1, h2, ob, u, hs _ _ h3, h4, h5⟩, h.inj, h.has⟩
def CloD.nf (d : CloD) (cl : List (Str × Addr)) (c : Addr) : NdefX.NF := ⟨d.name, d.qual, d.params, d.body, d.scope, cl, c⟩
/-- the tables of code objects -/
def TbOk (D : Ad) (F H : Hp) (as : List Addr) : Prop := (∀ b ps, F b ≠ some (.tbl ps)) ∧ (∀ b ob, F b = some (.frz ob (.own 0)) → b ∉ as) ∧ ∀ p ∈ D.tabs, p.1 ∉ as ∧ ∃ ps : Array Value, H p.1 = some (.tbl ps) ∧ TriplesOk ps.toList ∧ ∀ (pos : Pos) (cv : Value), codeAmong pos ps.toList = some cv → ∃ c, cv = .ref c ∧ F c = some (LamX.CodeO c (p.2 pos.line pos.col))
theorem TbOk.keep {D : Ad} {F F' H H' : Hp} {as as' : List Addr} (tb : TbOk D F H as) (hF : Same F F') (hH : ∀ b ps, b ∉ as → H b = some (.tbl ps) → H' b = some (.tbl ps)) (ha : ∀ b ∈ as', b ∈ as ∨ (F b = none ∧ ∀ ps, H b ≠ some (.tbl ps))) (hN : ∀ b u, F' b = some u → oddO u → F b = some u := by exact fun _ _ h _ => h) : TbOk D F' H' as' := by
  refine ⟨fun b ps e => tb.1 b ps (hN b _ e (.inl ⟨_, rfl⟩)), fun b ob e hm => ?_, fun p hp => ?_⟩
  · have e1 := hN b _ e (.inr ⟨_, rfl⟩)
    rcases ha b hm with q | q
    · exact tb.2.1 b ob e1 q
    · rw [q.1] at e1; cases e1
  · obtain ⟨h1, ps, h2, h3, h4⟩ := tb.2.2 p hp
    refine ⟨fun hm => ?_, ps, hH _ _ h1 h2, h3, fun pos cv e => ?_⟩
    · rcases ha _ hm with q | q
      · exact h1 q
      · exact q.2 ps h2
    · obtain ⟨c, e1, e2⟩ := h4 pos cv e
      exact ⟨c, e1, hF _ _ e2⟩

mutual
/-- the key that data are (tuples no deeper than n) -/
def keyT : Nat → T → Option NestedKey
  | _, .non => some .none
  | _, .bl b => some (.num (if b then 1 else 0))
  | _, .int i => some (.num i)
  | _, .str s => some (.text s)
  | n + 1, .tup ts => (keyTs n ts).map NestedKey.tup
  | _, _ => none
def keyTs : Nat → List T → Option (List NestedKey)
  | _, [] => some []
  | n, t :: ts => match keyT n t, keyTs n ts with
    | some k, some ks => some (k :: ks)
    | _, _ => none
end

/-- an entry of a dict -/
structure DE where
  k : NestedKey
  kv : V
  vv : V
/-- the object at a is a dict of these entries -/
def DicP (w : World) (a : Addr) (es : List DE) (h : Heap) : Prop :=
  (a == sysModules) = false ∧ es.length ≤ sizeLine ∧ ∃ (o : Obj) (xs : Array DictEntry) (ep : Nat), h.get? a = some o ∧ o.ExactDict ∧ o.data = .dict xs ep ∧
    Paired (fun (e : DE) (x : DictEntry) => x.hash = e.k.hash w ∧ RelV e.kv x.key ∧ RelV e.vv x.val) es xs.toList
def dicO (w : World) (a : Addr) (es : List DE) : HO := .ext (DicP w a es)

section
variable (D : Ad) (w : World)
mutual
def RT (F : Hp) : T → V → Prop
  | .non, v => v = .non
  | .bl b, v => v = .bl b
  | .int i, v => v = .int i
  | .str s, v => v = .str s
  | .ty n, v => v = .ty n
  | .fn i, v => v = .ref (D.fa i)
  | .cls c, v => v = .ref (D.ca c)
  | .tup ts, v => ∃ a vs, v = .ref a ∧ F a = some (.tup vs) ∧ RTs F ts vs
  | .lst ts, v => ∃ a vs, v = .ref a ∧ F a = some (.lst vs) ∧ RTs F ts vs
  | .scr ns, v => ∃ a, v = .ref a ∧ Rd F a (.lst (ns.map V.int))
  | .ptup ts, v => ∃ a o vs, v = .ref a ∧ F a = some (.frz o (.tup vs)) ∧ o.dict = none ∧ RTs F ts vs
  | .dic ks vs, v => ∃ a es, v = .ref a ∧ F a = some (dicO w a es) ∧ RTs F ks (es.map (·.kv)) ∧ RTs F vs (es.map (·.vv)) ∧ keyTs 8 ks = some (es.map (·.k)) ∧ (es.map (·.k)).Nodup
  | .ins c ns ts, v => ∃ a dx fs, v = .ref a ∧ F a = some (.ins (D.ca c) dx fs) ∧ fs.map (·.1) = ns ∧ RTs F ts (fs.map (·.2))
def RTs (F : Hp) : List T → List V → Prop
  | [], vs => vs = []
  | t :: ts, vs => ∃ v r, vs = v :: r ∧ RT F t v ∧ RTs F ts r
end
mutual
def RW (F : Hp) (as : List Addr) : W → V → Prop
  | .t t, v => RT D w F t v
  | .ref n, v => ∃ a, as[n]? = some a ∧ v = .ref a
  | .tup ws, v => ∃ a vs, v = .ref a ∧ F a = some (.tup vs) ∧ RWs F as ws vs
def RWs (F : Hp) (as : List Addr) : List W → List V → Prop
  | [], vs => vs = []
  | u :: us, vs => ∃ v r, vs = v :: r ∧ RW F as u v ∧ RWs F as us r
end
/-- a live object stands so -/
def RO (F : Hp) (as : List Addr) (a : Addr) (o : Option HO) : O → Prop
  | .lst ws => ∃ vs, o = some (.lst vs) ∧ RWs D w F as ws vs
  | .dic ks ws => ∃ es, o = some (dicO w a es) ∧ RTs D w F ks (es.map (·.kv)) ∧ RWs D w F as ws (es.map (·.vv)) ∧ keyTs 8 ks = some (es.map (·.k)) ∧ (es.map (·.k)).Nodup
  | .ins c ns ws => ∃ dx fs, o = some (.ins (D.ca c) dx fs) ∧ fs.map (·.1) = ns ∧ RWs D w F as ws (fs.map (·.2))
  | .clo i ts => ∃ (cl : List (Str × Addr)) (c : Addr) (vs : List V), o = some (NdefX.FnO a ((D.cd i).nf cl c)) ∧ F a = some (NdefX.FnO a ((D.cd i).nf cl c)) ∧ F c = some (LamX.CodeO c (D.cd i).qual) ∧ RTs D w F ts vs ∧ CloC F cl (D.cd i).fr vs
  | .dead => True

structure Sim (F H : Hp) (as : List Addr) (μ : Mem) : Prop where
  sub : Same F H
  len : as.length = μ.length
  nd : as.Nodup
  there : ∀ a ∈ as, H a ≠ none
  out : ∀ (n : Nat) a o, as[n]? = some a → μ[n]? = some o → o.Live → F a = none
  obj : ∀ (n : Nat) a o, as[n]? = some a → μ[n]? = some o → RO D w F as a (H a) o
  tb : TbOk D F H as
end
/-- a thing is kept, but for a table, that may grow -/
def KeepO (x : Option HO) (o : HO) : Prop := x = some o ∨ ∃ ps ps', o = .tbl ps ∧ x = some (.tbl ps')
theorem KeepO.ne {x : Option HO} {o : HO} (h : KeepO x o) : x ≠ none := by
  rcases h with h | ⟨_, _, _, h⟩ <;> rw [h] <;> simp
theorem KeepO.eq {x : Option HO} {o : HO} (h : KeepO x o) (hn : ∀ ps, o ≠ .tbl ps) : x = some o := by
  rcases h with h | ⟨ps, _, e, _⟩
  · exact h
  · exact absurd e (hn ps)

/-- how a state goes on -/
structure Ext (F H : Hp) (as : List Addr) (F' H' : Hp) (as' : List Addr) : Prop where
  fs : Same F F'
  more : ∃ r, as' = as ++ r ∧ ∀ a ∈ r, H a = none
  keep : ∀ a o, H a = some o → a ∉ as → KeepO (H' a) o
  newF : ∀ a, F' a ≠ none → F a ≠ none ∨ H a = none ∨ a ∈ as

section
variable {F H F1 H1 F2 H2 : Hp} {as as1 as2 : List Addr}
theorem Ext.pre {F H : Hp} {as : List Addr} {F1 H1 : Hp} {as1 : List Addr} (e : Ext F H as F1 H1 as1) : ∃ r, as1 = as ++ r := let ⟨r, q, _⟩ := e.more; ⟨r, q⟩
theorem Ext.refl : Ext F H as F H as := ⟨Same.refl _, ⟨[], by simp, by simp⟩, fun _ _ h _ => .inl h, fun _ h => .inl h⟩
theorem Ext.free (e : Ext F H as F1 H1 as1) {a : Addr} (h : H1 a = none) (hs : a ∉ as) : H a = none := by
  cases q : H a with
  | none => rfl
  | some o => exact absurd h (e.keep a o q hs).ne
theorem Ext.trans (a : Ext F H as F1 H1 as1) (b : Ext F1 H1 as1 F2 H2 as2) (live : ∀ x ∈ as1, H1 x ≠ none) : Ext F H as F2 H2 as2 := by
  obtain ⟨r1, e1, n1⟩ := a.more
  obtain ⟨r2, e2, n2⟩ := b.more
  refine ⟨a.fs.trans b.fs, ⟨r1 ++ r2, by rw [e2, e1, List.append_assoc], fun x hx => ?_⟩, fun x o h hn => ?_, fun x h => ?_⟩
  · rcases List.mem_append.mp hx with hx | hx
    · exact n1 x hx
    · refine a.free (n2 x hx) fun hm => ?_
      exact live x (by rw [e1]; exact List.mem_append_left _ hm) (n2 x hx)
  · have hx : x ∉ as1 := fun hm => by
      rw [e1] at hm
      rcases List.mem_append.mp hm with hm | hm
      · exact hn hm
      · rw [n1 x hm] at h; cases h
    rcases a.keep x o h hn with q | ⟨ps, ps', rfl, q⟩
    · exact b.keep x o q hx
    · rcases b.keep x _ q hx with q2 | ⟨ps2, ps3, e2, q2⟩
      · exact .inr ⟨ps, ps', rfl, q2⟩
      · exact .inr ⟨ps, ps3, rfl, q2⟩
  · rcases b.newF x h with q | q | q
    · exact a.newF x q
    · by_cases hm : x ∈ as
      · exact .inr (.inr hm)
      · exact .inr (.inl (a.free q hm))
    · rw [e1] at q
      rcases List.mem_append.mp q with q | q
      · exact .inr (.inr q)
      · exact .inr (.inl (n1 x q))
end

theorem Rd.same {F F' : Hp} (h : Same F F') {a : Addr} {u : HO} (r : Rd F a u) : Rd F' a u := by
  rcases r with r | ⟨o, r⟩
  · exact .inl (h _ _ r)
  · exact .inr ⟨o, h _ _ r⟩
section
variable {D : Ad} {w : World} {F F' : Hp} (hs : Same F F')
include hs
mutual
theorem RT.mono : ∀ (t : T) (v : V), RT D w F t v → RT D w F' t v
  | .non, v, h => by simpa only [RT] using h
  | .bl b, v, h => by simpa only [RT] using h
  | .int i, v, h => by simpa only [RT] using h
  | .str s, v, h => by simpa only [RT] using h
  | .ty n, v, h => by simpa only [RT] using h
  | .fn i, v, h => by simpa only [RT] using h
  | .cls c, v, h => by simpa only [RT] using h
  | .tup ts, v, h => by
    simp only [RT] at h ⊢
    obtain ⟨a, vs, e, q, r⟩ := h
    exact ⟨a, vs, e, hs _ _ q, RTs.mono ts vs r⟩
  | .lst ts, v, h => by
    simp only [RT] at h ⊢
    obtain ⟨a, vs, e, q, r⟩ := h
    exact ⟨a, vs, e, hs _ _ q, RTs.mono ts vs r⟩
  | .scr ns, v, h => by
    simp only [RT] at h ⊢
    obtain ⟨a, e, q⟩ := h
    refine ⟨a, e, ?_⟩
    rcases q with q | ⟨o, q⟩
    · exact .inl (hs _ _ q)
    · exact .inr ⟨o, hs _ _ q⟩
  | .ptup ts, v, h => by
    simp only [RT] at h ⊢
    obtain ⟨a, o, vs, e, q, z, r⟩ := h
    exact ⟨a, o, vs, e, hs _ _ q, z, RTs.mono ts vs r⟩
  | .dic ks vs, v, h => by
    simp only [RT] at h ⊢
    obtain ⟨a, es, e, q, r1, r2, r3⟩ := h
    exact ⟨a, es, e, hs _ _ q, RTs.mono ks _ r1, RTs.mono vs _ r2, r3⟩
  | .ins c ns ts, v, h => by
    simp only [RT] at h ⊢
    obtain ⟨a, dx, fs, e, q, r1, r2⟩ := h
    exact ⟨a, dx, fs, e, hs _ _ q, r1, RTs.mono ts _ r2⟩
theorem RTs.mono : ∀ (ts : List T) (vs : List V), RTs D w F ts vs → RTs D w F' ts vs
  | [], vs, h => by simpa only [RTs] using h
  | t :: ts, vs, h => by
    simp only [RTs] at h ⊢
    obtain ⟨v, r, e, h1, h2⟩ := h
    exact ⟨v, r, e, RT.mono t v h1, RTs.mono ts r h2⟩
end
variable {as as' : List Addr} (ha : ∃ r, as' = as ++ r)
include ha
mutual
theorem RW.mono : ∀ (u : W) (v : V), RW D w F as u v → RW D w F' as' u v
  | .t t, v, h => by
    simp only [RW] at h ⊢
    exact RT.mono hs t v h
  | .ref n, v, h => by
    simp only [RW] at h ⊢
    obtain ⟨a, e, q⟩ := h
    obtain ⟨r, rfl⟩ := ha
    exact ⟨a, by rw [List.getElem?_append_left (List.getElem?_eq_some_iff.mp e).1]; exact e, q⟩
  | .tup ws, v, h => by
    simp only [RW] at h ⊢
    obtain ⟨a, vs, e, q, r⟩ := h
    exact ⟨a, vs, e, hs _ _ q, RWs.mono ws vs r⟩
theorem RWs.mono : ∀ (us : List W) (vs : List V), RWs D w F as us vs → RWs D w F' as' us vs
  | [], vs, h => by simpa only [RWs] using h
  | t :: ts, vs, h => by
    simp only [RWs] at h ⊢
    obtain ⟨v, r, e, h1, h2⟩ := h
    exact ⟨v, r, e, RW.mono t v h1, RWs.mono ts r h2⟩
end
theorem RO.mono {a : Addr} {o : Option HO} {x : O} (h : RO D w F as a o x) : RO D w F' as' a o x := by
  cases x with
  | lst ws =>
    obtain ⟨vs, e, r⟩ := h
    exact ⟨vs, e, RWs.mono hs ha ws vs r⟩
  | dic ks ws =>
    obtain ⟨es, e, r1, r2, r3⟩ := h
    exact ⟨es, e, RTs.mono hs ks _ r1, RWs.mono hs ha ws _ r2, r3⟩
  | ins c ns ws =>
    obtain ⟨dx, fs, e, r1, r2⟩ := h
    exact ⟨dx, fs, e, r1, RWs.mono hs ha ws _ r2⟩
  | clo i ts =>
    obtain ⟨cl, c, vs, e1, e0, e2, e3, e4⟩ := h
    exact ⟨cl, c, vs, e1, hs _ _ e0, hs _ _ e2, RTs.mono hs ts vs e3, e4.mono hs⟩
  | dead => trivial
end

section
variable {D : Ad} {w : World} {F : Hp} {as : List Addr}
theorem RTs.len : ∀ {ts : List T} {vs : List V}, RTs D w F ts vs → ts.length = vs.length
  | [], vs, h => by simp only [RTs] at h; subst h; rfl
  | t :: ts, vs, h => by
    simp only [RTs] at h
    obtain ⟨v, r, rfl, h1, h2⟩ := h
    simp [RTs.len h2]
theorem RWs.len : ∀ {ts : List W} {vs : List V}, RWs D w F as ts vs → ts.length = vs.length
  | [], vs, h => by simp only [RWs] at h; subst h; rfl
  | t :: ts, vs, h => by
    simp only [RWs] at h
    obtain ⟨v, r, rfl, h1, h2⟩ := h
    simp [RWs.len h2]
theorem RTs.toW : ∀ {ts : List T} {vs : List V}, RTs D w F ts vs → RWs D w F as (ts.map .t) vs
  | [], vs, h => by simpa only [RTs, RWs, List.map_nil] using h
  | t :: ts, vs, h => by
    simp only [RTs, RWs, List.map_cons, RW] at h ⊢
    obtain ⟨v, r, rfl, h1, h2⟩ := h
    exact ⟨v, r, rfl, h1, RTs.toW h2⟩
theorem RWs.toT : ∀ {ts : List T} {vs : List V}, RWs D w F as (ts.map .t) vs → RTs D w F ts vs
  | [], vs, h => by simpa only [RTs, RWs, List.map_nil] using h
  | t :: ts, vs, h => by
    simp only [RTs, RWs, List.map_cons, RW] at h ⊢
    obtain ⟨v, r, rfl, h1, h2⟩ := h
    exact ⟨v, r, rfl, h1, RWs.toT h2⟩
theorem RWs.at_ : ∀ {us : List W} {vs : List V} {i : Nat} {u : W}, RWs D w F as us vs → us[i]? = some u → ∃ v, vs[i]? = some v ∧ RW D w F as u v
  | [], vs, i, u, h, e => by simp at e
  | x :: us, vs, 0, u, h, e => by
    simp only [RWs] at h
    obtain ⟨v, r, rfl, h1, h2⟩ := h
    simp at e; subst e
    exact ⟨v, by simp, h1⟩
  | x :: us, vs, i + 1, u, h, e => by
    simp only [RWs] at h
    obtain ⟨v, r, rfl, h1, h2⟩ := h
    obtain ⟨v', e', q⟩ := RWs.at_ (i := i) h2 (by simpa using e)
    exact ⟨v', by simpa using e', q⟩
theorem RWs.at' : ∀ {us : List W} {vs : List V} {i : Nat} {v : V}, RWs D w F as us vs → vs[i]? = some v → ∃ u, us[i]? = some u ∧ RW D w F as u v
  | [], vs, i, u, h, e => by simp only [RWs] at h; subst h; simp at e
  | x :: us, vs, 0, u, h, e => by
    simp only [RWs] at h
    obtain ⟨v, r, rfl, h1, h2⟩ := h
    simp at e; subst e
    exact ⟨x, by simp, h1⟩
  | x :: us, vs, i + 1, u, h, e => by
    simp only [RWs] at h
    obtain ⟨v, r, rfl, h1, h2⟩ := h
    obtain ⟨v', e', q⟩ := RWs.at' (i := i) h2 (by simpa using e)
    exact ⟨v', by simpa using e', q⟩
theorem RWs.app : ∀ {us us' : List W} {vs vs' : List V}, RWs D w F as us vs → RWs D w F as us' vs' → RWs D w F as (us ++ us') (vs ++ vs')
  | [], us', vs, vs', h, h' => by simp only [RWs] at h; subst h; simpa using h'
  | x :: us, us', vs, vs', h, h' => by
    simp only [RWs, List.cons_append] at h ⊢
    obtain ⟨v, r, rfl, h1, h2⟩ := h
    exact ⟨v, _, by simp, h1, RWs.app h2 h'⟩
theorem RWs.set : ∀ {us : List W} {vs : List V} {u : W} {v : V} (i : Nat), RWs D w F as us vs → RW D w F as u v → RWs D w F as (us.set i u) (vs.set i v)
  | [], vs, u, v, i, h, q => by simp only [RWs] at h; subst h; simp [RWs]
  | x :: us, vs, u, v, 0, h, q => by
    simp only [RWs, List.set_cons_zero] at h ⊢
    obtain ⟨v', r, rfl, h1, h2⟩ := h
    exact ⟨v, r, by simp, q, h2⟩
  | x :: us, vs, u, v, i + 1, h, q => by
    simp only [RWs, List.set_cons_succ] at h ⊢
    obtain ⟨v', r, rfl, h1, h2⟩ := h
    exact ⟨v', _, by simp, h1, RWs.set i h2 q⟩
theorem RWs.take : ∀ {us : List W} {vs : List V} (i : Nat), RWs D w F as us vs → RWs D w F as (us.take i) (vs.take i)
  | [], vs, i, h => by simp only [RWs] at h; subst h; simp [RWs]
  | x :: us, vs, 0, h => by simp [RWs]
  | x :: us, vs, i + 1, h => by
    simp only [RWs, List.take_succ_cons] at h ⊢
    obtain ⟨v', r, rfl, h1, h2⟩ := h
    exact ⟨v', _, by simp, h1, RWs.take i h2⟩
theorem RWs.drop : ∀ {us : List W} {vs : List V} (i : Nat), RWs D w F as us vs → RWs D w F as (us.drop i) (vs.drop i)
  | [], vs, i, h => by simp only [RWs] at h; subst h; simp [RWs]
  | x :: us, vs, 0, h => by simpa using h
  | x :: us, vs, i + 1, h => by
    simp only [RWs, List.drop_succ_cons] at h ⊢
    obtain ⟨v', r, rfl, h1, h2⟩ := h
    simpa using RWs.drop i h2
end

/-! ### outcomes -/
/-- an exception: its class, its attributes -/
structure XV where
  c : Nat
  ns : List Str
  ws : List W
inductive R (α : Type) where
  | ok (a : α) (μ : Mem)
  | exc (x : XV) (μ : Mem)
  | stuck
def R.bind {α β : Type} (r : R α) (f : α → Mem → R β) : R β := match r with
  | .ok a μ => f a μ
  | .exc x μ => .exc x μ
  | .stuck => .stuck
theorem R.ok_bind {α β : Type} (a : α) (μ : Mem) (f : α → Mem → R β) : (R.ok a μ).bind f = f a μ := rfl
theorem R.exc_bind {α β : Type} (x : XV) (μ : Mem) (f : α → Mem → R β) : (R.exc x μ : R α).bind f = .exc x μ := rfl
theorem R.stuck_bind {α β : Type} (f : α → Mem → R β) : (R.stuck : R α).bind f = .stuck := rfl

/-- an expression's meaning -/
abbrev ME := En → Mem → R W
abbrev MB := En → Mem → R Bool
abbrev MA := En → Mem → R (List W)
structure ER (D : Ad) (w : World) (F : Hp) (as : List Addr) (e : En) (σ : Sg) : Prop where
  len : e.length = σ.length
  at_ : ∀ (i : Nat) u, e[i]? = some (some u) → ∃ v, σ[i]? = some (some v) ∧ RW D w F as u v
theorem ER.mono {D : Ad} {w : World} {F F' : Hp} {as as' : List Addr} {e : En} {σ : Sg} (h : ER D w F as e σ) (hs : Same F F') (ha : ∃ r, as' = as ++ r) : ER D w F' as' e σ := ⟨h.len, fun i u q => by
  obtain ⟨v, h1, h2⟩ := h.at_ i u q
  exact ⟨v, h1, RW.mono hs ha u v h2⟩⟩
theorem ER.set {D : Ad} {w : World} {F : Hp} {as : List Addr} {e : En} {σ : Sg} {u : W} {v : V} (h : ER D w F as e σ) (i : Nat) (r : RW D w F as u v) : ER D w F as (e.set i (some u)) (σ.set i (some v)) := ⟨by simp [h.len], fun j x q => by
  by_cases e1 : i = j
  · subst e1
    by_cases hi : i < e.length
    · rw [List.getElem?_set_self hi] at q
      cases q
      exact ⟨v, List.getElem?_set_self (by rw [← h.len]; exact hi), r⟩
    · rw [List.getElem?_eq_none (by simpa using hi)] at q; cases q
  · rw [List.getElem?_set_ne e1] at q ⊢
    exact h.at_ j x q⟩
theorem ER.unset {D : Ad} {w : World} {F : Hp} {as : List Addr} {e : En} {σ : Sg} (h : ER D w F as e σ) (i : Nat) : ER D w F as (e.set i none) (σ.set i none) := ⟨by simp [h.len], fun j x q => by
  by_cases e1 : i = j
  · subst e1
    by_cases hi : i < e.length
    · rw [List.getElem?_set_self hi] at q; cases q
    · rw [List.getElem?_eq_none (by simpa using hi)] at q; cases q
  · rw [List.getElem?_set_ne e1] at q ⊢
    exact h.at_ j x q⟩
/-- an exception stands so: its own dict at d -/
def XR (D : Ad) (w : World) (F H : Hp) (as : List Addr) (x : XV) (d : Option Addr) : Prop :=
  ∃ fs, (match d with
    | some d => H d = some (.xd fs)
    | none => fs = []) ∧ fs.map (·.1) = x.ns ∧ RWs D w F as x.ws (fs.map (·.2))
section
variable (D : Ad) (w : World) (Wx : WX)
/-- what follows an outcome -/
def Po (σ : Sg) (F H : Hp) (as : List Addr) {α β : Type} (rel : Hp → List Addr → α → β → Prop) (r : R α) (Q : β → Hp → Prop) : Prop := match r with
  | .ok u μ => ∀ F' H' as' v, Ext F H as F' H' as' → Sim D w F' H' as' μ → rel F' as' u v → Q v H'
  | .exc x μ => ∀ F' H' as' d, Ext F H as F' H' as' → Sim D w F' H' as' μ → XR D w F' H' as' x d → Wx (.ref (D.ca x.c)) d σ H'
  | .stuck => False
abbrev relW : Hp → List Addr → W → V → Prop := fun F as u v => RW D w F as u v
abbrev relWs : Hp → List Addr → List W → List V → Prop := fun F as u v => RWs D w F as u v
abbrev relB : Hp → List Addr → Bool → Bool → Prop := fun _ _ a b => a = b
def RdE (m : ME) : TE := fun σ H Q => ∃ F as μ e, Sim D w F H as μ ∧ ER D w F as e σ ∧ Po D w Wx σ F H as (relW D w) (m e μ) Q
def RdB (m : MB) : TT := fun σ H Q => ∃ F as μ e, Sim D w F H as μ ∧ ER D w F as e σ ∧ Po D w Wx σ F H as relB (m e μ) Q
def RdA (m : MA) : TA := fun σ H Q => ∃ F as μ e, Sim D w F H as μ ∧ ER D w F as e σ ∧ Po D w Wx σ F H as (relWs D w) (m e μ) Q
end
section
variable {D : Ad} {w : World} {Wx : WX} {σ : Sg} {F H F1 H1 : Hp} {as as1 : List Addr} {α β γ δ : Type} {rel : Hp → List Addr → α → β → Prop} {rel' : Hp → List Addr → γ → δ → Prop}
theorem Po.from {r : R α} {Q : β → Hp → Prop} (h : Po D w Wx σ F H as rel r Q) (x : Ext F H as F1 H1 as1) (lv : ∀ a ∈ as1, H1 a ≠ none) : Po D w Wx σ F1 H1 as1 rel r Q := by
  cases r with
  | ok u μ => exact fun F' H' as' v y s q => h F' H' as' v (x.trans y lv) s q
  | exc u μ => exact fun F' H' as' v y s q => h F' H' as' v (x.trans y lv) s q
  | stuck => exact h
theorem Po.imp {r : R α} {Q Q' : β → Hp → Prop} (h : Po D w Wx σ F H as rel r Q) (k : ∀ v H, Q v H → Q' v H) : Po D w Wx σ F H as rel r Q' := by
  cases r with
  | ok u μ => exact fun F' H' as' v y s q => k _ _ (h F' H' as' v y s q)
  | exc u μ => exact h
  | stuck => exact h
/-- one after another -/
theorem Po.bind {r : R α} {f : α → Mem → R γ} {Q : δ → Hp → Prop} {Q1 : β → Hp → Prop} (h : Po D w Wx σ F H as rel' (r.bind f) Q)
    (k : ∀ u μ F' H' as' v, Ext F H as F' H' as' → Sim D w F' H' as' μ → rel F' as' u v → Po D w Wx σ F' H' as' rel' (f u μ) Q → Q1 v H') : Po D w Wx σ F H as rel r Q1 := by
  cases r with
  | ok u μ => exact fun F' H' as' v y s q => k u μ F' H' as' v y s q (Po.from h y s.there)
  | exc u μ => exact h
  | stuck => exact h
end
/-! ### weaker readings -/
theorem PE.weak {X : Cx} {e : Expr} {t t' : TE} (h : PE X e t) (k : ∀ σ H Q, t' σ H Q → t σ H Q) : PE X e t' := ⟨fun pins s σ H Q I q => h.run pins s σ H Q I (k σ H Q q)⟩
theorem PT.weak {X : Cx} {e : Expr} {t t' : TT} (h : PT X e t) (k : ∀ σ H Q, t' σ H Q → t σ H Q) : PT X e t' := ⟨fun pins s σ H Q I q => h.run pins s σ H Q I (k σ H Q q)⟩
theorem PA.weak {X : Cx} {e : List Expr} {t t' : TA} (h : PA X e t) (k : ∀ σ H Q, t' σ H Q → t σ H Q) : PA X e t' := ⟨fun pos pins s σ H Q I q => h.run pos pins s σ H Q I (k σ H Q q)⟩
theorem PS.weak {X : Cx} {e : Stmt} {t t' : TS} (h : PS X e t) (k : ∀ D σ H, t' D σ H → t D σ H) : PS X e t' := ⟨fun pins s σ H Q I q => h.run pins s σ H Q I (k Q σ H q)⟩
theorem PSs.weak {X : Cx} {e : List Stmt} {t t' : TS} (h : PSs X e t) (k : ∀ D σ H, t' D σ H → t D σ H) : PSs X e t' := ⟨fun pins s σ H Q I q => h.run pins s σ H Q I (k Q σ H q)⟩
theorem PE.ex {X : Cx} {e : Expr} {ι : Type} {t : ι → TE} (h : ∀ i, PE X e (t i)) : PE X e (fun σ H Q => ∃ i, t i σ H Q) := ⟨fun pins s σ H Q I ⟨i, q⟩ => (h i).run pins s σ H Q I q⟩

section
variable {X : Cx} {D : Ad} {w : World} {Wx : WX} {a b : Expr} {ma mb : ME}
/-- an operation on values keeps to a rule -/
def Op2 (D : Ad) (w : World) (Wx : WX) (r : R2) (f : W → W → Mem → R W) : Prop :=
  ∀ σ F H as μ u1 u2 v1 v2 (Q : VK), Sim D w F H as μ → RW D w F as u1 v1 → RW D w F as u2 v2 → Po D w Wx σ F H as (relW D w) (f u1 u2 μ) Q → r v1 v2 H Q
def Op1 (D : Ad) (w : World) (Wx : WX) (r : V → Hp → VK → Prop) (f : W → Mem → R W) : Prop :=
  ∀ σ F H as μ u v (Q : VK), Sim D w F H as μ → RW D w F as u v → Po D w Wx σ F H as (relW D w) (f u μ) Q → r v H Q
def OpA (D : Ad) (w : World) (Wx : WX) (r : List V → Hp → VK → Prop) (f : List W → Mem → R W) : Prop :=
  ∀ σ F H as μ us vs (Q : VK), Sim D w F H as μ → RWs D w F as us vs → Po D w Wx σ F H as (relW D w) (f us μ) Q → r vs H Q
def m2 (f : W → W → Mem → R W) (ma mb : ME) : ME := fun e μ => (ma e μ).bind fun u μ1 => (mb e μ1).bind fun u' μ2 => f u u' μ2
def m1 (f : W → Mem → R W) (ma : ME) : ME := fun e μ => (ma e μ).bind fun u μ1 => f u μ1
def mA (f : List W → Mem → R W) (ma : MA) : ME := fun e μ => (ma e μ).bind fun u μ1 => f u μ1
theorem rd2 {r : R2} {f : W → W → Mem → R W} (ho : Op2 D w Wx r f) (σ : Sg) (H : Hp) (Q : VK) (h : RdE D w Wx (m2 f ma mb) σ H Q) : tOp r (RdE D w Wx ma) (RdE D w Wx mb) σ H Q := by
  obtain ⟨F, as, μ, e, S, E, P⟩ := h
  refine ⟨F, as, μ, e, S, E, Po.bind (rel' := relW D w) P fun u μ1 F1 H1 as1 v X1 S1 R1 P1 => ?_⟩
  refine ⟨F1, as1, μ1, e, S1, E.mono X1.fs X1.pre, Po.bind (rel' := relW D w) P1 fun u' μ2 F2 H2 as2 v' X2 S2 R2 P2 => ?_⟩
  exact ho σ F2 H2 as2 μ2 u u' v v' Q S2 (RW.mono X2.fs X2.pre u v R1) R2 P2
theorem xe_op {op : Operator} {r : R2} {f : W → W → Mem → R W} {pos : Pos} (hr : OpR X (binaryOp op) r) (ho : Op2 D w Wx r f) (ha : PE X a (RdE D w Wx ma)) (hb : PE X b (RdE D w Wx mb)) : PE X (.BinOp a op b pos) (RdE D w Wx (m2 f ma mb)) :=
  PE.weak (pe_op hr ha hb) (rd2 ho)
theorem xe_cmp {op : CmpOp} {r : R2} {f : W → W → Mem → R W} {pos : Pos} (hr : OpR X (compareOp op) r) (ho : Op2 D w Wx r f) (ha : PE X a (RdE D w Wx ma)) (hb : PE X b (RdE D w Wx mb)) (hm : behindInMarks op b = false) : PE X (.Compare a [op] [b] pos) (RdE D w Wx (m2 f ma mb)) :=
  PE.weak (pe_cmpR hr ha hb hm) (rd2 ho)
end
end HQ
/-! HQ2: what is made, read, changed. -/
namespace HQ
open PySem PySem.Spec PyProof.Rows L2

theorem ix_nd {l : List Addr} (nd : l.Nodup) {i j : Nat} {a : Addr} (hi : l[i]? = some a) (hj : l[j]? = some a) : i = j := (List.getElem?_inj (List.getElem?_eq_some_iff.mp hi).1 nd).mp (hi.trans hj.symm)
section
variable {D : Ad} {w : World} {F H : Hp} {as : List Addr} {μ : Mem}
theorem Sim.freeF (S : Sim D w F H as μ) {p : Addr} (h : H p = none) : F p = none := by
  cases q : F p with
  | none => rfl
  | some o => rw [S.sub p o q] at h; cases h
theorem Sim.notIn (S : Sim D w F H as μ) {p : Addr} (h : H p = none) : p ∉ as := fun hm => S.there p hm h
theorem upd_sub {F : Hp} {p : Addr} {o : HO} (h : F p = none) : Same F (upd F p o) := fun b u e => by
  rw [upd_ne (ne_of_none e h)]; exact e
theorem upd_some {F : Hp} {p b : Addr} {o : HO} (h : upd F p o b ≠ none) : b = p ∨ F b ≠ none := by
  by_cases e : b = p
  · exact .inl e
  · rw [upd_ne e] at h; exact .inr h
theorem upd_nt {F : Hp} {p : Addr} {o : HO} (ht : ¬ oddO o) : ∀ b u, upd F p o b = some u → oddO u → F b = some u := fun b u e hu => by
  by_cases q : b = p
  · subst q; rw [upd_same] at e; cases e; exact absurd hu ht
  · rwa [upd_ne q] at e
/-- a new thing that never changes -/
theorem Sim.newF (S : Sim D w F H as μ) {p : Addr} (o : HO) (h : H p = none) (ht : ¬ oddO o := by rintro (⟨_, z⟩ | ⟨_, z⟩) <;> cases z) : Sim D w (upd F p o) (upd H p o) as μ ∧ Ext F H as (upd F p o) (upd H p o) as := by
  have fp := S.freeF h
  have np := S.notIn h
  have ne : ∀ a ∈ as, a ≠ p := fun a ha e => np (e ▸ ha)
  refine ⟨⟨fun b u e => ?_, S.len, S.nd, fun a ha => ?_, fun n a x h1 h2 h3 => ?_, fun n a x h1 h2 => ?_, S.tb.keep (upd_sub fp) (fun b ps _ e => upd_sub h b _ e) (fun b hb => .inl hb) (upd_nt ht)⟩, ⟨upd_sub fp, ⟨[], by simp, by simp⟩, fun a u e _ => .inl (upd_sub h a u e), fun a q => ?_⟩⟩
  · by_cases q : b = p
    · subst q; rw [upd_same] at e ⊢; exact e
    · rw [upd_ne q] at e ⊢; exact S.sub b u e
  · rw [upd_ne (ne a ha)]; exact S.there a ha
  · rw [upd_ne (ne a (List.mem_of_getElem? h1))]; exact S.out n a x h1 h2 h3
  · rw [upd_ne (ne a (List.mem_of_getElem? h1))]; exact RO.mono (upd_sub fp) ⟨[], by simp⟩ (S.obj n a x h1 h2)
  · rcases upd_some q with e | e
    · subst e; exact .inr (.inl h)
    · exact .inl e
/-- a new live thing -/
theorem Sim.newL (S : Sim D w F H as μ) {p : Addr} {o : HO} {x : O} (h : H p = none) (r : RO D w F (as ++ [p]) p (some o) x) : Sim D w F (upd H p o) (as ++ [p]) (μ ++ [x]) ∧ Ext F H as F (upd H p o) (as ++ [p]) := by
  have fp := S.freeF h
  have np := S.notIn h
  have ne : ∀ a ∈ as, a ≠ p := fun a ha e => np (e ▸ ha)
  have cases_at : ∀ (n : Nat) a y, (as ++ [p])[n]? = some a → (μ ++ [x])[n]? = some y → (as[n]? = some a ∧ μ[n]? = some y) ∨ (a = p ∧ y = x) := fun n a y h1 h2 => by
    by_cases hn : n < as.length
    · rw [List.getElem?_append_left hn] at h1
      rw [List.getElem?_append_left (by rw [← S.len]; exact hn)] at h2
      exact .inl ⟨h1, h2⟩
    · have hn1 : n < (as ++ [p]).length := (List.getElem?_eq_some_iff.mp h1).1
      rw [List.length_append, List.length_singleton] at hn1
      have e : n = as.length := by omega
      subst e
      rw [List.getElem?_append_right (Nat.le_refl _)] at h1
      rw [S.len, List.getElem?_append_right (Nat.le_refl _)] at h2
      simp at h1 h2
      exact .inr ⟨h1.symm, h2.symm⟩
  refine ⟨⟨fun b u e => ?_, by simp [S.len], ?_, fun a ha => ?_, fun n a y h1 h2 h3 => ?_, fun n a y h1 h2 => ?_, S.tb.keep (Same.refl _) (fun b ps _ e => upd_sub h b _ e) fun b hb => ?_⟩, ⟨Same.refl _, ⟨[p], rfl, by simpa using h⟩, fun a u e _ => .inl (upd_sub h a u e), fun a q => .inl q⟩⟩
  · rw [upd_ne (ne_of_none e fp)]; exact S.sub b u e
  · rw [List.nodup_append]
    exact ⟨S.nd, by simp, fun a ha b hb => by simp at hb; subst hb; exact ne a ha⟩
  · rcases List.mem_append.mp ha with ha | ha
    · rw [upd_ne (ne a ha)]; exact S.there a ha
    · simp at ha; subst ha; rw [upd_same]; simp
  · rcases cases_at n a y h1 h2 with ⟨q1, q2⟩ | ⟨rfl, rfl⟩
    · exact S.out n a y q1 q2 h3
    · exact fp
  · rcases cases_at n a y h1 h2 with ⟨q1, q2⟩ | ⟨rfl, rfl⟩
    · rw [upd_ne (ne a (List.mem_of_getElem? q1))]; exact RO.mono (Same.refl _) ⟨[p], rfl⟩ (S.obj n a y q1 q2)
    · rw [upd_same]; exact r
  · rcases List.mem_append.mp hb with hb | hb
    · exact .inl hb
    · simp at hb; subst hb; exact .inr ⟨fp, fun ps => by rw [h]; simp⟩
/-- a live thing changes -/
theorem Sim.wrt (S : Sim D w F H as μ) {n : Nat} {a : Addr} {o : HO} {x y : O} (ha : as[n]? = some a) (hx : μ[n]? = some x) (hd : x.Live) (r : RO D w F as a (some o) y) : Sim D w F (upd H a o) as (μ.set n y) ∧ Ext F H as F (upd H a o) as := by
  have fa := S.out n a x ha hx hd
  have ma := List.mem_of_getElem? ha
  have ne : ∀ (j : Nat) b, as[j]? = some b → j ≠ n → b ≠ a := fun j b h1 h2 e => h2 (ix_nd S.nd h1 (show as[n]? = some b by rw [e]; exact ha))
  refine ⟨⟨fun b u e => ?_, by simp [S.len], S.nd, fun b hb => ?_, fun j b z h1 h2 h3 => ?_, fun j b z h1 h2 => ?_, S.tb.keep (Same.refl _) (fun b ps hb e => by rw [upd_ne (fun (q : b = a) => hb (q ▸ ma))]; exact e) fun b hb => .inl hb⟩, ⟨Same.refl _, ⟨[], by simp, by simp⟩, fun b u e hn => .inl ?_, fun b q => .inl q⟩⟩
  · rw [upd_ne (ne_of_none e fa)]; exact S.sub b u e
  · by_cases e : b = a
    · subst e; rw [upd_same]; simp
    · rw [upd_ne e]; exact S.there b hb
  · by_cases e : j = n
    · subst e; rw [ha] at h1; cases h1; exact fa
    · rw [List.getElem?_set_ne (Ne.symm e)] at h2; exact S.out j b z h1 h2 h3
  · by_cases e : j = n
    · subst e
      rw [ha] at h1; cases h1
      rw [List.getElem?_set_self (List.getElem?_eq_some_iff.mp hx).1] at h2
      cases h2
      rw [upd_same]; exact r
    · rw [List.getElem?_set_ne (Ne.symm e)] at h2
      rw [upd_ne (ne j b h1 e)]; exact S.obj j b z h1 h2
  · rw [upd_ne (fun (q : b = a) => hn (by rw [q]; exact ma))]; exact e
end

/-! ### data out of values -/
def toT : W → Option T
  | .t t => some t
  | _ => none
def toTs : List W → Option (List T)
  | [] => some []
  | u :: us => match toT u, toTs us with
    | some t, some ts => some (t :: ts)
    | _, _ => none
theorem toTs_map : ∀ ts : List T, toTs (ts.map .t) = some ts
  | [] => rfl
  | t :: ts => by simp [toTs, toT, toTs_map ts]
theorem toTs_eq : ∀ {us : List W} {ts : List T}, toTs us = some ts → us = ts.map .t
  | [], ts, h => by simp [toTs] at h; subst h; rfl
  | u :: us, ts, h => by
    cases u with
    | t t =>
      simp only [toTs, toT] at h
      cases q : toTs us with
      | none => rw [q] at h; simp at h
      | some r =>
        rw [q] at h
        simp at h
        subst h
        simp [toTs_eq q]
    | ref n => simp [toTs, toT] at h
    | tup ws => simp [toTs, toT] at h
/-- a tuple of these -/
def mkTup (ws : List W) : W := match toTs ws with
  | some ts => .t (.tup ts)
  | none => .tup ws
/-- a new list of these: live, or for good -/
def mkL (live : Bool) (ws : List W) (μ : Mem) : R W := match live with
  | true => .ok (.ref μ.length) (μ ++ [.lst ws])
  | false => match toTs ws with
    | some ts => .ok (.t (.lst ts)) μ
    | none => .stuck
def bigL : Nat := 16777216
theorem bigL_le : bigL ≤ sizeLine := by rw [sizeLine_eq]; decide
/-- the items of a list (no locked one) -/
def getLT (u : W) (μ : Mem) : Option (List W) := match u with
  | .t (.lst ts) => some (ts.map .t)
  | .ref n => match μ[n]? with
    | some (.lst ws) => some ws
    | _ => none
  | _ => none
/-- the items of a list -/
def getL (u : W) (μ : Mem) : Option (List W) := match u with
  | .t (.scr ns) => some (ns.map fun n => .t (.int n))
  | u => getLT u μ
/-- the items of a tuple, a plain one too -/
def getTP (u : W) : Option (List W) := match u with
  | .t (.tup ts) => some (ts.map .t)
  | .t (.ptup ts) => some (ts.map .t)
  | .tup ws => some ws
  | _ => none
def getT (u : W) : Option (List W) := match u with
  | .t (.tup ts) => some (ts.map .t)
  | .tup ws => some ws
  | _ => none

section
variable {D : Ad} {w : World} {Wx : WX} {σ : Sg} {F H : Hp} {as : List Addr} {μ : Mem} {Q : VK}
/-- at once -/
theorem Po.now {α β : Type} {rel : Hp → List Addr → α → β → Prop} {u : α} {v : β} {Q : β → Hp → Prop} (h : Po D w Wx σ F H as rel (.ok u μ) Q) (S : Sim D w F H as μ) (r : rel F as u v) : Q v H := h F H as v Ext.refl S r
theorem Po.tup {ws : List W} {vs : List V} (h : Po D w Wx σ F H as (relW D w) (.ok (mkTup ws) μ) Q) (S : Sim D w F H as μ) (r : RWs D w F as ws vs) {p : Addr} (hp : H p = none) : Q (.ref p) (upd H p (.tup vs)) := by
  obtain ⟨S1, X1⟩ := S.newF (.tup vs) hp
  refine h _ _ _ _ X1 S1 ?_
  have r1 := RWs.mono X1.fs X1.pre ws vs r
  show RW D w (upd F p (.tup vs)) as (mkTup ws) (.ref p)
  unfold mkTup
  cases q : toTs ws with
  | none => simp only [RW]; exact ⟨p, vs, rfl, upd_same, r1⟩
  | some ts =>
    rw [toTs_eq q] at r1
    simp only [RW, RT]
    exact ⟨p, vs, rfl, upd_same, r1.toT⟩
theorem Po.lst {live : Bool} {ws : List W} {vs : List V} (h : Po D w Wx σ F H as (relW D w) (mkL live ws μ) Q) (S : Sim D w F H as μ) (r : RWs D w F as ws vs) {p : Addr} (hp : H p = none) : Q (.ref p) (upd H p (.lst vs)) := by
  cases live with
  | true =>
    obtain ⟨S1, X1⟩ := S.newL (x := .lst ws) (o := .lst vs) hp ⟨vs, rfl, RWs.mono (Same.refl _) ⟨[p], rfl⟩ ws vs r⟩
    refine h _ _ _ _ X1 S1 ?_
    show RW D w F (as ++ [p]) (.ref μ.length) (.ref p)
    simp only [RW]
    exact ⟨p, by rw [← S.len]; simp, rfl⟩
  | false =>
    unfold mkL at h
    cases q : toTs ws with
    | none => rw [q] at h; exact h.elim
    | some ts =>
      rw [q] at h
      obtain ⟨S1, X1⟩ := S.newF (.lst vs) hp
      refine h _ _ _ _ X1 S1 ?_
      have r1 := RWs.mono X1.fs X1.pre ws vs r
      rw [toTs_eq q] at r1
      show RW D w _ as (.t (.lst ts)) (.ref p)
      simp only [RW, RT]
      exact ⟨p, vs, rfl, upd_same, r1.toT⟩
theorem getLT_ok {u : W} {ws : List W} {v : V} (S : Sim D w F H as μ) (h : getLT u μ = some ws) (r : RW D w F as u v) : ∃ a vs, v = .ref a ∧ H a = some (.lst vs) ∧ RWs D w F as ws vs := by
  cases u with
  | t t =>
    cases t <;> simp [getLT] at h
    rename_i ts
    subst h
    simp only [RW, RT] at r
    obtain ⟨a, vs, e, q, r⟩ := r
    exact ⟨a, vs, e, S.sub _ _ q, r.toW⟩
  | ref n =>
    simp only [RW] at r
    obtain ⟨a, e, rfl⟩ := r
    simp only [getLT] at h
    cases q : μ[n]? with
    | none => rw [q] at h; cases h
    | some o =>
      rw [q] at h
      cases o <;> simp at h
      subst h
      obtain ⟨vs, e1, r1⟩ := S.obj n a _ e q
      exact ⟨a, vs, rfl, e1, r1⟩
  | tup ws => simp [getLT] at h
theorem rw_ints (ns : List Int) : RWs D w F as (ns.map fun n => .t (.int n)) (ns.map V.int) := by
  induction ns with
  | nil => simp [RWs]
  | cons n ns ih =>
    simp only [List.map_cons, RWs, RW, RT]
    exact ⟨_, _, rfl, rfl, ih⟩
theorem getL_ok {u : W} {ws : List W} {v : V} (S : Sim D w F H as μ) (h : getL u μ = some ws) (r : RW D w F as u v) : ∃ a vs, v = .ref a ∧ Rd H a (.lst vs) ∧ RWs D w F as ws vs := by
  unfold getL at h
  split at h
  · rename_i ns
    cases h
    simp only [RW, RT] at r
    obtain ⟨a, e, q⟩ := r
    exact ⟨a, _, e, Rd.same S.sub q, rw_ints ns⟩
  · obtain ⟨a, vs, e, q, r⟩ := getLT_ok S h r
    exact ⟨a, vs, e, .inl q, r⟩
theorem getTP_ok {u : W} {ws : List W} {v : V} (S : Sim D w F H as μ) (h : getTP u = some ws) (r : RW D w F as u v) : ∃ a vs, v = .ref a ∧ Rd F a (.tup vs) ∧ Rd H a (.tup vs) ∧ RWs D w F as ws vs := by
  have fin : ∀ {a : Addr} {vs : List V}, Rd F a (.tup vs) → Rd H a (.tup vs) := fun h => Rd.same S.sub h
  cases u with
  | t t =>
    cases t <;> simp [getTP] at h <;> subst h <;> simp only [RW, RT] at r
    · obtain ⟨a, vs, e, q, r⟩ := r
      exact ⟨a, vs, e, .inl q, fin (.inl q), r.toW⟩
    · obtain ⟨a, o, vs, e, q, z, r⟩ := r
      exact ⟨a, vs, e, .inr ⟨o, q⟩, fin (.inr ⟨o, q⟩), r.toW⟩
  | ref n => simp [getTP] at h
  | tup ws =>
    simp [getTP] at h
    subst h
    simp only [RW] at r
    obtain ⟨a, vs, e, q, r⟩ := r
    exact ⟨a, vs, e, .inl q, fin (.inl q), r⟩
theorem getT_ok {u : W} {ws : List W} {v : V} (S : Sim D w F H as μ) (h : getT u = some ws) (r : RW D w F as u v) : ∃ a vs, v = .ref a ∧ H a = some (.tup vs) ∧ RWs D w F as ws vs := by
  cases u with
  | t t =>
    cases t <;> simp [getT] at h
    rename_i ts
    subst h
    simp only [RW, RT] at r
    obtain ⟨a, vs, e, q, r⟩ := r
    exact ⟨a, vs, e, S.sub _ _ q, r.toW⟩
  | ref n => simp [getT] at h
  | tup ws =>
    simp [getT] at h
    subst h
    simp only [RW] at r
    obtain ⟨a, vs, e, q, r⟩ := r
    exact ⟨a, vs, e, S.sub _ _ q, r⟩
end
end HQ
/-! HQ3: statements. -/
namespace HQ
open PySem PySem.Spec PyProof.Rows L2

inductive SR where
  | nx (e : En) (μ : Mem)
  | rt (u : W) (μ : Mem)
  | ct (e : En) (μ : Mem)
  | bk (e : En) (μ : Mem)
  | exc (x : XV) (e : En) (μ : Mem)
  | stuck
abbrev MS := En → Mem → SR
def SR.seq (r : SR) (k : MS) : SR := match r with
  | .nx e μ => k e μ
  | r => r
/-- an expression's outcome in a statement -/
def R.st {α : Type} (r : R α) (e : En) (k : α → Mem → SR) : SR := match r with
  | .ok a μ => k a μ
  | .exc x μ => .exc x e μ
  | .stuck => .stuck

section
variable (D : Ad) (w : World) (Wx : WX)
def PoS (F H : Hp) (as : List Addr) (r : SR) (N : Ends) : Prop := match r with
  | .nx e μ => ∀ F' H' as' σ', Ext F H as F' H' as' → Sim D w F' H' as' μ → ER D w F' as' e σ' → N.nx σ' H'
  | .ct e μ => ∀ F' H' as' σ', Ext F H as F' H' as' → Sim D w F' H' as' μ → ER D w F' as' e σ' → N.ct σ' H'
  | .bk e μ => ∀ F' H' as' σ', Ext F H as F' H' as' → Sim D w F' H' as' μ → ER D w F' as' e σ' → N.bk σ' H'
  | .rt u μ => ∀ F' H' as' v, Ext F H as F' H' as' → Sim D w F' H' as' μ → RW D w F' as' u v → N.rt v H'
  | .exc x e μ => ∀ F' H' as' σ' d, Ext F H as F' H' as' → Sim D w F' H' as' μ → ER D w F' as' e σ' → XR D w F' H' as' x d → Wx (.ref (D.ca x.c)) d σ' H'
  | .stuck => False
def RdS (m : MS) : TS := fun N σ H => ∃ F as μ e, Sim D w F H as μ ∧ ER D w F as e σ ∧ PoS D w Wx F H as (m e μ) N
end
section
variable {D : Ad} {w : World} {Wx : WX} {F H F1 H1 : Hp} {as as1 : List Addr} {N N' : Ends}
theorem PoS.from {r : SR} (h : PoS D w Wx F H as r N) (x : Ext F H as F1 H1 as1) (lv : ∀ a ∈ as1, H1 a ≠ none) : PoS D w Wx F1 H1 as1 r N := by
  cases r with
  | nx e μ => exact fun F' H' as' v y => h F' H' as' v (x.trans y lv)
  | ct e μ => exact fun F' H' as' v y => h F' H' as' v (x.trans y lv)
  | bk e μ => exact fun F' H' as' v y => h F' H' as' v (x.trans y lv)
  | rt e μ => exact fun F' H' as' v y => h F' H' as' v (x.trans y lv)
  | exc e μ => exact fun F' H' as' v d y => h F' H' as' v d (x.trans y lv)
  | stuck => exact h
/-- an expression first -/
theorem PoS.ex {α β : Type} {rel : Hp → List Addr → α → β → Prop} {r : R α} {e : En} {σ : Sg} {k : α → Mem → SR} {Q : β → Hp → Prop} (h : PoS D w Wx F H as (r.st e k) N) (E : ER D w F as e σ)
    (q : ∀ u μ F' H' as' v, Ext F H as F' H' as' → Sim D w F' H' as' μ → ER D w F' as' e σ → rel F' as' u v → PoS D w Wx F' H' as' (k u μ) N → Q v H') : Po D w Wx σ F H as rel r Q := by
  cases r with
  | ok u μ => exact fun F' H' as' v y s r => q u μ F' H' as' v y s (E.mono y.fs y.pre) r (PoS.from h y s.there)
  | exc u μ => exact fun F' H' as' d y s r => h F' H' as' σ d y s (E.mono y.fs y.pre) r
  | stuck => exact h
theorem PoS.seq {r : SR} {k : MS} {M : Ends} (h : PoS D w Wx F H as (r.seq k) N) (hr : M.rt = N.rt) (hb : M.bk = N.bk) (hc : M.ct = N.ct)
    (q : ∀ e μ F' H' as' σ', Ext F H as F' H' as' → Sim D w F' H' as' μ → ER D w F' as' e σ' → PoS D w Wx F' H' as' (k e μ) N → M.nx σ' H') : PoS D w Wx F H as r M := by
  cases r with
  | nx e μ => exact fun F' H' as' σ' y s E => q e μ F' H' as' σ' y s E (PoS.from h y s.there)
  | ct e μ => exact fun F' H' as' σ' y s E => by rw [hc]; exact h F' H' as' σ' y s E
  | bk e μ => exact fun F' H' as' σ' y s E => by rw [hb]; exact h F' H' as' σ' y s E
  | rt e μ => exact fun F' H' as' σ' y s E => by rw [hr]; exact h F' H' as' σ' y s E
  | exc e μ => exact h
  | stuck => exact h
end

/-! ### statements -/
section
variable {X : Cx} {D : Ad} {w : World} {Wx : WX}
def sNil : MS := fun e μ => .nx e μ
def sSeq (a b : MS) : MS := fun e μ => (a e μ).seq b
def sEx (m : ME) : MS := fun e μ => (m e μ).st e fun _ μ1 => .nx e μ1
def sRet (m : ME) : MS := fun e μ => (m e μ).st e fun u μ1 => .rt u μ1
def sRetN : MS := fun _ μ => .rt (.t .non) μ
def sIf (t : MB) (a b : MS) : MS := fun e μ => (t e μ).st e fun c μ1 => if c = true then a e μ1 else b e μ1
theorem xs_nil : PSs X [] (RdS D w Wx sNil) := PSs.weak pss_nil fun N σ H ⟨F, as, μ, e, S, E, P⟩ => P F H as σ Ext.refl S E
theorem xs_cons {st : Stmt} {rest : List Stmt} {a b : MS} (h1 : PS X st (RdS D w Wx a)) (h2 : PSs X rest (RdS D w Wx b)) : PSs X (st :: rest) (RdS D w Wx (sSeq a b)) :=
  PSs.weak (pss_cons h1 h2) fun N σ H ⟨F, as, μ, e, S, E, P⟩ => ⟨F, as, μ, e, S, E, PoS.seq (M := { N with nx := RdS D w Wx b N }) P rfl rfl rfl fun e μ F' H' as' σ' y s E P => ⟨F', as', μ, e, s, E, P⟩⟩
theorem xs_ex {e : Expr} {m : ME} {pos : Pos} (he : PE X e (RdE D w Wx m)) (hs : swapsWith e none pos.line X.env = pure false) : PS X (.Expr e pos) (RdS D w Wx (sEx m)) :=
  PS.weak (ps_expr he hs) fun N σ H ⟨F, as, μ, e, S, E, P⟩ => ⟨F, as, μ, e, S, E, PoS.ex P E fun u μ F' H' as' v y s E r P => P F' H' as' σ Ext.refl s E⟩
theorem xs_ret {e : Expr} {m : ME} {pos : Pos} (he : PE X e (RdE D w Wx m)) : PS X (.Return (some e) pos) (RdS D w Wx (sRet m)) :=
  PS.weak (ps_ret he) fun N σ H ⟨F, as, μ, e, S, E, P⟩ => ⟨F, as, μ, e, S, E, PoS.ex P E fun u μ F' H' as' v y s E r P => P F' H' as' v Ext.refl s r⟩
theorem xs_retN {pos : Pos} : PS X (.Return none pos) (RdS D w Wx sRetN) :=
  PS.weak ps_retN fun N σ H ⟨F, as, μ, e, S, E, P⟩ => P F H as .non Ext.refl S (by simp only [RW, RT])
theorem xs_if {c : Expr} {a b : List Stmt} {t : MB} {ma mb : MS} {pos : Pos} (hc : PT X c (RdB D w Wx t)) (ha : PSs X a (RdS D w Wx ma)) (hb : PSs X b (RdS D w Wx mb)) : PS X (.If c a b pos) (RdS D w Wx (sIf t ma mb)) :=
  PS.weak (ps_if hc ha hb) fun N σ H ⟨F, as, μ, e, S, E, P⟩ => ⟨F, as, μ, e, S, E, PoS.ex P E fun u μ F' H' as' v y s E r P => by
    cases r
    cases u with
    | true => exact ⟨F', as', μ, e, s, E, P⟩
    | false => exact ⟨F', as', μ, e, s, E, P⟩⟩
/-! ### targets -/
/-- what a target does with a value -/
abbrev MG := W → En → Mem → Option En
def RdG (D : Ad) (w : World) (own : List Nat) (m : MG) : TG := fun v σ H Q => ∃ F as μ e u, Sim D w F H as μ ∧ ER D w F as e σ ∧ RW D w F as u v ∧ ∃ e', m u e μ = some e' ∧ ∀ σ', ER D w F as e' σ' → (∀ vs, (∀ i ∈ own, i ∈ vs) → wipe σ' vs = wipe σ vs) → Q σ' H
theorem wipe_set {σ : Sg} {i : Nat} {x : Option V} : ∀ {vs : List Nat}, i ∈ vs → wipe (σ.set i x) vs = wipe σ vs
  | [], h => nomatch h
  | v :: vs, h => by
    unfold wipe
    by_cases hv : i ∈ vs
    · rw [wipe_set hv]
    · have e : i = v := by
        rcases List.mem_cons.mp h with h | h
        · exact h
        · exact absurd h hv
      subst e
      have : ∀ {vs : List Nat}, i ∉ vs → wipe (σ.set i x) vs = (wipe σ vs).set i x := fun {vs} hn => by
        induction vs with
        | nil => rfl
        | cons u us ih =>
          unfold wipe
          rw [ih (fun q => hn (List.mem_cons_of_mem _ q)), List.set_comm _ _ (fun q => hn (by rw [q]; exact List.mem_cons_self))]
      rw [this hv, List.set_set]
def gN (i : Nat) : MG := fun u e _ => some (e.set i (some u))
theorem xg_name {i : Nat} {x : Str} {pos : Pos} (hN : X.N.Nodup) (hi : X.N[i]? = some x) (hx : Loc X.env.scope x) (hf : X.fn x = true ∨ X.env.scope.names.lookup x = some .local) : PG X (.Name x pos) (RdG D w [i] (gN i)) :=
  ⟨fun pins s σ H v u Q I r ⟨F, as, μ, e, u', S, E, R, e', he, k⟩ => (pg_name hN hi hx hf).run pins s σ H v u Q I r (by
    cases he
    exact k _ (E.set i R) fun vs h => wipe_set (h i (by simp)))⟩
def sAsg (m : ME) (g : MG) : MS := fun e μ => (m e μ).st e fun u μ1 => match g u e μ1 with
  | some e' => .nx e' μ1
  | none => .stuck
theorem xs_asg {tg e : Expr} {m : ME} {g : MG} {own : List Nat} {pos : Pos} (he : PE X e (RdE D w Wx m)) (hg : PG X tg (RdG D w own g)) (hs : swapsWithSole [tg] e pos.line X.env = pure false) (hw : swappedStores [tg] e X.env = pure none)
    (h1 : (assignEach [tg] X.env).map (·.2) = [assign tg X.env]) : PS X (.Assign [tg] e pos) (RdS D w Wx (sAsg m g)) :=
  PS.weak (ps_asg he hg hs hw h1) fun N σ H ⟨F, as, μ, e, S, E, P⟩ => ⟨F, as, μ, e, S, E, PoS.ex P E fun u μ F' H' as' v y s E r P => by
    cases q : g u e μ with
    | none => simp only [q] at P; exact P.elim
    | some e' =>
      simp only [q] at P
      exact ⟨F', as', μ, e, u, s, E, r, e', q, fun σ' E' _ => P F' H' as' σ' Ext.refl s E'⟩⟩
end

/-! ### loops -/
/-- the iterator J goes over ys while gd stands -/
def Walks (D : Ad) (w : World) (J : It) (gd : Mem → Prop) (ys : List W) (F0 : Hp) (as0 : List Addr) : Prop :=
  ∀ i F H as μ, Sim D w F H as μ → Same F0 F → (∃ r, as = as0 ++ r) → gd μ →
    (∀ y, ys[i]? = some y → J.go i H ∧ ∀ x H', J.yld i H x H' → ∃ F', Sim D w F' H' as μ ∧ Ext F H as F' H' as ∧ RW D w F' as y x) ∧ (ys.length = i → J.stop i H)
/-- what is walked: the guard, the items -/
structure WK where
  gd : Mem → Prop
  ys : List W
abbrev MI := En → Mem → R WK
def PoI (D : Ad) (w : World) (Wx : WX) (σ : Sg) (F H : Hp) (as : List Addr) (r : R WK) (Rr : It → Hp → Prop) : Prop := match r with
  | .ok k μ1 => ∀ F' H' as' J, Ext F H as F' H' as' → Sim D w F' H' as' μ1 → Walks D w J k.gd k.ys F' as' → Rr J H'
  | .exc x μ1 => ∀ F' H' as' d, Ext F H as F' H' as' → Sim D w F' H' as' μ1 → XR D w F' H' as' x d → Wx (.ref (D.ca x.c)) d σ H'
  | .stuck => False
def RdI (D : Ad) (w : World) (Wx : WX) (m : MI) : TI := fun σ H Rr => ∃ F as μ e, Sim D w F H as μ ∧ ER D w F as e σ ∧ PoI D w Wx σ F H as (m e μ) Rr
theorem PoI.from {D : Ad} {w : World} {Wx : WX} {σ : Sg} {F H F1 H1 : Hp} {as as1 : List Addr} {r : R WK} {Rr : It → Hp → Prop} (h : PoI D w Wx σ F H as r Rr) (x : Ext F H as F1 H1 as1) (lv : ∀ a ∈ as1, H1 a ≠ none) : PoI D w Wx σ F1 H1 as1 r Rr := by
  cases r with
  | ok u μ => exact fun F' H' as' v y s q => h F' H' as' v (x.trans y lv) s q
  | exc u μ => exact fun F' H' as' v y s q => h F' H' as' v (x.trans y lv) s q
  | stuck => exact h
theorem PoI.bind {D : Ad} {w : World} {Wx : WX} {α β : Type} {rel : Hp → List Addr → α → β → Prop} {σ : Sg} {H F : Hp} {as : List Addr} {Rr : It → Hp → Prop} {r : R α} {f : α → Mem → R WK} {Q1 : β → Hp → Prop} (P : PoI D w Wx σ F H as (r.bind f) Rr)
    (k : ∀ u μ F' H' as' v, Ext F H as F' H' as' → Sim D w F' H' as' μ → rel F' as' u v → PoI D w Wx σ F' H' as' (f u μ) Rr → Q1 v H') : Po D w Wx σ F H as rel r Q1 := by
  cases r with
  | ok u μ => exact fun F' H' as' v y s q => k u μ F' H' as' v y s q (PoI.from P y s.there)
  | exc x μ => exact P
  | stuck => exact P
open Classical in
noncomputable def loopM (gd : Mem → Prop) (g : MG) (b : MS) : List W → MS
  | [], e, μ => if gd μ then .nx e μ else .stuck
  | y :: ys, e, μ => if gd μ then (match g y e μ with
    | some e1 => (match b e1 μ with
      | .nx e2 μ2 => loopM gd g b ys e2 μ2
      | .ct e2 μ2 => loopM gd g b ys e2 μ2
      | .bk e2 μ2 => .nx e2 μ2
      | r => r)
    | none => .stuck) else .stuck
noncomputable def sFor (i : MI) (g : MG) (b : MS) : MS := fun e μ => (i e μ).st e fun k μ1 => loopM k.gd g b k.ys e μ1
section
variable {X : Cx} {D : Ad} {w : World} {Wx : WX}
theorem PoS.loop {F H : Hp} {as : List Addr} {gd : Mem → Prop} {g : MG} {b : MS} {y : W} {ys : List W} {e : En} {μ : Mem} {N : Ends} (h : PoS D w Wx F H as (loopM gd g b (y :: ys) e μ) N) :
    gd μ ∧ ∃ e1, g y e μ = some e1 ∧ ∀ M : Ends, M.rt = N.rt → M.bk = N.nx → (∀ e2 μ2 F' H' as' σ', Ext F H as F' H' as' → Sim D w F' H' as' μ2 → ER D w F' as' e2 σ' → PoS D w Wx F' H' as' (loopM gd g b ys e2 μ2) N → M.nx σ' H' ∧ M.ct σ' H') → PoS D w Wx F H as (b e1 μ) M := by
  unfold loopM at h
  by_cases q : gd μ
  · rw [if_pos q] at h
    refine ⟨q, ?_⟩
    cases q1 : g y e μ with
    | none => simp only [q1] at h; exact h.elim
    | some e1 =>
      refine ⟨e1, rfl, fun M h1 h2 h3 => ?_⟩
      simp only [q1] at h
      cases q2 : b e1 μ with
      | nx e2 μ2 =>
        simp only [q2] at h
        exact fun F' H' as' σ' y s E => (h3 e2 μ2 F' H' as' σ' y s E (PoS.from h y s.there)).1
      | ct e2 μ2 =>
        simp only [q2] at h
        exact fun F' H' as' σ' y s E => (h3 e2 μ2 F' H' as' σ' y s E (PoS.from h y s.there)).2
      | bk e2 μ2 =>
        simp only [q2] at h
        exact fun F' H' as' σ' y s E => by rw [h2]; exact h F' H' as' σ' y s E
      | rt u μ2 =>
        simp only [q2] at h
        exact fun F' H' as' σ' y s E => by rw [h1]; exact h F' H' as' σ' y s E
      | exc x e2 μ2 =>
        simp only [q2] at h
        exact h
      | stuck => simp only [q2] at h; exact h.elim
  · rw [if_neg q] at h; exact h.elim
theorem PoS.loopN {F H : Hp} {as : List Addr} {gd : Mem → Prop} {g : MG} {b : MS} {e : En} {μ : Mem} {N : Ends} (h : PoS D w Wx F H as (loopM gd g b [] e μ) N) : gd μ ∧ PoS D w Wx F H as (.nx e μ) N := by
  unfold loopM at h
  by_cases q : gd μ
  · rw [if_pos q] at h; exact ⟨q, h⟩
  · rw [if_neg q] at h; exact h.elim
theorem xs_for {tg iter : Expr} {body : List Stmt} {i : MI} {g : MG} {own : List Nat} {b : MS} {pos : Pos} (hp : PassesOwn (model X.prog X.w) X.A X.env X.xe) (hc : X.calm = true) (hi : PI X tg iter (RdI D w Wx i)) (hg : PG X tg (RdG D w own g)) (hb : PSs X body (RdS D w Wx b))
    (hs : ∀ x, foldedSetIterable iter X.env x = pure x) : PS X (.For tg iter body [] pos) (RdS D w Wx (sFor i g b)) := by
  refine PS.weak (ps_for hp hc hi hg hb hs) fun N σ H ⟨F, as, μ, e, S, E, P⟩ => ?_
  refine ⟨F, as, μ, e, S, E, ?_⟩
  unfold sFor at P
  cases qi : i e μ with
  | stuck => rw [qi] at P; exact P.elim
  | exc x μ1 =>
    rw [qi] at P
    exact fun F' H' as' d y s r => P F' H' as' σ d y s (E.mono y.fs y.pre) r
  | ok k μ1 =>
    rw [qi] at P
    intro F0 H0 as0 J y0 S0 hw
    have P0 : PoS D w Wx F0 H0 as0 (loopM k.gd g b k.ys e μ1) N := PoS.from P y0 S0.there
    refine ⟨fun i m σ H => m = k.ys.length - i ∧ i ≤ k.ys.length ∧ ∃ F as μ e, Sim D w F H as μ ∧ ER D w F as e σ ∧ Same F0 F ∧ (∃ r, as = as0 ++ r) ∧ PoS D w Wx F H as (loopM k.gd g b (k.ys.drop i) e μ) N, ⟨_, rfl, Nat.zero_le _, F0, as0, μ1, e, S0, E.mono y0.fs y0.pre, Same.refl _, ⟨[], by simp⟩, by simpa using P0⟩, ?_⟩
    rintro i m σ H ⟨rfl, hi, F, as, μ, e, S, E, sF, ha, P⟩
    by_cases hlt : i < k.ys.length
    · have ed : k.ys.drop i = k.ys[i] :: k.ys.drop (i + 1) := List.drop_eq_getElem_cons hlt
      rw [ed] at P
      obtain ⟨hgd, e1, he1, P⟩ := PoS.loop P
      obtain ⟨h1, _⟩ := hw i F H as μ S sF ha hgd
      obtain ⟨hgo, hyl⟩ := h1 k.ys[i] (List.getElem?_eq_getElem hlt)
      refine .inr ⟨hgo, fun σ' H' => ∃ F as μ e, Sim D w F H' as μ ∧ ER D w F as e σ' ∧ Same F0 F ∧ (∃ r, as = as0 ++ r) ∧ PoS D w Wx F H' as (loopM k.gd g b (k.ys.drop (i + 1)) e μ) N, fun σ' H' q => ⟨_, by omega, rfl, hlt, q⟩, fun x H' hx => ?_⟩
      obtain ⟨F1, S1, X1, R1⟩ := hyl x H' hx
      refine ⟨F1, as, μ, e, k.ys[i], S1, E.mono X1.fs X1.pre, R1, e1, he1, fun σ' E' _ => ⟨F1, as, μ, e1, S1, E', ?_⟩⟩
      refine PoS.from (P _ rfl rfl ?_) X1 S1.there
      intro e2 μ2 F' H2 as' σ2 y2 s2 E2 P2
      have z : ∃ F as μ e, Sim D w F H2 as μ ∧ ER D w F as e σ2 ∧ Same F0 F ∧ (∃ r, as = as0 ++ r) ∧ PoS D w Wx F H2 as (loopM k.gd g b (k.ys.drop (i + 1)) e μ) N :=
        ⟨F', as', μ2, e2, s2, E2, sF.trans y2.fs, (by obtain ⟨r, rfl⟩ := ha; obtain ⟨r2, rfl⟩ := y2.pre; exact ⟨r ++ r2, by simp⟩), P2⟩
      exact ⟨z, z⟩
    · have e0 : k.ys.drop i = [] := List.drop_eq_nil_of_le (by omega)
      rw [e0] at P
      obtain ⟨hgd, P⟩ := PoS.loopN P
      exact .inl ⟨(hw i F H as μ S sF ha hgd).2 (by omega), P F H as σ Ext.refl S E⟩
/-- while, n turns at most -/
def whM (t : MB) (b : MS) : Nat → MS
  | 0, _, _ => .stuck
  | n + 1, e, μ => (t e μ).st e fun c μ1 => if c = true then (match b e μ1 with
      | .nx e2 μ2 => whM t b n e2 μ2
      | .ct e2 μ2 => whM t b n e2 μ2
      | .bk e2 μ2 => .nx e2 μ2
      | r => r) else .nx e μ1
theorem xs_while {c : Expr} {body : List Stmt} {t : MB} {b : MS} {pos : Pos} (n : Nat) (hp : PassesOwn (model X.prog X.w) X.A X.env X.xe) (hc : PT X c (RdB D w Wx t)) (hb : PSs X body (RdS D w Wx b)) : PS X (.While c body [] pos) (RdS D w Wx (whM t b n)) := by
  refine PS.weak (ps_while hp hc hb) fun N σ H h => ?_
  refine ⟨fun m σ H => RdS D w Wx (whM t b m) N σ H, ⟨n, h⟩, ?_⟩
  rintro m σ H ⟨F, as, μ, e, S, E, P⟩
  cases m with
  | zero => exact P.elim
  | succ m =>
    refine ⟨F, as, μ, e, S, E, PoS.ex (rel := relB) P E fun u μ F' H' as' v y s E r P => ?_⟩
    cases r
    cases u with
    | false => exact P F' H' as' σ Ext.refl s E
    | true =>
      refine ⟨fun σ' H' => RdS D w Wx (whM t b m) N σ' H', fun σ' H' q => ⟨m, Nat.lt_succ_self m, q⟩, F', as', μ, e, s, E, ?_⟩
      rw [if_pos rfl] at P
      cases q2 : b e μ with
      | nx e2 μ2 =>
        simp only [q2] at P
        exact fun F' H' as' σ' y s E => ⟨F', as', μ2, e2, s, E, PoS.from P y s.there⟩
      | ct e2 μ2 =>
        simp only [q2] at P
        exact fun F' H' as' σ' y s E => ⟨F', as', μ2, e2, s, E, PoS.from P y s.there⟩
      | bk e2 μ2 => simp only [q2] at P; exact P
      | rt u μ2 => simp only [q2] at P; exact P
      | exc x e2 μ2 => simp only [q2] at P; exact P
      | stuck => simp only [q2] at P; exact P.elim
end
end HQ
/-! HQ4: expressions. -/
namespace HQ
open PySem PySem.Spec PyProof.Rows L2

section
variable {X : Cx} {D : Ad} {w : World} {Wx : WX}
def mVar (i : Nat) : ME := fun e μ => match e[i]? with
  | some (some u) => .ok u μ
  | _ => .stuck
def mT (t : T) : ME := fun _ μ => .ok (.t t) μ
theorem xe_var {i : Nat} {x : Str} {pos : Pos} (hN : X.N[i]? = some x) (hv : Vis X.env.scope x) (hd : (x == ("__debug__" : Str)) = false) (hcd : (x == ("__classdict__" : Str)) = false) : PE X (.Name x pos) (RdE D w Wx (mVar i)) :=
  PE.weak (pe_var hN hv hd hcd) fun σ H Q ⟨F, as, μ, e, S, E, P⟩ => by
    unfold mVar at P
    cases q : e[i]? with
    | none => simp only [q] at P; exact P.elim
    | some o =>
      cases o with
      | none => simp only [q] at P; exact P.elim
      | some u =>
        simp only [q] at P
        obtain ⟨v, h1, h2⟩ := E.at_ i u q
        exact ⟨v, h1, Po.now P S h2⟩
theorem xe_c {x : Expr} {t : T} {v : V} (h : PE X x (tC v)) (r : ∀ F, RT D w F t v) : PE X x (RdE D w Wx (mT t)) :=
  PE.weak h fun σ H Q ⟨F, as, μ, e, S, E, P⟩ => Po.now P S (by simp only [relW, RW]; exact r F)
theorem xe_int {i j pos} : PE X (.Constant (.int i) j pos) (RdE D w Wx (mT (.int i))) := xe_c pe_int fun F => by simp only [RT]
theorem xe_bl {b j pos} : PE X (.Constant (.bool b) j pos) (RdE D w Wx (mT (.bl b))) := xe_c pe_bl fun F => by simp only [RT]
theorem xe_non {j pos} : PE X (.Constant .none j pos) (RdE D w Wx (mT .non)) := xe_c pe_non fun F => by simp only [RT]
theorem xe_str {z j pos} : PE X (.Constant (.str z) j pos) (RdE D w Wx (mT (.str z))) := xe_c pe_str fun F => by simp only [RT]

/-! ### tests -/
def asB (u : W) (μ : Mem) : R Bool := match u with
  | .t (.bl b) => .ok b μ
  | _ => .stuck
def bOf (m : ME) : MB := fun e μ => (m e μ).bind asB
def bNot (t : MB) : MB := fun e μ => (t e μ).bind fun b μ1 => .ok (!b) μ1
def bAnd (a b : MB) : MB := fun e μ => (a e μ).bind fun c μ1 => if c = true then b e μ1 else .ok false μ1
def bOr (a b : MB) : MB := fun e μ => (a e μ).bind fun c μ1 => if c = true then .ok true μ1 else b e μ1
theorem bl_of {u : W} {v : V} {F : Hp} {as : List Addr} {μ : Mem} {σ : Sg} {H : Hp} {Q : Bool → Hp → Prop} (S : Sim D w F H as μ) (r : RW D w F as u v)
    (P : Po D w Wx σ F H as relB (asB u μ) Q) : ∃ c, v = .bl c ∧ Q c H := by
  cases u with
  | t t =>
    cases t <;> first | exact P.elim | skip
    simp only [RW, RT] at r
    exact ⟨_, r, Po.now P S rfl⟩
  | ref n => exact P.elim
  | tup ws => exact P.elim
theorem rdB {m : ME} (σ : Sg) (H : Hp) (Q : Bool → Hp → Prop) (h : RdB D w Wx (bOf m) σ H Q) : RdE D w Wx m σ H fun x H1 => ∃ c, x = .bl c ∧ Q c H1 := by
  obtain ⟨F, as, μ, e, S, E, P⟩ := h
  exact ⟨F, as, μ, e, S, E, Po.bind P fun u μ1 F1 H1 as1 v X1 S1 R1 P1 => bl_of S1 R1 P1⟩
theorem xt_val {a : Expr} {m : ME} (h : PE X a (RdE D w Wx m)) (he : ∀ whole, isTrue a X.env whole = (do let v ← whole; standAt a.pos; holding [v] (truthy v))) : PT X a (RdB D w Wx (bOf m)) :=
  PT.weak (pt_val h he) fun σ H Q q => rdB σ H Q q
theorem xt_cmp {op : CmpOp} {r : R2} {f : W → W → Mem → R W} {a b : Expr} {ma mb : ME} {pos : Pos} (hr : OpR X (compareOp op) r) (ho : Op2 D w Wx r f) (ha : PE X a (RdE D w Wx ma)) (hb : PE X b (RdE D w Wx mb)) (hm : behindInMarks op b = false) : PT X (.Compare a [op] [b] pos) (RdB D w Wx (bOf (m2 f ma mb))) :=
  PT.weak (pt_cmpR hr ha hb hm) fun σ H Q q => rd2 ho σ H _ (rdB σ H Q q)
theorem xt_not {a : Expr} {t : MB} {pos : Pos} (h : PT X a (RdB D w Wx t)) : PT X (.UnaryOp .Not a pos) (RdB D w Wx (bNot t)) :=
  PT.weak (pt_not h) fun σ H Q ⟨F, as, μ, e, S, E, P⟩ => ⟨F, as, μ, e, S, E, Po.bind P fun u μ1 F1 H1 as1 v X1 S1 R1 P1 => by cases R1; exact Po.now P1 S1 rfl⟩
theorem PW.weak {e : Expr} {t t' : TT} (h : PW X e t) (k : ∀ σ H Q, t' σ H Q → t σ H Q) : PW X e t' := ⟨fun wh pins s σ H Q I q => h.run wh pins s σ H Q I (k σ H Q q)⟩
theorem xw_and1 {a : Expr} {t : MB} {pos : Pos} (h : PT X a (RdB D w Wx t)) : PW X (.BoolOp .And [a] pos) (RdB D w Wx t) := pw_and1 h
theorem xw_or1 {a : Expr} {t : MB} {pos : Pos} (h : PT X a (RdB D w Wx t)) : PW X (.BoolOp .Or [a] pos) (RdB D w Wx t) := pw_or1 h
theorem xw_and {a b : Expr} {rest : List Expr} {t u : MB} {pos : Pos} (h : PT X a (RdB D w Wx t)) (h2 : PW X (.BoolOp .And (b :: rest) pos) (RdB D w Wx u)) : PW X (.BoolOp .And (a :: b :: rest) pos) (RdB D w Wx (bAnd t u)) :=
  PW.weak (pw_and h h2) fun σ H Q ⟨F, as, μ, e, S, E, P⟩ => ⟨F, as, μ, e, S, E, Po.bind P fun c μ1 F1 H1 as1 v X1 S1 R1 P1 => by
    cases R1
    cases c with
    | true => exact ⟨F1, as1, μ1, e, S1, E.mono X1.fs X1.pre, P1⟩
    | false => exact Po.now P1 S1 rfl⟩
theorem xw_or {a b : Expr} {rest : List Expr} {t u : MB} {pos : Pos} (h : PT X a (RdB D w Wx t)) (h2 : PW X (.BoolOp .Or (b :: rest) pos) (RdB D w Wx u)) : PW X (.BoolOp .Or (a :: b :: rest) pos) (RdB D w Wx (bOr t u)) :=
  PW.weak (pw_or h h2) fun σ H Q ⟨F, as, μ, e, S, E, P⟩ => ⟨F, as, μ, e, S, E, Po.bind P fun c μ1 F1 H1 as1 v X1 S1 R1 P1 => by
    cases R1
    cases c with
    | true => exact Po.now P1 S1 rfl
    | false => exact ⟨F1, as1, μ1, e, S1, E.mono X1.fs X1.pre, P1⟩⟩
/-- and, or, not as values -/
def mAndV (a b : ME) : ME := fun e μ => (bOf a e μ).bind fun c μ1 => if c = true then b e μ1 else .ok (.t (.bl false)) μ1
def mOrV (a b : ME) : ME := fun e μ => (bOf a e μ).bind fun c μ1 => if c = true then .ok (.t (.bl true)) μ1 else b e μ1
def mNotV (a : ME) : ME := fun e μ => (bOf a e μ).bind fun c μ1 => .ok (.t (.bl (!c))) μ1
theorem rdBV {β γ : Type} {rel : Hp → List Addr → β → γ → Prop} {m : ME} {F : Hp} {as : List Addr} {e : En} {μ : Mem} {σ : Sg} {H : Hp} {k : Bool → Mem → R β} {Q : γ → Hp → Prop} {Q1 : Bool → Hp → Prop} (P : Po D w Wx σ F H as rel ((bOf m e μ).bind k) Q)
    (h : ∀ c μ F' H' as', Ext F H as F' H' as' → Sim D w F' H' as' μ → Po D w Wx σ F' H' as' rel (k c μ) Q → Q1 c H') : Po D w Wx σ F H as (relW D w) (m e μ) fun x H1 => ∃ c, x = .bl c ∧ Q1 c H1 := by
  unfold bOf at P
  cases q : m e μ with
  | stuck => rw [q] at P; exact P.elim
  | exc x μ1 => rw [q] at P; exact P
  | ok u μ1 =>
    rw [q] at P
    intro F' H' as' v y s r
    cases u with
    | t t =>
      cases t <;> first | exact P.elim | skip
      simp only [relW, RW, RT] at r
      exact ⟨_, r, h _ _ _ _ _ y s (Po.from P y s.there)⟩
    | ref n => exact P.elim
    | tup ws => exact P.elim
theorem xe_one {op : BoolOp} {a : Expr} {m : ME} {pos : Pos} (h : PE X a (RdE D w Wx m)) : PE X (.BoolOp op [a] pos) (RdE D w Wx m) := pe_one h
theorem xe_and {a b : Expr} {rest : List Expr} {ma mb : ME} {pos : Pos} (ha : PE X a (RdE D w Wx ma)) (hb : PE X (.BoolOp .And (b :: rest) pos) (RdE D w Wx mb)) : PE X (.BoolOp .And (a :: b :: rest) pos) (RdE D w Wx (mAndV ma mb)) :=
  PE.weak (pe_and ha hb) fun σ H Q ⟨F, as, μ, e, S, E, P⟩ => ⟨F, as, μ, e, S, E, rdBV P fun c μ1 F1 H1 as1 X1 S1 P1 => by
    cases c with
    | true => exact ⟨F1, as1, μ1, e, S1, E.mono X1.fs X1.pre, P1⟩
    | false => exact Po.now P1 S1 (by simp only [relW, RW, RT])⟩
theorem xe_or {a b : Expr} {rest : List Expr} {ma mb : ME} {pos : Pos} (ha : PE X a (RdE D w Wx ma)) (hb : PE X (.BoolOp .Or (b :: rest) pos) (RdE D w Wx mb)) : PE X (.BoolOp .Or (a :: b :: rest) pos) (RdE D w Wx (mOrV ma mb)) :=
  PE.weak (pe_or ha hb) fun σ H Q ⟨F, as, μ, e, S, E, P⟩ => ⟨F, as, μ, e, S, E, rdBV P fun c μ1 F1 H1 as1 X1 S1 P1 => by
    cases c with
    | true => exact Po.now P1 S1 (by simp only [relW, RW, RT])
    | false => exact ⟨F1, as1, μ1, e, S1, E.mono X1.fs X1.pre, P1⟩⟩
theorem xe_not {a : Expr} {ma : ME} {pos : Pos} (ha : PE X a (RdE D w Wx ma)) : PE X (.UnaryOp .Not a pos) (RdE D w Wx (mNotV ma)) :=
  PE.weak (pe_not ha) fun σ H Q ⟨F, as, μ, e, S, E, P⟩ => ⟨F, as, μ, e, S, E, rdBV P fun c μ1 F1 H1 as1 X1 S1 P1 => Po.now P1 S1 (by simp only [relW, RW, RT])⟩
def mIf (t : MB) (a b : ME) : ME := fun e μ => (t e μ).bind fun c μ1 => if c = true then a e μ1 else b e μ1
theorem xe_if {c a b : Expr} {t : MB} {ma mb : ME} {pos : Pos} (hc : PT X c (RdB D w Wx t)) (ha : PE X a (RdE D w Wx ma)) (hb : PE X b (RdE D w Wx mb)) : PE X (.IfExp c a b pos) (RdE D w Wx (mIf t ma mb)) :=
  PE.weak (pe_ifExp hc ha hb) fun σ H Q ⟨F, as, μ, e, S, E, P⟩ => ⟨F, as, μ, e, S, E, Po.bind P fun c μ1 F1 H1 as1 v X1 S1 R1 P1 => by
    cases R1
    cases c with
    | true => exact ⟨F1, as1, μ1, e, S1, E.mono X1.fs X1.pre, P1⟩
    | false => exact ⟨F1, as1, μ1, e, S1, E.mono X1.fs X1.pre, P1⟩⟩

/-! ### arguments, displays -/
def aNil : MA := fun _ μ => .ok [] μ
def aCons (a : ME) (as : MA) : MA := fun e μ => (a e μ).bind fun u μ1 => (as e μ1).bind fun us μ2 => .ok (u :: us) μ2
theorem xa_nil : PA X [] (RdA D w Wx aNil) := PA.weak pa_nil fun σ H Q ⟨F, as, μ, e, S, E, P⟩ => Po.now P S (by simp only [relWs, RWs])
theorem xa_cons {a : Expr} {es : List Expr} {ma : ME} {ms : MA} (ha : PE X a (RdE D w Wx ma)) (hs : PA X es (RdA D w Wx ms)) (he : starEach (a :: es) X.env = (false, eval a X.env) :: starEach es X.env) : PA X (a :: es) (RdA D w Wx (aCons ma ms)) :=
  PA.weak (pa_cons ha hs he) fun σ H Q ⟨F, as, μ, e, S, E, P⟩ => ⟨F, as, μ, e, S, E, Po.bind P fun u μ1 F1 H1 as1 v X1 S1 R1 P1 => ⟨F1, as1, μ1, e, S1, E.mono X1.fs X1.pre, Po.bind P1 fun us μ2 F2 H2 as2 vs X2 S2 R2 P2 => Po.now P2 S2 (by
    simp only [relWs, RWs]
    exact ⟨v, vs, rfl, RW.mono X2.fs X2.pre u v R1, R2⟩)⟩⟩
def mTup (ms : MA) : ME := fun e μ => (ms e μ).bind fun us μ1 => if us.length ≤ bigL then .ok (mkTup us) μ1 else .stuck
def mLst (live : Bool) (ms : MA) : ME := fun e μ => (ms e μ).bind fun us μ1 => if us.length ≤ bigL then mkL live us μ1 else .stuck
theorem xe_tup {es : List Expr} {k : Nat} {ms : MA} {pos : Pos} (h : PA X es (RdA D w Wx ms)) : PE X (.Tuple es k pos) (RdE D w Wx (mTup ms)) :=
  PE.weak (pe_tup h) fun σ H Q ⟨F, as, μ, e, S, E, P⟩ => ⟨F, as, μ, e, S, E, Po.bind P fun us μ1 F1 H1 as1 vs X1 S1 R1 P1 => by
    by_cases hl : us.length ≤ bigL
    · rw [if_pos hl] at P1
      exact ⟨by rw [← RWs.len R1]; exact Nat.le_trans hl bigL_le, fun p hp => Po.tup P1 S1 R1 hp⟩
    · rw [if_neg hl] at P1; exact P1.elim⟩
theorem xe_lst {es : List Expr} {live : Bool} {ms : MA} {pos : Pos} (h : PA X es (RdA D w Wx ms)) : PE X (.List es pos) (RdE D w Wx (mLst live ms)) :=
  PE.weak (pe_lst h) fun σ H Q ⟨F, as, μ, e, S, E, P⟩ => ⟨F, as, μ, e, S, E, Po.bind P fun us μ1 F1 H1 as1 vs X1 S1 R1 P1 => by
    by_cases hl : us.length ≤ bigL
    · rw [if_pos hl] at P1
      exact ⟨by rw [← RWs.len R1]; exact Nat.le_trans hl bigL_le, fun p hp => Po.lst P1 S1 R1 hp⟩
    · rw [if_neg hl] at P1; exact P1.elim⟩
end
/-! ### operators by rules -/
section
variable {X : Cx} {D : Ad} {w : World} {Wx : WX} {a b : Expr} {ma mb : ME} {ms : MA}
theorem rd1 {r : V → Hp → VK → Prop} {f : W → Mem → R W} (ho : Op1 D w Wx r f) (σ : Sg) (H : Hp) (Q : VK) (h : RdE D w Wx (m1 f ma) σ H Q) : RdE D w Wx ma σ H fun x H1 => r x H1 Q := by
  obtain ⟨F, as, μ, e, S, E, P⟩ := h
  exact ⟨F, as, μ, e, S, E, Po.bind P fun u μ1 F1 H1 as1 v X1 S1 R1 P1 => ho σ F1 H1 as1 μ1 u v Q S1 R1 P1⟩
theorem rdA {r : List V → Hp → VK → Prop} {f : List W → Mem → R W} (ho : OpA D w Wx r f) (σ : Sg) (H : Hp) (Q : VK) (h : RdE D w Wx (mA f ms) σ H Q) : RdA D w Wx ms σ H fun xs H1 => r xs H1 Q := by
  obtain ⟨F, as, μ, e, S, E, P⟩ := h
  exact ⟨F, as, μ, e, S, E, Po.bind P fun u μ1 F1 H1 as1 v X1 S1 R1 P1 => ho σ F1 H1 as1 μ1 u v Q S1 R1 P1⟩
theorem xe_un {op : UnaryOp} {r : V → Hp → VK → Prop} {f : W → Mem → R W} {pos : Pos} (hr : UnR X (unaryOp op) r) (ho : Op1 D w Wx r f) (ha : PE X a (RdE D w Wx ma)) : PE X (.UnaryOp op a pos) (RdE D w Wx (m1 f ma)) := PE.weak (pe_un hr ha) (rd1 ho)
theorem xe_ix {r : R2} {f : W → W → Mem → R W} {pos : Pos} (hr : IxR X r) (ho : Op2 D w Wx r f) (ha : PE X a (RdE D w Wx ma)) (hb : PE X b (RdE D w Wx mb)) (hs : PlainIx b) : PE X (.Subscript a b pos) (RdE D w Wx (m2 f ma mb)) := PE.weak (pe_ix hr ha hb hs) (rd2 ho)
theorem xe_callB {x : Str} {id : String} {r : List V → Hp → VK → Prop} {f : List W → Mem → R W} {e : Expr} {es : List Expr} {p pos : Pos} (hc : CallR X (.builtin id) r) (ho : OpA D w Wx r f) (hg : Gl X x) (hm : X.mg x = none) (hv : bootBuiltins x = some (.builtin id)) (ha : PA X (e :: es) (RdA D w Wx ms))
    (hn : x ≠ "__name__") (hdb : (x == ("__debug__" : Str)) = false) (he : starEach (e :: es) X.env = (false, eval e X.env) :: starEach es X.env) (hpl : (backTo pos (starEach es X.env)).any (·.1) = false) : PE X (.Call (.Name x p) (e :: es) [] pos) (RdE D w Wx (mA f ms)) :=
  PE.weak (pe_callB hc hg hm hv ha hn hdb he hpl) (rdA ho)
theorem xe_callTy {x : Str} {n : String} {r : List V → Hp → VK → Prop} {f : List W → Mem → R W} {e : Expr} {es : List Expr} {p pos : Pos} (hc : CallR X (.type n) r) (ho : OpA D w Wx r f) (hg : Gl X x) (hm : X.mg x = none) (hv : bootBuiltins x = some (.type n)) (ha : PA X (e :: es) (RdA D w Wx ms))
    (hn : x ≠ "__name__") (hdb : (x == ("__debug__" : Str)) = false) (he : starEach (e :: es) X.env = (false, eval e X.env) :: starEach es X.env) (hpl : (backTo pos (starEach es X.env)).any (·.1) = false) : PE X (.Call (.Name x p) (e :: es) [] pos) (RdE D w Wx (mA f ms)) :=
  PE.weak (pe_callTy hc hg hm hv ha hn hdb he hpl) (rdA ho)
/-- a call of a built-in method by values: the receiver among the arguments -/
def OpM (D : Ad) (w : World) (Wx : WX) (K : PySem.W.Frag) (T : String) (r : V → List V → Hp → VK → Prop) (f : W → List W → Mem → R W) : Prop :=
  ∀ σ F H as μ u us v vs (Q : VK), Sim D w F H as μ → RW D w F as u v → RWs D w F as us vs → Po D w Wx σ F H as (relW D w) (f u us μ) Q → r v vs H Q
end
end HQ
/-! HQ5: operations on values. -/
namespace HQ
open PySem PySem.Spec PyProof.Rows L2

section
variable {X : Cx} {D : Ad} {w : World} {Wx : WX}
/-! ### whole numbers -/
def iop (C : Int → Int → Bool) (g : Int → Int → T) (a b : W) (μ : Mem) : R W := match a, b with
  | .t (.int i), .t (.int j) => if C i j = true then .ok (.t (g i j)) μ else .stuck
  | _, _ => .stuck
theorem iop_ok {C : Int → Int → Bool} {C' : Int → Int → Prop} {g : Int → Int → T} {gv : Int → Int → V} (hc : ∀ i j, C i j = true → C' i j) (hr : ∀ F i j, RT D w F (g i j) (gv i j)) : Op2 D w Wx (rI C' gv) (iop C g) := by
  intro σ F H as μ u1 u2 v1 v2 Q S r1 r2 P
  unfold iop at P
  split at P
  · rename_i i j
    by_cases h : C i j = true
    · rw [if_pos h] at P
      simp only [RW, RT] at r1 r2
      exact ⟨i, j, r1, r2, hc i j h, Po.now P S (by simp only [relW, RW]; exact hr F i j)⟩
    · rw [if_neg h] at P; exact P.elim
  · exact P.elim
def yes2 (_ _ : Int) : Bool := true
def bigE : Nat := 900000
def cMul (i j : Int) : Bool := decide (i.natAbs.log2 + j.natAbs.log2 < 1000000)
def cDiv (_ j : Int) : Bool := decide (0 < j) && decide (j.natAbs.log2 < 9000)
def cMod (_ j : Int) : Bool := decide (0 < j)
def cPow (i j : Int) : Bool := decide (0 ≤ j ∧ j ≤ 1000000 ∧ i.natAbs < 2 ^ 64)
def cShr (_ j : Int) : Bool := decide (0 ≤ j)
abbrev fSub := iop yes2 fun i j => .int (i - j)
abbrev fDiv := iop cDiv fun i j => .int (i / j)
abbrev fMod := iop cMod fun i j => .int (i % j)
abbrev fPow := iop cPow fun i j => .int (i ^ j.toNat)
abbrev fShl := iop cPow fun i j => .int (i * 2 ^ j.toNat)
abbrev fShr := iop cShr fun i j => .int (i / 2 ^ j.toNat)
abbrev fAnd := iop yes2 fun i j => .int (Builtin.bitAnd i j)
abbrev fOr := iop yes2 fun i j => .int (Builtin.bitOr i j)
theorem rI_tt {g : Int → Int → V} {f : Value → Value → Sem Value} (h : OpR X f (rI0 g)) : OpR X f (rI (fun _ _ => True) g) := fun pins s σ H x y v u Q I rx ry ⟨i, j, e1, e2, _, q⟩ => h pins s σ H x y v u Q I rx ry ⟨i, j, e1, e2, q⟩
theorem rt_int {D : Ad} {w : World} {F : Hp} {i : Int} : RT D w F (.int i) (.int i) := by simp only [RT]
theorem rt_bl {D : Ad} {w : World} {F : Hp} {i : Bool} : RT D w F (.bl i) (.bl i) := by simp only [RT]
theorem rt_str {D : Ad} {w : World} {F : Hp} {i : Str} : RT D w F (.str i) (.str i) := by simp only [RT]
theorem sub_ok : Op2 D w Wx (rI (fun _ _ => True) fun i j => .int (i - j)) fSub := iop_ok (fun _ _ _ => trivial) fun _ _ _ => rt_int
theorem div_ok : Op2 D w Wx (rI CDivW fun i j => .int (i / j)) fDiv := iop_ok (fun i j h => by simpa [cDiv, CDivW] using h) fun _ _ _ => rt_int
theorem mod_ok : Op2 D w Wx (rI (fun _ j => 0 < j) fun i j => .int (i % j)) fMod := iop_ok (fun i j h => by simpa [cMod] using h) fun _ _ _ => rt_int
theorem pow_ok : Op2 D w Wx (rI CPow fun i j => .int (i ^ j.toNat)) fPow := iop_ok (fun i j h => by simpa [cPow, CPow] using h) fun _ _ _ => rt_int
theorem shl_ok : Op2 D w Wx (rI CPow fun i j => .int (i * 2 ^ j.toNat)) fShl := iop_ok (fun i j h => by simpa [cPow, CPow] using h) fun _ _ _ => rt_int
theorem shr_ok : Op2 D w Wx (rI (fun _ j => 0 ≤ j) fun i j => .int (i / 2 ^ j.toNat)) fShr := iop_ok (fun i j h => by simpa [cShr] using h) fun _ _ _ => rt_int
theorem and_ok : Op2 D w Wx (rI (fun _ _ => True) fun i j => .int (Builtin.bitAnd i j)) fAnd := iop_ok (fun _ _ _ => trivial) fun _ _ _ => rt_int
theorem or_ok : Op2 D w Wx (rI (fun _ _ => True) fun i j => .int (Builtin.bitOr i j)) fOr := iop_ok (fun _ _ _ => trivial) fun _ _ _ => rt_int
/-- two rules in one -/
theorem Op2.or {r1 r2 : R2} {f : W → W → Mem → R W} (h : ∀ σ F H as μ u1 u2 v1 v2 (Q : VK), Sim D w F H as μ → RW D w F as u1 v1 → RW D w F as u2 v2 → Po D w Wx σ F H as (relW D w) (f u1 u2 μ) Q → r1 v1 v2 H Q ∨ r2 v1 v2 H Q) : Op2 D w Wx (fun x y H Q => r1 x y H Q ∨ r2 x y H Q) f :=
  fun σ F H as μ u1 u2 v1 v2 Q S q1 q2 P => h σ F H as μ u1 u2 v1 v2 Q S q1 q2 P
/-! ### + -/
def fAddS (live : Bool) (a b : W) (μ : Mem) : R W := match getLT a μ, getLT b μ with
  | some xs, some ys => if xs.length + ys.length ≤ bigL then mkL live (xs ++ ys) μ else .stuck
  | _, _ => match getT a, getT b with
    | some xs, some ys => if xs.length + ys.length ≤ bigL then .ok (mkTup (xs ++ ys)) μ else .stuck
    | _, _ => .stuck
def fAdd (live : Bool) (a b : W) (μ : Mem) : R W := match a, b with
  | .t (.int i), .t (.int j) => .ok (.t (.int (i + j))) μ
  | .t (.str x), .t (.str y) => if x.length + y.length ≤ bigL then .ok (.t (.str (x ++ y))) μ else .stuck
  | a, b => fAddS live a b μ
def rAddA (K : PySem.W.Frag) : R2 := fun x y H Q => (rI (fun _ _ => True) (fun i j => .int (i + j))) x y H Q ∨ (∃ i j, x = .str i ∧ y = .str j ∧ i.length + j.length ≤ sizeLine ∧ Q (.str (i ++ j)) H) ∨ rCat x y H Q ∨ rCatA K x y H Q
theorem op_addA : OpR X (binaryOp .Add) (rAddA X.K) := OpR.or (rI_tt op_add) (OpR.or op_add_str (OpR.or op_cat op_catA))
theorem mkTup_nil : mkTup [] = .t (.tup []) := rfl
theorem rw_mkTup {F : Hp} {as : List Addr} {a : Addr} {ws : List W} {vs : List V} (h : F a = some (.tup vs)) (r : RWs D w F as ws vs) : RW D w F as (mkTup ws) (.ref a) := by
  unfold mkTup
  cases q : toTs ws with
  | none => simp only [RW]; exact ⟨a, vs, rfl, h, r⟩
  | some ts =>
    rw [toTs_eq q] at r
    simp only [RW, RT]
    exact ⟨a, vs, rfl, h, r.toT⟩
theorem getT_F {F : Hp} {as : List Addr} {u : W} {ws : List W} {v : V} (h : getT u = some ws) (r : RW D w F as u v) : ∃ a vs, v = .ref a ∧ F a = some (.tup vs) ∧ RWs D w F as ws vs := by
  cases u with
  | t t =>
    cases t <;> simp [getT] at h
    rename_i ts
    subst h
    simp only [RW, RT] at r
    obtain ⟨a, vs, e, q, r⟩ := r
    exact ⟨a, vs, e, q, r.toW⟩
  | ref n => simp [getT] at h
  | tup ws =>
    simp [getT] at h
    subst h
    simpa only [RW] using r
theorem addS_ok {σ : Sg} {F H : Hp} {as : List Addr} {μ : Mem} {live : Bool} {a b : W} {v1 v2 : V} {Q : VK} {K : PySem.W.Frag} (S : Sim D w F H as μ) (r1 : RW D w F as a v1) (r2 : RW D w F as b v2) (P : Po D w Wx σ F H as (relW D w) (fAddS live a b μ) Q) : rCat v1 v2 H Q ∨ rCatA K v1 v2 H Q := by
  unfold fAddS at P
  split at P
  · rename_i xs ys h1 h2
    obtain ⟨p, vs, rfl, q1, s1⟩ := getLT_ok S h1 r1
    obtain ⟨q, us, rfl, q2, s2⟩ := getLT_ok S h2 r2
    split at P
    · rename_i hl
      exact .inl ⟨p, q, vs, us, rfl, rfl, q1, q2, by rw [← s1.len, ← s2.len]; exact Nat.le_trans hl bigL_le, fun z hz => Po.lst P S (s1.app s2) hz⟩
    · exact P.elim
  · split at P
    · rename_i xs ys h1 h2
      obtain ⟨p, vs, rfl, q1, s1⟩ := getT_F h1 r1
      obtain ⟨q, us, rfl, q2, s2⟩ := getT_F h2 r2
      split at P
      · rename_i hl
        refine .inr ⟨p, q, vs, us, rfl, rfl, SqT.of (S.sub _ _ q1), SqT.of (S.sub _ _ q2), by rw [← s1.len, ← s2.len]; exact Nat.le_trans hl bigL_le, fun e => ?_, fun _ e => ?_, fun _ _ z hz => Po.tup P S (s1.app s2) hz⟩
        · subst e
          have e : xs = [] := List.length_eq_zero_iff.mp s1.len
          subst e
          exact Po.now P S (rw_mkTup q2 s2)
        · subst e
          have e : ys = [] := List.length_eq_zero_iff.mp s2.len
          subst e
          rw [List.append_nil] at P
          exact Po.now P S (rw_mkTup q1 s1)
      · exact P.elim
    · exact P.elim
theorem add_ok {live : Bool} {K : PySem.W.Frag} : Op2 D w Wx (rAddA K) (fAdd live) := by
  intro σ F H as μ u1 u2 v1 v2 Q S r1 r2 P
  unfold fAdd at P
  split at P
  · simp only [RW, RT] at r1 r2
    exact .inl ⟨_, _, r1, r2, trivial, Po.now P S (by simp only [relW, RW, RT])⟩
  · simp only [RW, RT] at r1 r2
    split at P
    · rename_i hl
      exact .inr (.inl ⟨_, _, r1, r2, Nat.le_trans hl bigL_le, Po.now P S (by simp only [relW, RW, RT])⟩)
    · exact P.elim
  · exact .inr (.inr (addS_ok S r1 r2 P))
end
end HQ
/-! HQ6: comparisons, subscripts, slices, len, isinstance. -/
namespace HQ
open PySem PySem.Spec PyProof.Rows L2

/-! ### data of the library -/
mutual
def toD : Nat → T → Option PyData
  | _, .non => some .none
  | _, .bl b => some (.bool b)
  | _, .int i => some (.int i)
  | _, .str x => if PyData.strOk x = true then some (.str x) else none
  | n + 1, .tup ts => (toDs n ts).map PyData.tuple
  | n + 1, .ptup ts => (toDs n ts).map PyData.tuple
  | n + 1, .lst ts => (toDs n ts).map PyData.list
  | _, _ => none
def toDs : Nat → List T → Option (List PyData)
  | _, [] => some []
  | n, t :: ts => match toD n t, toDs n ts with
    | some d, some ds => some (d :: ds)
    | _, _ => none
end
/-- data of a value -/
def toDW (u : W) (μ : Mem) : Option PyData := match u with
  | .t (.scr ns) => some (.list (ns.map .int))
  | .t t => toD 60 t
  | .ref n => match μ[n]? with
    | some (.lst ws) => match toTs ws with
      | some ts => (toDs 59 ts).map PyData.list
      | none => none
    | _ => none
  | .tup _ => none
section
variable {D : Ad} {w : World} {F H : Hp} {K : PySem.W.Frag}
mutual
theorem toD_ok : ∀ (n : Nat) (t : T) (d : PyData) (v : V), n ≤ 60 → Same F H → toD n t = some d → RT D w F t v → Dp K H v d ∧ d.canLay0 = true ∧ d.depth ≤ n
  | n, .non, d, v, hn, hs, h, r => by
    simp only [toD, Option.some.injEq] at h; subst h
    simp only [RT] at r; subst r
    exact ⟨.non, by simp [PyData.canLay0], by simp [PyData.depth]⟩
  | n, .bl b, d, v, hn, hs, h, r => by
    simp only [toD, Option.some.injEq] at h; subst h
    simp only [RT] at r; subst r
    exact ⟨.bl b, by simp [PyData.canLay0], by simp [PyData.depth]⟩
  | n, .int i, d, v, hn, hs, h, r => by
    simp only [toD, Option.some.injEq] at h; subst h
    simp only [RT] at r; subst r
    exact ⟨.int i, by simp [PyData.canLay0], by simp [PyData.depth]⟩
  | n, .str x, d, v, hn, hs, h, r => by
    simp only [toD] at h
    by_cases q : PyData.strOk x = true
    · rw [if_pos q] at h
      simp only [Option.some.injEq] at h; subst h
      simp only [RT] at r; subst r
      exact ⟨.str x, by simp [PyData.canLay0, q], by simp [PyData.depth]⟩
    · rw [if_neg q] at h; cases h
  | 0, .tup ts, d, v, hn, hs, h, r => by simp [toD] at h
  | n + 1, .tup ts, d, v, hn, hs, h, r => by
    simp only [toD] at h
    cases q : toDs n ts with
    | none => rw [q] at h; simp at h
    | some ds =>
      rw [q] at h
      simp only [Option.map_some, Option.some.injEq] at h; subst h
      simp only [RT] at r
      obtain ⟨a, vs, rfl, e, r⟩ := r
      obtain ⟨h1, h2, h3⟩ := toDs_ok n ts ds vs (by omega) hs q r
      exact ⟨.tup (SqT.of (hs _ _ e)) h1, by simp [PyData.canLay0, h2], by simp only [PyData.depth]; omega⟩
  | 0, .ptup ts, d, v, hn, hs, h, r => by simp [toD] at h
  | n + 1, .ptup ts, d, v, hn, hs, h, r => by
    simp only [toD] at h
    cases q : toDs n ts with
    | none => rw [q] at h; simp at h
    | some ds =>
      rw [q] at h
      simp only [Option.map_some, Option.some.injEq] at h; subst h
      simp only [RT] at r
      obtain ⟨a, o, vs, rfl, e, z, r⟩ := r
      obtain ⟨h1, h2, h3⟩ := toDs_ok n ts ds vs (by omega) hs q r
      exact ⟨.tup (.inl (.inr ⟨o, hs _ _ e⟩)) h1, by simp [PyData.canLay0, h2], by simp only [PyData.depth]; omega⟩
  | 0, .lst ts, d, v, hn, hs, h, r => by simp [toD] at h
  | n + 1, .lst ts, d, v, hn, hs, h, r => by
    simp only [toD] at h
    cases q : toDs n ts with
    | none => rw [q] at h; simp at h
    | some ds =>
      rw [q] at h
      simp only [Option.map_some, Option.some.injEq] at h; subst h
      simp only [RT] at r
      obtain ⟨a, vs, rfl, e, r⟩ := r
      obtain ⟨h1, h2, h3⟩ := toDs_ok n ts ds vs (by omega) hs q r
      exact ⟨.lst (SqL.of (hs _ _ e)) h1, by simp [PyData.canLay0, h2], by simp only [PyData.depth]; omega⟩
  | n, .scr _, d, v, hn, hs, h, r => by simp [toD] at h
  | n, .ty _, d, v, hn, hs, h, r => by simp [toD] at h
  | n, .fn _, d, v, hn, hs, h, r => by simp [toD] at h
  | n, .cls _, d, v, hn, hs, h, r => by simp [toD] at h
  | n, .dic _ _, d, v, hn, hs, h, r => by simp [toD] at h
  | n, .ins _ _ _, d, v, hn, hs, h, r => by simp [toD] at h
theorem toDs_ok : ∀ (n : Nat) (ts : List T) (ds : List PyData) (vs : List V), n ≤ 60 → Same F H → toDs n ts = some ds → RTs D w F ts vs → DpAll K H vs ds ∧ PyData.canLayAll0 ds = true ∧ PyData.depthAll ds ≤ n
  | n, [], ds, vs, hn, hs, h, r => by
    simp only [toDs, Option.some.injEq] at h; subst h
    simp only [RTs] at r; subst r
    exact ⟨.nil, by simp [PyData.canLayAll0], by simp [PyData.depthAll]⟩
  | n, t :: ts, ds, vs, hn, hs, h, r => by
    simp only [toDs] at h
    cases q1 : toD n t with
    | none => rw [q1] at h; simp at h
    | some d =>
      cases q2 : toDs n ts with
      | none => rw [q1, q2] at h; simp at h
      | some ds' =>
        rw [q1, q2] at h
        simp only [Option.some.injEq] at h; subst h
        simp only [RTs] at r
        obtain ⟨v, vs', rfl, r1, r2⟩ := r
        obtain ⟨a1, a2, a3⟩ := toD_ok n t d v hn hs q1 r1
        obtain ⟨b1, b2, b3⟩ := toDs_ok n ts ds' vs' hn hs q2 r2
        exact ⟨.cons a1 b1, by simp [PyData.canLayAll0, a2, b2], by simp only [PyData.depthAll]; omega⟩
end
theorem ints_dp (ns : List Int) : DpAll K H (ns.map V.int) (ns.map PyData.int) ∧ PyData.canLayAll0 (ns.map PyData.int) = true ∧ PyData.depthAll (ns.map PyData.int) ≤ 1 := by
  induction ns with
  | nil => exact ⟨.nil, by simp [PyData.canLayAll0], by simp [PyData.depthAll]⟩
  | cons n ns ih => exact ⟨.cons (.int n) ih.1, by simp [PyData.canLayAll0, PyData.canLay0, ih.2.1], by simp only [List.map_cons, PyData.depthAll, PyData.depth]; omega⟩
variable {as : List Addr} {μ : Mem}
theorem toDW_ok {u : W} {d : PyData} {v : V} (S : Sim D w F H as μ) (h : toDW u μ = some d) (r : RW D w F as u v) : Dp K H v d ∧ SeqAt.shaped d = true := by
  have sh : ∀ {d : PyData}, d.canLay0 = true → d.depth ≤ 60 → SeqAt.shaped d = true := fun {d} h1 h2 => by
    unfold SeqAt.shaped
    rw [h1]
    simpa using by omega
  unfold toDW at h
  split at h
  · rename_i ns
    cases h
    simp only [RW, RT] at r
    obtain ⟨a, rfl, e⟩ := r
    obtain ⟨h1, h2, h3⟩ := ints_dp (K := K) (H := H) ns
    exact ⟨.lst (.inl (Rd.same S.sub e)) h1, sh (by simp [PyData.canLay0, h2]) (by simp only [PyData.depth]; omega)⟩
  · rename_i t _
    simp only [RW] at r
    obtain ⟨h1, h2, h3⟩ := toD_ok 60 t d v (Nat.le_refl _) S.sub h r
    exact ⟨h1, sh h2 h3⟩
  · rename_i n
    split at h
    · rename_i ws q
      split at h
      · rename_i ts qt
        cases q3 : toDs 59 ts with
        | none => rw [q3] at h; simp at h
        | some ds =>
          rw [q3] at h
          simp only [Option.map_some, Option.some.injEq] at h; subst h
          simp only [RW] at r
          obtain ⟨a, e, rfl⟩ := r
          obtain ⟨vs, e1, r1⟩ := S.obj n a _ e q
          rw [toTs_eq qt] at r1
          obtain ⟨h1, h2, h3⟩ := toDs_ok (K := K) 59 ts ds vs (by omega) S.sub q3 r1.toT
          exact ⟨.lst (SqL.of e1) h1, sh (by simp [PyData.canLay0, h2]) (by simp only [PyData.depth]; omega)⟩
      · cases h
    · cases h
  · cases h
end

/-! ### == -/
def eqSc : T → T → Option Bool
  | .non, .non => some true
  | .non, .int _ => some false
  | .int _, .non => some false
  | .non, .bl _ => some false
  | .bl _, .non => some false
  | .non, .str _ => some false
  | .str _, .non => some false
  | .int i, .int j => some (decide (i = j))
  | .bl i, .bl j => some (decide (i = j))
  | .str i, .str j => some (decide (i = j))
  | .int _, .str _ => some false
  | .str _, .int _ => some false
  | .bl _, .str _ => some false
  | .str _, .bl _ => some false
  | _, _ => none
def eqW (u v : W) (μ : Mem) : Option Bool := match u, v with
  | .t a, .t b => match eqSc a b with
    | some r => some r
    | none => match toDW (.t a) μ, toDW (.t b) μ with
      | some d, some e => some (PyData.eqv d e)
      | _, _ => none
  | u, v => match toDW u μ, toDW v μ with
    | some d, some e => some (PyData.eqv d e)
    | _, _ => none
def fEq (neg : Bool) (u v : W) (μ : Mem) : R W := match eqW u v μ with
  | some b => .ok (.t (.bl (if neg = true then !b else b))) μ
  | none => .stuck
section
variable {X : Cx} {D : Ad} {w : World} {Wx : WX} {K : PySem.W.Frag}
def rEqA (K : PySem.W.Frag) : R2 := fun x y H Q => rEq x y H Q ∨ rEqD K x y H Q
def rNeA (K : PySem.W.Frag) : R2 := fun x y H Q => rNe x y H Q ∨ rNeD K x y H Q
theorem op_eqA (hu : X.A.units + 64 < cLine) : OpR X (compareOp .Eq) (rEqA X.K) := OpR.or op_eq (op_eqD hu)
theorem op_neA (hu : X.A.units + 64 < cLine) : OpR X (compareOp .NotEq) (rNeA X.K) := OpR.or op_ne (op_neD hu)
theorem eqSc_ok {F : Hp} {a b : T} {x y : V} {r : Bool} (h : eqSc a b = some r) (h1 : RT D w F a x) (h2 : RT D w F b y) : scal x y = true ∧ r = decide (x = y) := by
  cases a <;> cases b <;> simp only [eqSc, Option.some.injEq, reduceCtorEq] at h <;> simp only [RT] at h1 h2 <;> subst h1 h2 h <;> simp [scal]
theorem eqW_ok {F H : Hp} {as : List Addr} {μ : Mem} {u v : W} {x y : V} {r : Bool} (S : Sim D w F H as μ) (h : eqW u v μ = some r) (h1 : RW D w F as u x) (h2 : RW D w F as v y) :
    (scal x y = true ∧ r = decide (x = y)) ∨ ∃ d e, Dp K H x d ∧ Dp K H y e ∧ SeqAt.shaped d = true ∧ SeqAt.shaped e = true ∧ r = PyData.eqv d e := by
  have dd : ∀ {u v : W} {r : Bool}, RW D w F as u x → RW D w F as v y → (match toDW u μ, toDW v μ with
      | some d, some e => some (PyData.eqv d e)
      | _, _ => none) = some r → ∃ d e, Dp K H x d ∧ Dp K H y e ∧ SeqAt.shaped d = true ∧ SeqAt.shaped e = true ∧ r = PyData.eqv d e := fun {u v r} h1 h2 h => by
    split at h
    · rename_i d e q1 q2
      cases h
      obtain ⟨a1, a2⟩ := toDW_ok (K := K) S q1 h1
      obtain ⟨b1, b2⟩ := toDW_ok (K := K) S q2 h2
      exact ⟨d, e, a1, b1, a2, b2, rfl⟩
    · cases h
  unfold eqW at h
  split at h
  · rename_i a b
    split at h
    · rename_i r' q
      cases h
      simp only [RW] at h1 h2
      exact .inl (eqSc_ok q h1 h2)
    · exact .inr (dd h1 h2 h)
  · exact .inr (dd h1 h2 h)
theorem eq_ok : Op2 D w Wx (rEqA K) (fEq false) := by
  intro σ F H as μ u1 u2 v1 v2 Q S r1 r2 P
  unfold fEq at P
  split at P
  · rename_i b q
    rcases eqW_ok (K := K) S q r1 r2 with ⟨h1, rfl⟩ | ⟨d, e, h1, h2, h3, h4, rfl⟩
    · exact .inl ⟨h1, Po.now P S (by simp [relW, RW, RT])⟩
    · exact .inr ⟨d, e, h1, h2, h3, h4, Po.now P S (by simp [relW, RW, RT])⟩
  · exact P.elim
theorem ne_ok : Op2 D w Wx (rNeA K) (fEq true) := by
  intro σ F H as μ u1 u2 v1 v2 Q S r1 r2 P
  unfold fEq at P
  split at P
  · rename_i b q
    rcases eqW_ok (K := K) S q r1 r2 with ⟨h1, rfl⟩ | ⟨d, e, h1, h2, h3, h4, rfl⟩
    · exact .inl ⟨h1, Po.now P S (by simp [relW, RW, RT])⟩
    · exact .inr ⟨d, e, h1, h2, h3, h4, Po.now P S (by simp [relW, RW, RT])⟩
  · exact P.elim
/-! ### order -/
def icmp (g : Int → Int → Bool) (a b : W) (μ : Mem) : R W := match a, b with
  | .t (.int i), .t (.int j) => .ok (.t (.bl (g i j))) μ
  | _, _ => .stuck
theorem icmp_ok {g : Int → Int → Bool} : Op2 D w Wx (rI0 fun i j => .bl (g i j)) (icmp g) := by
  intro σ F H as μ u1 u2 v1 v2 Q S r1 r2 P
  unfold icmp at P
  split at P
  · simp only [RW, RT] at r1 r2
    exact ⟨_, _, r1, r2, Po.now P S (by simp only [relW, RW, RT])⟩
  · exact P.elim
/-- the ints of a tuple -/
def intsT : List T → Option (List Int)
  | [] => some []
  | .int i :: ts => (intsT ts).map (i :: ·)
  | _ :: _ => none
theorem intsT_eq : ∀ {ts : List T} {ns : List Int}, intsT ts = some ns → ts = ns.map .int
  | [], ns, h => by simp [intsT] at h; subst h; rfl
  | t :: ts, ns, h => by
    cases t <;> simp only [intsT, reduceCtorEq] at h
    rename_i i
    cases q : intsT ts with
    | none => rw [q] at h; simp at h
    | some r => rw [q] at h; simp at h; subst h; simp [intsT_eq q]
theorem rts_ints {F : Hp} : ∀ {ns : List Int} {vs : List V}, RTs D w F (ns.map .int) vs → vs = ns.map V.int
  | [], vs, h => by simpa [RTs] using h
  | n :: ns, vs, h => by
    simp only [List.map_cons, RTs, RT] at h
    obtain ⟨v, r, rfl, rfl, h⟩ := h
    simp [rts_ints h]
def fLt (a b : W) (μ : Mem) : R W := match a, b with
  | .t (.int i), .t (.int j) => .ok (.t (.bl (decide (i < j)))) μ
  | .t (.str i), .t (.str j) => .ok (.t (.bl (decide (i.cps.toList < j.cps.toList)))) μ
  | .t (.tup ts), .t (.tup us) => match intsT ts, intsT us with
    | some ns, some ms => .ok (.t (.bl (HT.lexLt ns ms))) μ
    | _, _ => .stuck
  | _, _ => .stuck
def rLtA (K : PySem.W.Frag) : R2 := fun x y H Q => rI0 (fun i j => .bl (decide (i < j))) x y H Q ∨ (∃ i j, x = .str i ∧ y = .str j ∧ Q (.bl (decide (i.cps.toList < j.cps.toList))) H) ∨ rLtT K x y H Q
theorem op_ltA (hu : X.A.units < cLine) : OpR X (compareOp .Lt) (rLtA X.K) := OpR.or op_lt (OpR.or op_lt_str (op_ltT hu))
theorem lt_ok : Op2 D w Wx (rLtA K) fLt := by
  intro σ F H as μ u1 u2 v1 v2 Q S r1 r2 P
  unfold fLt at P
  split at P
  · simp only [RW, RT] at r1 r2
    exact .inl ⟨_, _, r1, r2, Po.now P S (by simp only [relW, RW, RT])⟩
  · simp only [RW, RT] at r1 r2
    exact .inr (.inl ⟨_, _, r1, r2, Po.now P S (by simp only [relW, RW, RT])⟩)
  · split at P
    · rename_i ts us ns ms q1 q2
      simp only [RW, RT] at r1 r2
      obtain ⟨a, vs, rfl, e1, s1⟩ := r1
      obtain ⟨b, ws, rfl, e2, s2⟩ := r2
      rw [intsT_eq q1] at s1
      rw [intsT_eq q2] at s2
      rw [rts_ints s1] at e1
      rw [rts_ints s2] at e2
      exact .inr (.inr ⟨a, b, ns, ms, rfl, rfl, SqT.of (S.sub _ _ e1), SqT.of (S.sub _ _ e2), Po.now P S (by simp only [relW, RW, RT])⟩)
    · exact P.elim
  · exact P.elim
/-! ### is None -/
def isNonW : W → Bool
  | .t .non => true
  | _ => false
def fIsN (neg : Bool) (a b : W) (μ : Mem) : R W := match b with
  | .t .non => .ok (.t (.bl (if neg = true then !isNonW a else isNonW a))) μ
  | _ => .stuck
theorem nonV {F : Hp} {as : List Addr} {u : W} {v : V} (r : RW D w F as u v) : decide (v = .non) = isNonW u := by
  cases u with
  | t t => cases t <;> simp only [RW, RT] at r <;> first | (subst r; rfl) | (obtain ⟨a, rfl, _⟩ := r; rfl) | (obtain ⟨a, _, rfl, _⟩ := r; rfl) | (obtain ⟨a, _, _, rfl, _⟩ := r; rfl)
  | ref n => simp only [RW] at r; obtain ⟨a, _, rfl⟩ := r; rfl
  | tup ws => simp only [RW] at r; obtain ⟨a, _, rfl, _⟩ := r; rfl
theorem isN_ok : Op2 D w Wx (fun x y H Q => y = .non ∧ Q (.bl (decide (x = .non))) H) (fIsN false) := by
  intro σ F H as μ u1 u2 v1 v2 Q S r1 r2 P
  unfold fIsN at P
  split at P
  · simp only [RW, RT] at r2
    refine ⟨r2, Po.now P S ?_⟩
    rw [nonV r1]
    simp [relW, RW, RT]
  · exact P.elim
theorem notN_ok : Op2 D w Wx (fun x y H Q => y = .non ∧ Q (.bl (!decide (x = .non))) H) (fIsN true) := by
  intro σ F H as μ u1 u2 v1 v2 Q S r1 r2 P
  unfold fIsN at P
  split at P
  · simp only [RW, RT] at r2
    refine ⟨r2, Po.now P S ?_⟩
    rw [nonV r1]
    simp [relW, RW, RT]
  · exact P.elim
end
end HQ
/-! HQ7: in, subscripts, slices, types, conversions, methods. -/
namespace HQ
open PySem PySem.Spec PyProof.Rows L2

section
variable {X : Cx} {D : Ad} {w : World} {Wx : WX} {K : PySem.W.Frag}
/-! ### in -/
/-- a flat value -/
def vT : W → Option V
  | .t .non => some .non
  | .t (.bl b) => some (.bl b)
  | .t (.int i) => some (.int i)
  | .t (.str x) => some (.str x)
  | _ => none
def vTs : List W → Option (List V)
  | [] => some []
  | u :: us => match vT u, vTs us with
    | some v, some vs => some (v :: vs)
    | _, _ => none
theorem vT_ok {F : Hp} {as : List Addr} {u : W} {v x : V} (h : vT u = some x) (r : RW D w F as u v) : v = x ∧ flatV x = true := by
  unfold vT at h
  split at h <;> simp only [Option.some.injEq, reduceCtorEq] at h <;> subst h <;> simp only [RW, RT] at r <;> subst r <;> exact ⟨rfl, rfl⟩
theorem vTs_ok {F : Hp} {as : List Addr} : ∀ {us : List W} {vs xs : List V}, vTs us = some xs → RWs D w F as us vs → vs = xs ∧ xs.all flatV = true
  | [], vs, xs, h, r => by
    simp only [vTs, Option.some.injEq] at h; subst h
    simp only [RWs] at r; subst r
    exact ⟨rfl, rfl⟩
  | u :: us, vs, xs, h, r => by
    simp only [vTs] at h
    split at h
    · rename_i x ys q1 q2
      simp only [Option.some.injEq] at h; subst h
      simp only [RWs] at r
      obtain ⟨v, vs', rfl, r1, r2⟩ := r
      obtain ⟨e1, f1⟩ := vT_ok q1 r1
      obtain ⟨e2, f2⟩ := vTs_ok q2 r2
      subst e1 e2
      exact ⟨rfl, by simp [f1, f2]⟩
    · cases h
def signIn (x y : Str) : Bool := decide (x.cps.getD 0 0 ∈ y.cps.toList)
/-- x in y -/
def inW (u v : W) (μ : Mem) : Option Bool := match u, v with
  | .t (.str x), .t (.str y) => if x.cps.size = 1 then some (signIn x y) else none
  | u, v => match getTP v with
    | some ws => match vT u, vTs ws with
      | some x, some xs => some (inV x xs)
      | _, _ => none
    | none => match toDW u μ, toDW v μ with
      | some d, some (.list ds) => some (ds.any fun z => PyData.eqv z d)
      | _, _ => none
def fIn (neg : Bool) (u v : W) (μ : Mem) : R W := match inW u v μ with
  | some b => .ok (.t (.bl (if neg = true then !b else b))) μ
  | none => .stuck
def rSign (neg : Bool) : R2 := fun x y H Q => ∃ (c : Nat) (z : Str), x = .str ⟨#[c]⟩ ∧ y = .str z ∧ Q (.bl (if neg = true then !decide (c ∈ z.cps.toList) else decide (c ∈ z.cps.toList))) H
def rInA (K : PySem.W.Frag) (neg : Bool) : R2 := fun x y H Q => rSign neg x y H Q ∨ rIn K neg x y H Q ∨
  ∃ d ds, Dp K H x d ∧ Dp K H y (.list ds) ∧ SeqAt.shaped d = true ∧ SeqAt.shaped (.list ds) = true ∧ Q (.bl (if neg = true then !(ds.any fun z => PyData.eqv z d) else ds.any fun z => PyData.eqv z d)) H
theorem op_inA (hu : X.A.units + 65 < cLine) : OpR X (compareOp .In) (rInA X.K false) := fun pins s σ H x y v u Q I rx ry h => by
  rcases h with ⟨c, z, e1, e2, q⟩ | h | ⟨d, ds, h1, h2, h3, h4, q⟩
  · exact op_in_sign pins s σ H x y v u Q I rx ry ⟨c, z, e1, e2, by simpa using q⟩
  · exact op_in_seq pins s σ H x y v u Q I rx ry h
  · exact op_inD hu pins s σ H x y v u Q I rx ry ⟨d, ds, h1, h2, h3, h4, by simpa using q⟩
theorem op_notInA (hu : X.A.units + 65 < cLine) : OpR X (compareOp .NotIn) (rInA X.K true) := fun pins s σ H x y v u Q I rx ry h => by
  rcases h with ⟨c, z, e1, e2, q⟩ | h | ⟨d, ds, h1, h2, h3, h4, q⟩
  · exact op_notIn_sign pins s σ H x y v u Q I rx ry ⟨c, z, e1, e2, by simpa using q⟩
  · exact op_notIn_seq pins s σ H x y v u Q I rx ry h
  · exact op_notInD hu pins s σ H x y v u Q I rx ry ⟨d, ds, h1, h2, h3, h4, by simpa using q⟩
theorem one_sign {x : Str} (h : x.cps.size = 1) : x = ⟨#[x.cps.getD 0 0]⟩ := by
  obtain ⟨⟨l⟩⟩ := x
  match l, h with
  | [c], _ => rfl
theorem in_ok {neg : Bool} : Op2 D w Wx (rInA K neg) (fIn neg) := by
  intro σ F H as μ u1 u2 v1 v2 Q S r1 r2 P
  unfold fIn at P
  split at P
  · rename_i b q
    have P' := Po.now P S (v := .bl (if neg = true then !b else b)) (by simp only [relW, RW, RT])
    unfold inW at q
    split at q
    · rename_i x y
      split at q
      · rename_i h1
        cases q
        simp only [RW, RT] at r1 r2
        subst r1 r2
        exact .inl ⟨x.cps.getD 0 0, y, congrArg V.str (one_sign h1), rfl, P'⟩
      · cases q
    · split at q
      · rename_i ws qt
        split at q
        · rename_i x xs qx qs
          cases q
          obtain ⟨a, vs, rfl, _, e, r⟩ := getTP_ok S qt r2
          obtain ⟨rfl, f1⟩ := vT_ok qx r1
          obtain ⟨rfl, f2⟩ := vTs_ok qs r
          exact .inr (.inl ⟨a, vs, rfl, .inr (.inl e), f1, f2, P'⟩)
        · cases q
      · split at q
        · rename_i d ds qd qe
          cases q
          obtain ⟨h1, h3⟩ := toDW_ok (K := K) S qd r1
          obtain ⟨h2, h4⟩ := toDW_ok (K := K) S qe r2
          exact .inr (.inr ⟨d, ds, h1, h2, h3, h4, P'⟩)
        · cases q
  · exact P.elim
/-! ### a[i] -/
def fIdx (u v : W) (μ : Mem) : R W := match v with
  | .t (.int i) => match u with
    | .t (.str z) => match atI z.cps.toList i with
      | some c => if z.length ≤ bigL then .ok (.t (.str ⟨#[c]⟩)) μ else .stuck
      | none => .stuck
    | u => match getL u μ with
      | some ws => match atI ws i with
        | some x => .ok x μ
        | none => .stuck
      | none => match getTP u with
        | some ws => match atI ws i with
          | some x => .ok x μ
          | none => .stuck
        | none => .stuck
  | _ => .stuck
theorem atI_rw {F : Hp} {as : List Addr} {ws : List W} {vs : List V} {i : Int} {x : W} (r : RWs D w F as ws vs) (h : atI ws i = some x) : ∃ v, atI vs i = some v ∧ RW D w F as x v := by
  unfold atI at h ⊢
  rw [← r.len]
  cases q : ixN ws.length i with
  | none => rw [q] at h; cases h
  | some j =>
    rw [q] at h
    exact r.at_ h
def rIxA (K : PySem.W.Frag) : R2 := fun x y H Q => rIxS x y H Q ∨ rIxL K x y H Q ∨ rIxT K x y H Q
theorem ix_A : IxR X (rIxA X.K) := IxR.or ix_str (IxR.or ix_list ix_tup)
theorem idx_ok : Op2 D w Wx (rIxA K) fIdx := by
  intro σ F H as μ u1 u2 v1 v2 Q S r1 r2 P
  unfold fIdx at P
  split at P
  · rename_i i
    simp only [RW, RT] at r2
    subst r2
    split at P
    · rename_i z
      simp only [RW, RT] at r1
      subst r1
      split at P
      · rename_i c q
        split at P
        · rename_i hz
          exact .inl ⟨z, i, c, rfl, rfl, Nat.le_trans hz bigL_le, q, Po.now P S (by simp only [relW, RW, RT])⟩
        · exact P.elim
      · exact P.elim
    · split at P
      · rename_i ws q
        obtain ⟨a, vs, rfl, e, r⟩ := getL_ok S q r1
        split at P
        · rename_i x qx
          obtain ⟨v, q1, q2⟩ := atI_rw r qx
          exact .inr (.inl ⟨a, vs, i, v, rfl, rfl, .inl e, q1, Po.now P S q2⟩)
        · exact P.elim
      · split at P
        · rename_i ws q
          obtain ⟨a, vs, rfl, _, e, r⟩ := getTP_ok S q r1
          split at P
          · rename_i x qx
            obtain ⟨v, q1, q2⟩ := atI_rw r qx
            exact .inr (.inr ⟨a, vs, i, v, rfl, rfl, .inl e, q1, Po.now P S q2⟩)
          · exact P.elim
        · exact P.elim
  · exact P.elim
/-! ### slices -/
def cutA {α : Type} (xs : List α) (lo hi : Option Int) : List α := (xs.drop (HT.sIx xs.length 0 lo)).take (HT.sIx xs.length xs.length hi - HT.sIx xs.length 0 lo)
theorem rws_cut {F : Hp} {as : List Addr} {ws : List W} {vs : List V} (r : RWs D w F as ws vs) (lo hi : Option Int) : RWs D w F as (cutA ws lo hi) (cutV vs lo hi) := by
  unfold cutA cutV
  rw [← r.len]
  exact (r.drop _).take _
abbrev MO := En → Mem → R (Option Int)
def oNone : MO := fun _ μ => .ok none μ
def oSome (m : ME) : MO := fun e μ => (m e μ).bind fun u μ1 => match u with
  | .t (.int i) => .ok (some i) μ1
  | _ => .stuck
def fSl (live : Bool) (u : W) (lo hi : Option Int) (μ : Mem) : R W := match u with
  | .t (.str z) => if z.length ≤ bigL then .ok (.t (.str (cutS z lo hi))) μ else .stuck
  | u => match getL u μ with
    | some ws => mkL live (cutA ws lo hi) μ
    | none => match getT u with
      | some ws => .ok (mkTup (cutA ws lo hi)) μ
      | none => .stuck
def rSlAll (K : PySem.W.Frag) : V → Option Int → Option Int → Hp → VK → Prop := fun x lo hi H Q => rSlS x lo hi H Q ∨ rSlL K x lo hi H Q ∨ rSlA K x lo hi H Q
theorem sl_all : SlR X (rSlAll X.K) := SlR.or sl_str (SlR.or sl_list sl_tupA)
theorem sl_ok {live : Bool} {σ : Sg} {F H : Hp} {as : List Addr} {μ : Mem} {u : W} {v : V} {lo hi : Option Int} {Q : VK} (S : Sim D w F H as μ) (r1 : RW D w F as u v) (P : Po D w Wx σ F H as (relW D w) (fSl live u lo hi μ) Q) : rSlAll K v lo hi H Q := by
  unfold fSl at P
  split at P
  · rename_i z
    simp only [RW, RT] at r1
    subst r1
    split at P
    · rename_i hz
      exact .inl ⟨z, rfl, Nat.le_trans hz bigL_le, Po.now P S (by simp only [relW, RW, RT])⟩
    · exact P.elim
  · split at P
    · rename_i ws q
      obtain ⟨a, vs, rfl, e, r⟩ := getL_ok S q r1
      exact .inr (.inl ⟨a, vs, rfl, .inl e, fun p hp => Po.lst P S (rws_cut r lo hi) hp⟩)
    · split at P
      · rename_i ws q
        obtain ⟨a, vs, rfl, e, r⟩ := getT_F q r1
        refine .inr (.inr ⟨a, vs, rfl, SqT.of (S.sub _ _ e), fun h => ?_, fun _ p hp => Po.tup P S (rws_cut r lo hi) hp⟩)
        have e1 : cutA ws lo hi = ws := by
          unfold cutA
          rw [r.len, h.1, h.2]
          simp only [List.drop_zero, Nat.sub_zero]
          exact List.take_of_length_le (by rw [r.len]; exact Nat.le_refl _)
        rw [e1] at P
        exact Po.now P S (rw_mkTup e r)
      · exact P.elim
theorem xo_none : PO X none (fun σ H Q => ∃ F as μ e, Sim D w F H as μ ∧ ER D w F as e σ ∧ Po D w Wx σ F H as (fun _ _ a b => a = b) (oNone e μ) Q) :=
  ⟨fun pins s σ H Q I ⟨F, as, μ, e, S, E, P⟩ => po_none.run pins s σ H Q I (Po.now P S rfl)⟩
theorem xo_some {a : Expr} {m : ME} (h : PE X a (RdE D w Wx m)) : PO X (some a) (fun σ H Q => ∃ F as μ e, Sim D w F H as μ ∧ ER D w F as e σ ∧ Po D w Wx σ F H as (fun _ _ a b => a = b) (oSome m e μ) Q) :=
  ⟨fun pins s σ H Q I ⟨F, as, μ, e, S, E, P⟩ => (po_some h).run pins s σ H Q I ⟨F, as, μ, e, S, E, Po.bind P fun u μ1 F1 H1 as1 v X1 S1 R1 P1 => by
    cases u with
    | t t =>
      cases t <;> first | exact P1.elim | skip
      simp only [relW, RW, RT] at R1
      exact ⟨_, R1, Po.now P1 S1 rfl⟩
    | ref n => exact P1.elim
    | tup ws => exact P1.elim⟩⟩
def mSl (live : Bool) (a : ME) (lo hi : MO) : ME := fun e μ => (a e μ).bind fun u μ1 => (lo e μ1).bind fun l μ2 => (hi e μ2).bind fun h μ3 => fSl live u l h μ3
theorem xe_sl {live : Bool} {a : Expr} {lo hi : Option Expr} {ma : ME} {ml mh : MO} {pos p2 : Pos} (ha : PE X a (RdE D w Wx ma))
    (hl : PO X lo (fun σ H Q => ∃ F as μ e, Sim D w F H as μ ∧ ER D w F as e σ ∧ Po D w Wx σ F H as (fun _ _ a b => a = b) (ml e μ) Q))
    (hh : PO X hi (fun σ H Q => ∃ F as μ e, Sim D w F H as μ ∧ ER D w F as e σ ∧ Po D w Wx σ F H as (fun _ _ a b => a = b) (mh e μ) Q)) : PE X (.Subscript a (.Slice lo hi none p2) pos) (RdE D w Wx (mSl live ma ml mh)) :=
  PE.weak (pe_slice sl_all ha hl hh) fun σ H Q ⟨F, as, μ, e, S, E, P⟩ => ⟨F, as, μ, e, S, E, Po.bind P fun u μ1 F1 H1 as1 v X1 S1 R1 P1 =>
    ⟨F1, as1, μ1, e, S1, E.mono X1.fs X1.pre, Po.bind P1 fun l μ2 F2 H2 as2 l' X2 S2 e2 P2 => ⟨F2, as2, μ2, e, S2, (E.mono X1.fs X1.pre).mono X2.fs X2.pre, Po.bind P2 fun h μ3 F3 H3 as3 h' X3 S3 e3 P3 => by
      subst e2 e3
      exact sl_ok S3 (RW.mono X3.fs X3.pre _ _ (RW.mono X2.fs X2.pre _ _ R1)) P3⟩⟩⟩
/-! ### len -/
def fLen (us : List W) (μ : Mem) : R W := match us with
  | [.t (.str z)] => if z.length ≤ bigL then .ok (.t (.int z.length)) μ else .stuck
  | [u] => match getL u μ with
    | some ws => .ok (.t (.int ws.length)) μ
    | none => match getTP u with
      | some ws => .ok (.t (.int ws.length)) μ
      | none => .stuck
  | _ => .stuck
theorem rw1 {F : Hp} {as : List Addr} {u : W} {vs : List V} (r : RWs D w F as [u] vs) : ∃ v, vs = [v] ∧ RW D w F as u v := by
  simp only [RWs] at r
  obtain ⟨v, _, rfl, h, rfl⟩ := r
  exact ⟨v, rfl, h⟩
theorem rw2 {F : Hp} {as : List Addr} {u u' : W} {vs : List V} (r : RWs D w F as [u, u'] vs) : ∃ v v', vs = [v, v'] ∧ RW D w F as u v ∧ RW D w F as u' v' := by
  simp only [RWs] at r
  obtain ⟨v, _, rfl, h, v', _, rfl, h', rfl⟩ := r
  exact ⟨v, v', rfl, h, h'⟩
def rLenA (K : PySem.W.Frag) : List V → Hp → VK → Prop := fun xs H Q => (∃ p ys, xs = [.ref p] ∧ (SqL K H p ys ∨ SqT K H p ys) ∧ Q (.int ys.length) H) ∨ ∃ z, xs = [.str z] ∧ z.length ≤ sizeLine ∧ Q (.int z.length) H
theorem call_lenA : CallR X (.builtin "len") (rLenA X.K) := fun pins s σ H xs us Q I r h => by
  rcases h with h | h
  · exact call_len_seq pins s σ H xs us Q I r h
  · exact call_len_str pins s σ H xs us Q I r h
theorem len_ok : OpA D w Wx (rLenA K) fLen := by
  intro σ F H as μ us vs Q S r P
  unfold fLen at P
  split at P
  · rename_i z
    obtain ⟨v, rfl, h⟩ := rw1 r
    simp only [RW, RT] at h
    subst h
    split at P
    · rename_i hz
      exact .inr ⟨z, rfl, Nat.le_trans hz bigL_le, Po.now P S (by simp only [relW, RW, RT])⟩
    · exact P.elim
  · rename_i u _
    obtain ⟨v, rfl, h⟩ := rw1 r
    split at P
    · rename_i ws q
      obtain ⟨a, vs, rfl, e, r⟩ := getL_ok S q h
      exact .inl ⟨a, vs, rfl, .inl (.inl e), Po.now P S (by simp [relW, RW, RT, r.len])⟩
    · split at P
      · rename_i ws q
        obtain ⟨a, vs, rfl, _, e, r⟩ := getTP_ok S q h
        exact .inl ⟨a, vs, rfl, .inr (.inl e), Po.now P S (by simp [relW, RW, RT, r.len])⟩
      · exact P.elim
  · exact P.elim
end
end HQ
/-! HQ8: types, conversions, methods of texts. -/
namespace HQ
open PySem PySem.Spec PyProof.Rows L2

/-- a type: a built-in one, one of the program's classes -/
inductive TyC where
  | b (n : String)
  | c (c : Nat)
def tyT : T → Option TyC
  | .non => some (.b "NoneType")
  | .bl _ => some (.b "bool")
  | .int _ => some (.b "int")
  | .str _ => some (.b "str")
  | .tup _ => some (.b "tuple")
  | .ptup _ => some (.b "tuple")
  | .lst _ => some (.b "list")
  | .scr _ => some (.b "list")
  | .dic _ _ => some (.b "dict")
  | .ins c _ _ => some (.c c)
  | _ => none
def tyW (u : W) (μ : Mem) : Option TyC := match u with
  | .t t => tyT t
  | .tup _ => some (.b "tuple")
  | .ref n => match μ[n]? with
    | some (.lst _) => some (.b "list")
    | some (.dic _ _) => some (.b "dict")
    | some (.ins c _ _) => some (.c c)
    | _ => none
section
variable {X : Cx} {D : Ad} {w : World} {Wx : WX} {K : PySem.W.Frag}
def TyC.v (D : Ad) : TyC → Value
  | .b n => .type n
  | .c k => .ref (D.ca k)
/-- what isinstance asks of an own class -/
structure IsC (K : PySem.W.Frag) (C : Addr) : Prop where
  cl : Cls K C
  ha : PySem.W.findIn K (.ref C) "__class__" = some (some (.builtin "object.__class__"))
  hn : PySem.W.specialIn K (.builtin "object.__class__") "__get__" = some (some (.builtin "getset_descriptor.__get__"))
  tk : PySem.W.takesIn K (.builtin "object.__class__") = some true
  mr : PySem.W.mroIn K C (.type "object") = some true
/-- the table of types: kt a b: is a thing of the type a one of b -/
structure KT (K : PySem.W.Frag) (D : Ad) (kt : TyC → TyC → Option Bool) : Prop where
  one : ∀ a b r, kt a b = some r → PySem.W.kitOne K (a.v D) (b.v D) = some r
  own : ∀ c b r, kt (.c c) b = some r → IsC K (D.ca c)
/-- a value's type, dicts too -/
inductive TyA (K : PySem.W.Frag) (w : World) (H : Hp) : V → Value → Prop where
  | x {v : V} {t : Value} (h : TyX K H v t) : TyA K w H v t
  | dic {a : Addr} {es : List DE} (e : H a = some (dicO w a es)) : TyA K w H (.ref a) (.type "dict")
theorem dic_at {P : Program} {w' : World} {H : Hp} {h : Heap} {a : Addr} {es : List DE} (hok : HOk P w' H h) (e : H a = some (dicO w a es)) : DicP w a es h := (hok a _ e).1
theorem kit_A {pins : List (Addr × Obj)} {σ : Sg} {H : Hp} {s : Shared} {x : V} {u t : Value} (I : Inv X pins σ H s) (rx : RelV x u) (ty : TyA X.K w H x t) : ∃ P : Heap → Prop, PySem.W.KitX X.K u t P ∧ P s.heap ∧ u ≠ .builtin "__main__.__loader__#opaque" := by
  cases ty with
  | x h => exact kit_of I rx h
  | @dic a es e =>
    cases rx
    obtain ⟨_, _, o, xs, ep, h1, h2, _⟩ := dic_at I.hok e
    exact ⟨_, PySem.W.kitx_dict, ⟨o, h1, h2.1⟩, fun z => nomatch z⟩
def rIsiA (K : PySem.W.Frag) (w : World) : List V → Hp → VK → Prop := fun xs H Q =>
  (∃ (x c : V) (t u : Value) (b : Bool), xs = [x, c] ∧ ClsV c u ∧ TyA K w H x t ∧ PySem.W.kitOne K t u = some b ∧ Q (.bl b) H) ∨
  ∃ (x : V) (tp : Addr) (cs : List V) (t : Value) (us : List Value) (b : Bool), xs = [x, .ref tp] ∧ H tp = some (.tup cs) ∧ Paired ClsV cs us ∧ TyA K w H x t ∧ PySem.W.kitAny K t us = some b ∧ Q (.bl b) H
theorem call_isiA : CallR X (.builtin "isinstance") (rIsiA X.K w) := by
  intro pins s σ H xs us Q I r h
  rcases h with ⟨x, c, t, u, b, rfl, k, ty, e, q⟩ | ⟨x, tp, cs, t, ws, b, rfl, hT, k, ty, e, q⟩
  · obtain ⟨u1, u2, rfl, r1, r2⟩ := vals2 r
    have e2 := k.eq r2
    subst e2
    obtain ⟨P, Z, p, hx⟩ := kit_A I r1 ty
    exact PySem.W.kia_one Z I.kIn p e hx fun tk => ⟨.bl b, H, I.tok tk, rfl, q⟩
  · obtain ⟨u1, u2, rfl, r1, r2⟩ := vals2 r
    cases r2
    obtain ⟨P, Z, p, hx⟩ := kit_A I r1 ty
    have q0 := I.hok tp _ hT
    obtain ⟨_, its, rv, o, h1, h2, n, h3⟩ := q0
    have e3 := ClsV.all k rv
    subst e3
    obtain ⟨oc, od, dt, sl⟩ := o
    dsimp only at h2 h3
    subst h2 h3
    exact PySem.W.kia_tup Z I.kIn p h1 e hx fun tk => ⟨.bl b, H, I.tok tk, rfl, q⟩
theorem tyW_ok {kt : TyC → TyC → Option Bool} (hk : KT K D kt) {F H : Hp} {as : List Addr} {μ : Mem} {u : W} {v : V} {a b : TyC} {r : Bool} (S : Sim D w F H as μ) (h : tyW u μ = some a) (hb : kt a b = some r) (rr : RW D w F as u v) : TyA K w H v (a.v D) := by
  have own : ∀ {c a dx fs}, kt (.c c) b = some r → H a = some (.ins (D.ca c) dx fs) → TyA K w H (.ref a) ((TyC.c c).v D) := fun {c a dx fs} q e => by
    obtain ⟨h1, h2, h3, h4, h5⟩ := hk.own c b r q
    exact .x (.base (.ins e h1 h2 h3 h4 h5))
  cases u with
  | t t =>
    cases t <;> simp only [tyW, tyT, Option.some.injEq, reduceCtorEq] at h <;> subst h <;> simp only [RW, RT] at rr
    case non => subst rr; exact .x (.base .non)
    case bl => subst rr; exact .x (.base (.bl _))
    case int => subst rr; exact .x (.base (.int _))
    case str => subst rr; exact .x (.base (.str _))
    case tup => obtain ⟨a, vs, rfl, e, _⟩ := rr; exact .x (.base (.tup (S.sub _ _ e)))
    case ptup => obtain ⟨a, o, vs, rfl, e, _⟩ := rr; exact .x (.fTuple (S.sub _ _ e))
    case lst => obtain ⟨a, vs, rfl, e, _⟩ := rr; exact .x (.base (.lst (S.sub _ _ e)))
    case scr =>
      obtain ⟨a, rfl, e⟩ := rr
      rcases e with e | ⟨o, e⟩
      · exact .x (.base (.lst (S.sub _ _ e)))
      · exact .x (.base (.frz (S.sub _ _ e)))
    case dic => obtain ⟨a, es, rfl, e, _⟩ := rr; exact .dic (S.sub _ _ e)
    case ins => obtain ⟨a, dx, fs, rfl, e, _⟩ := rr; exact own hb (S.sub _ _ e)
  | ref n =>
    simp only [RW] at rr
    obtain ⟨a, e, rfl⟩ := rr
    simp only [tyW] at h
    cases q : μ[n]? with
    | none => rw [q] at h; cases h
    | some o =>
      rw [q] at h
      have ob := S.obj n a o e q
      cases o <;> simp only [Option.some.injEq, reduceCtorEq] at h <;> subst h
      case lst => obtain ⟨vs, e1, _⟩ := ob; exact .x (.base (.lst e1))
      case dic => obtain ⟨es, e1, _⟩ := ob; exact .dic e1
      case ins => obtain ⟨dx, fs, e1, _⟩ := ob; exact own hb e1
  | tup ws =>
    simp only [tyW, Option.some.injEq] at h
    subst h
    simp only [RW] at rr
    obtain ⟨a, vs, rfl, e, _⟩ := rr
    exact .x (.base (.tup (S.sub _ _ e)))
def tyOf1 : T → Option TyC
  | .ty n => some (.b n)
  | .cls c => some (.c c)
  | _ => none
def isAny (kt : TyC → TyC → Option Bool) (a : TyC) : List T → Option Bool
  | [] => some false
  | t :: ts => match tyOf1 t with
    | some b => match kt a b with
      | some true => some true
      | some false => isAny kt a ts
      | none => none
    | none => none
def fIsi (kt : TyC → TyC → Option Bool) (us : List W) (μ : Mem) : R W := match us with
  | [u, .t (.tup (t :: ts))] => match tyW u μ with
    | some a => match tyOf1 t with
      | some b => match kt a b with
        | some true => if (ts.all fun t => (tyOf1 t).isSome) = true then .ok (.t (.bl true)) μ else .stuck
        | some false => match isAny kt a ts with
          | some r => if (ts.all fun t => (tyOf1 t).isSome) = true then .ok (.t (.bl r)) μ else .stuck
          | none => .stuck
        | none => .stuck
      | none => .stuck
    | none => .stuck
  | [u, .t t] => match tyW u μ, tyOf1 t with
    | some a, some b => match kt a b with
      | some r => .ok (.t (.bl r)) μ
      | none => .stuck
    | _, _ => .stuck
  | _ => .stuck
theorem tyOf1_ok {F : Hp} {t : T} {b : TyC} {v : V} (h : tyOf1 t = some b) (r : RT D w F t v) : ClsV v (b.v D) := by
  cases t <;> simp only [tyOf1, Option.some.injEq, reduceCtorEq] at h <;> subst h <;> simp only [RT] at r <;> subst r
  · exact .ty _
  · exact .own _
theorem tyOfs_ok {F : Hp} : ∀ {ts : List T} {vs : List V}, (ts.all fun t => (tyOf1 t).isSome) = true → RTs D w F ts vs → ∃ bs : List TyC, ts.map tyOf1 = bs.map some ∧ Paired ClsV vs (bs.map (TyC.v D))
  | [], vs, h, r => by simp only [RTs] at r; subst r; exact ⟨[], rfl, .nil⟩
  | t :: ts, vs, h, r => by
    simp only [RTs] at r
    obtain ⟨v, vs', rfl, r1, r2⟩ := r
    simp only [List.all_cons, Bool.and_eq_true] at h
    obtain ⟨b, hb⟩ := Option.isSome_iff_exists.mp h.1
    obtain ⟨bs, e, p⟩ := tyOfs_ok h.2 r2
    exact ⟨b :: bs, by simp [hb, e], .cons (tyOf1_ok hb r1) p⟩
theorem isAny_ok {kt : TyC → TyC → Option Bool} (hk : KT K D kt) {a : TyC} : ∀ {ts : List T} {bs : List TyC} {r : Bool}, ts.map tyOf1 = bs.map some → isAny kt a ts = some r → PySem.W.kitAny K (a.v D) (bs.map (TyC.v D)) = some r
  | [], bs, r, e, h => by
    cases bs with
    | nil => simp only [isAny, Option.some.injEq] at h; subst h; rfl
    | cons b bs => simp at e
  | t :: ts, bs, r, e, h => by
    cases bs with
    | nil => simp at e
    | cons b bs =>
      simp only [List.map_cons, List.cons.injEq] at e
      simp only [isAny, e.1] at h
      simp only [List.map_cons]
      split at h
      · rename_i q
        simp only [Option.some.injEq] at h; subst h
        exact kitAny_cons (hk.one _ _ _ q) (fun z => by cases z) fun _ => rfl
      · rename_i q
        exact kitAny_cons (hk.one _ _ _ q) (fun _ => isAny_ok hk e.2 h) fun z => by cases z
      · cases h
theorem isi_ok {kt : TyC → TyC → Option Bool} (hk : KT K D kt) : OpA D w Wx (rIsiA K w) (fIsi kt) := by
  intro σ F H as μ us vs Q S r P
  unfold fIsi at P
  split at P
  · rename_i u t ts
    obtain ⟨v, v', rfl, r1, r2⟩ := rw2 r
    simp only [RW, RT] at r2
    obtain ⟨tp, cs, rfl, e, r2⟩ := r2
    split at P
    · rename_i a qa
      split at P
      · rename_i b qb
        have fin : ∀ (r0 : Bool), kt a b = some r0 → (ts.all fun t => (tyOf1 t).isSome) = true → isAny kt a (t :: ts) = some r0 → Po D w Wx σ F H as (relW D w) (.ok (.t (.bl r0)) μ) Q → rIsiA K w [v, V.ref tp] H Q := fun r0 q h1 h2 P => by
          obtain ⟨bs, e1, e2⟩ := tyOfs_ok (ts := t :: ts) (by simp only [List.all_cons, qb, h1]; rfl) r2
          exact .inr ⟨v, tp, cs, a.v D, _, r0, rfl, S.sub _ _ e, e2, tyW_ok hk S qa q r1, isAny_ok hk e1 h2, Po.now P S (by simp only [relW, RW, RT])⟩
        split at P
        · rename_i q
          split at P
          · rename_i h1
            exact fin true q h1 (by simp only [isAny, qb, q]) P
          · exact P.elim
        · rename_i q
          split at P
          · rename_i r0 q2
            split at P
            · rename_i h1
              obtain ⟨bs, e1, e2⟩ := tyOfs_ok (ts := t :: ts) (by simp only [List.all_cons, qb, h1]; rfl) r2
              exact .inr ⟨v, tp, cs, a.v D, _, r0, rfl, S.sub _ _ e, e2, tyW_ok hk S qa q r1, isAny_ok hk e1 (by simp only [isAny, qb, q, q2]), Po.now P S (by simp only [relW, RW, RT])⟩
            · exact P.elim
          · exact P.elim
        · exact P.elim
      · exact P.elim
    · exact P.elim
  · rename_i u t _
    obtain ⟨v, v', rfl, r1, r2⟩ := rw2 r
    simp only [RW] at r2
    split at P
    · rename_i a b qa qb
      split at P
      · rename_i r0 q
        exact .inl ⟨v, v', _, _, r0, rfl, tyOf1_ok qb r2, tyW_ok hk S qa q r1, hk.one _ _ _ q, Po.now P S (by simp only [relW, RW, RT])⟩
      · exact P.elim
    · exact P.elim
  · exact P.elim
/-! ### max, min, int, str -/
def fMax (us : List W) (μ : Mem) : R W := match us with
  | [.t (.int i), .t (.int j)] => .ok (.t (.int (if j > i then j else i))) μ
  | _ => .stuck
def fMin (us : List W) (μ : Mem) : R W := match us with
  | [.t (.int i), .t (.int j)] => .ok (.t (.int (if j < i then j else i))) μ
  | _ => .stuck
theorem max_ok : OpA D w Wx (fun xs H Q => ∃ i j, xs = [.int i, .int j] ∧ Q (.int (if j > i then j else i)) H) fMax := by
  intro σ F H as μ us vs Q S r P
  unfold fMax at P
  split at P
  · obtain ⟨v, v', rfl, r1, r2⟩ := rw2 r
    simp only [RW, RT] at r1 r2
    subst r1 r2
    exact ⟨_, _, rfl, Po.now P S (by simp only [relW, RW, RT])⟩
  · exact P.elim
theorem min_ok : OpA D w Wx (fun xs H Q => ∃ i j, xs = [.int i, .int j] ∧ Q (.int (if j < i then j else i)) H) fMin := by
  intro σ F H as μ us vs Q S r P
  unfold fMin at P
  split at P
  · obtain ⟨v, v', rfl, r1, r2⟩ := rw2 r
    simp only [RW, RT] at r1 r2
    subst r1 r2
    exact ⟨_, _, rfl, Po.now P S (by simp only [relW, RW, RT])⟩
  · exact P.elim
def fInt (us : List W) (μ : Mem) : R W := match us with
  | [.t (.int i)] => .ok (.t (.int i)) μ
  | [.t (.bl b)] => .ok (.t (.int (if b = true then 1 else 0))) μ
  | [.t (.str x)] => match PySem.intText? x with
    | some n => if x.length ≤ 640 then .ok (.t (.int n)) μ else .stuck
    | none => .stuck
  | _ => .stuck
def rIntA : List V → Hp → VK → Prop := fun xs H Q => ((∃ i, xs = [.int i] ∧ Q (.int i) H) ∨ ∃ k, xs = [.bl k] ∧ Q (.int (if k then 1 else 0)) H) ∨ ∃ a n, xs = [.str a] ∧ PySem.intText? a = some n ∧ a.length ≤ 640 ∧ Q (.int n) H
theorem call_intA : CallR X (.type "int") rIntA := fun pins s σ H xs us Q I r h => by
  rcases h with h | h
  · exact call_int1 pins s σ H xs us Q I r h
  · exact call_int_str pins s σ H xs us Q I r h
theorem int_ok : OpA D w Wx rIntA fInt := by
  intro σ F H as μ us vs Q S r P
  unfold fInt at P
  split at P
  · obtain ⟨v, rfl, h⟩ := rw1 r
    simp only [RW, RT] at h
    subst h
    exact .inl (.inl ⟨_, rfl, Po.now P S (by simp only [relW, RW, RT])⟩)
  · obtain ⟨v, rfl, h⟩ := rw1 r
    simp only [RW, RT] at h
    subst h
    exact .inl (.inr ⟨_, rfl, Po.now P S (by simp only [relW, RW, RT])⟩)
  · obtain ⟨v, rfl, h⟩ := rw1 r
    simp only [RW, RT] at h
    subst h
    split at P
    · rename_i n q
      split at P
      · rename_i hl
        exact .inr ⟨_, n, rfl, q, hl, Po.now P S (by simp only [relW, RW, RT])⟩
      · exact P.elim
    · exact P.elim
  · exact P.elim
def fStr (us : List W) (μ : Mem) : R W := match us with
  | [.t (.int i)] => if i.natAbs.log2 < 1920 then .ok (.t (.str (toString i))) μ else .stuck
  | _ => .stuck
theorem str_ok : OpA D w Wx (fun xs H Q => ∃ i, xs = [.int i] ∧ i.natAbs.log2 < 1920 ∧ Q (.str (toString i)) H) fStr := by
  intro σ F H as μ us vs Q S r P
  unfold fStr at P
  split at P
  · obtain ⟨v, rfl, h⟩ := rw1 r
    simp only [RW, RT] at h
    subst h
    split at P
    · rename_i hl
      exact ⟨_, rfl, hl, Po.now P S (by simp only [relW, RW, RT])⟩
    · exact P.elim
  · exact P.elim
/-! ### list(..), tuple(..) -/
def fList (live : Bool) (us : List W) (μ : Mem) : R W := match us with
  | [u] => match getL u μ with
    | some ws => mkL live ws μ
    | none => match getTP u with
      | some ws => mkL live ws μ
      | none => .stuck
  | _ => .stuck
theorem list_ok {live : Bool} : OpA D w Wx (fun xs H Q => ∃ p ys, xs = [.ref p] ∧ (SqL K H p ys ∨ SqT K H p ys) ∧ ∀ l, H l = none → Q (.ref l) (upd H l (.lst ys))) (fList live) := by
  intro σ F H as μ us vs Q S r P
  unfold fList at P
  split at P
  · obtain ⟨v, rfl, h⟩ := rw1 r
    split at P
    · rename_i ws q
      obtain ⟨a, vs, rfl, e, r⟩ := getL_ok S q h
      exact ⟨a, vs, rfl, .inl (.inl e), fun p hp => Po.lst P S r hp⟩
    · split at P
      · rename_i ws q
        obtain ⟨a, vs, rfl, _, e, r⟩ := getTP_ok S q h
        exact ⟨a, vs, rfl, .inr (.inl e), fun p hp => Po.lst P S r hp⟩
      · exact P.elim
  · exact P.elim
/-- a plain tuple of these -/
def mkPT (ws : List W) : W := match toTs ws with
  | some ts => .t (.ptup ts)
  | none => .tup ws
/-- tuple(x) of a list: a new plain one; of a tuple: itself -/
def fTuple (us : List W) (μ : Mem) : R W := match us with
  | [u] => match getL u μ with
    | some ws => .ok (mkPT ws) μ
    | none => match getTP u with
      | some _ => .ok u μ
      | none => .stuck
  | _ => .stuck
theorem call_tupP : CallR X (.type "tuple") (fun xs H Q => ∃ p ys, xs = [.ref p] ∧ ((SqL X.K H p ys ∧ ((∀ l, H l = none → Q (.ref l) (upd H l (.tup ys))) ∨ ∀ l o, H l = none → o.dict = none → Q (.ref l) (upd H l (.frz o (.tup ys))))) ∨ (SqT X.K H p ys ∧ Q (.ref p) H))) := by
  intro pins s σ H xs us Q I r h
  obtain ⟨p, ys, rfl, h⟩ := h
  obtain ⟨u, rfl, rx⟩ := vals1 r
  cases rx
  rcases h with ⟨hq, q⟩ | ⟨hq, q⟩
  · obtain ⟨its, r', pl, hz⟩ := I.list hq
    have hlen := r'.length
    refine call_tuple_list pl.isList (fun h' kp => ?_) (by simp only [List.size_toArray] <;> omega)
    have I1 : Inv X pins σ H { s with heap := h' } := I.kept (t' := s.toks) kp
    rcases q with q | q
    · have I2 : Inv X pins σ (upd H h'.objs.size (.tup ys)) { s with heap := h'.push { cls := .type "tuple", data := .seq its.toArray } } :=
        I1.laid (t' := s.toks) (fun b o e => Heap.get?_push_of_some _ e) (Nat.le_refl _) (show ObjOk X.prog X.w _ _ _ (.tup ys) from ⟨hz, its, r', IsTup.new _ _⟩)
      exact ⟨.ref h'.objs.size, _, I2, rfl, q _ (I1.hok.fresh (Nat.le_refl _))⟩
    · have I2 : Inv X pins σ (upd H h'.objs.size (.frz { cls := .type "tuple", data := .seq its.toArray } (.tup ys))) { s with heap := h'.push { cls := .type "tuple", data := .seq its.toArray } } :=
        I1.laid (t' := s.toks) (fun b o e => Heap.get?_push_of_some _ e) (Nat.le_refl _) (show ObjOk X.prog X.w _ _ _ (.frz _ (.tup ys)) from ⟨Heap.get?_push_size _ rfl, hz, its, r', IsTup.new _ _⟩)
      exact ⟨.ref h'.objs.size, _, I2, rfl, q _ _ (I1.hok.fresh (Nat.le_refl _)) rfl⟩
  · obtain ⟨its, r', pl, hz⟩ := I.tuple hq
    exact call_tuple_same pl ⟨.ref p, H, I, rfl, q⟩
theorem tuple_ok : OpA D w Wx (fun xs H Q => ∃ p ys, xs = [.ref p] ∧ ((SqL K H p ys ∧ ((∀ l, H l = none → Q (.ref l) (upd H l (.tup ys))) ∨ ∀ l o, H l = none → o.dict = none → Q (.ref l) (upd H l (.frz o (.tup ys))))) ∨ (SqT K H p ys ∧ Q (.ref p) H))) fTuple := by
  intro σ F H as μ us vs Q S r P
  unfold fTuple at P
  split at P
  · obtain ⟨v, rfl, h⟩ := rw1 r
    split at P
    · rename_i ws q
      obtain ⟨a, vs, rfl, e, r⟩ := getL_ok S q h
      refine ⟨a, vs, rfl, .inl ⟨.inl e, ?_⟩⟩
      unfold mkPT at P
      cases q2 : toTs ws with
      | none =>
        rw [q2] at P
        refine .inl fun p hp => ?_
        obtain ⟨S1, X1⟩ := S.newF (.tup vs) hp
        refine P _ _ _ _ X1 S1 ?_
        simp only [relW, RW]
        exact ⟨p, vs, rfl, upd_same, RWs.mono X1.fs X1.pre ws vs r⟩
      | some ts =>
        rw [q2] at P
        refine .inr fun p o hp ho => ?_
        obtain ⟨S1, X1⟩ := S.newF (.frz o (.tup vs)) hp
        refine P _ _ _ _ X1 S1 ?_
        have r1 := RWs.mono X1.fs X1.pre ws vs r
        rw [toTs_eq q2] at r1
        simp only [relW, RW, RT]
        exact ⟨p, o, vs, rfl, upd_same, ho, r1.toT⟩
    · split at P
      · rename_i ws q
        obtain ⟨a, vs, rfl, _, e, r⟩ := getTP_ok S q h
        exact ⟨a, vs, rfl, .inr ⟨.inl e, Po.now P S h⟩⟩
      · exact P.elim
  · exact P.elim
/-! ### methods of texts -/
def mM1 (f : Str → W → Mem → R W) (mo me : ME) : ME := fun e μ => (mo e μ).bind fun u μ1 => match u with
  | .t (.str a) => (me e μ1).bind fun v μ2 => f a v μ2
  | _ => .stuck
def OpS (D : Ad) (w : World) (Wx : WX) (r : V → List V → Hp → VK → Prop) (f : Str → W → Mem → R W) : Prop :=
  ∀ σ F H as μ a u v (Q : VK), Sim D w F H as μ → RW D w F as u v → Po D w Wx σ F H as (relW D w) (f a u μ) Q → r (.str a) [v] H Q
theorem xe_m1 {id : String} {name : Str} {apos pos : Pos} {o e : Expr} {mo me : ME} {r : V → List V → Hp → VK → Prop} {f : Str → W → Mem → R W} (slot : Slot "str" name id) (ty : typeOf (.builtin id) = pure (.type "method_descriptor")) (rule : MtR X id r) (hf : OpS D w Wx r f)
    (ho : PE X o (RdE D w Wx mo)) (he : PE X e (RdE D w Wx me)) (hs : starEach [e] X.env = [(false, eval e X.env)]) (hbase : attributeBase o name X.env (eval o X.env) = eval o X.env) (hline : (apos.endLine == pos.line) = true) :
    PE X (.Call (.Attribute o name apos) [e] [] pos) (RdE D w Wx (mM1 f mo me)) :=
  PE.weak (pe_m1 slot ty rule ho he hs hbase hline) fun σ H Q ⟨F, as, μ, e, S, E, P⟩ => ⟨F, as, μ, e, S, E, Po.bind P fun u μ1 F1 H1 as1 v X1 S1 R1 P1 => by
    cases u with
    | t t =>
      cases t <;> first | exact P1.elim | skip
      simp only [relW, RW, RT] at R1
      subst R1
      exact ⟨⟨_, rfl⟩, F1, as1, μ1, e, S1, E.mono X1.fs X1.pre, Po.bind P1 fun u' μ2 F2 H2 as2 v' X2 S2 R2 P2 => hf σ F2 H2 as2 μ2 _ u' v' Q S2 R2 P2⟩
    | ref n => exact P1.elim
    | tup ws => exact P1.elim⟩
/-- the texts of a list -/
def strsW : List W → Option (List Str)
  | [] => some []
  | .t (.str x) :: us => (strsW us).map (x :: ·)
  | _ :: _ => none
theorem strsW_ok {F : Hp} {as : List Addr} : ∀ {us : List W} {ys : List Str} {vs : List V}, strsW us = some ys → RWs D w F as us vs → vs = ys.map V.str
  | [], ys, vs, h, r => by
    simp only [strsW, Option.some.injEq] at h; subst h
    simpa only [RWs, List.map_nil] using r
  | u :: us, ys, vs, h, r => by
    cases u with
    | t t =>
      cases t <;> simp only [strsW, reduceCtorEq] at h
      rename_i x
      cases q : strsW us with
      | none => rw [q] at h; simp at h
      | some zs =>
        rw [q] at h
        simp only [Option.map_some, Option.some.injEq] at h; subst h
        simp only [RWs, RW, RT] at r
        obtain ⟨v, vs', rfl, rfl, r⟩ := r
        simp [strsW_ok q r]
    | ref n => simp [strsW] at h
    | tup ws => simp [strsW] at h
def fJoin (a : Str) (u : W) (μ : Mem) : R W := match (match getL u μ with
    | some ws => some ws
    | none => getTP u) with
  | some ws => match strsW ws with
    | some ys => if (ys.map (·.length)).sum + ys.length * a.length ≤ 16777216 then .ok (.t (.str (Txt.join a ys))) μ else .stuck
    | none => .stuck
  | none => .stuck
theorem join_ok : OpS D w Wx (fun x xs H Q => ∃ a p, ∃ ys : List Str, x = .str a ∧ xs = [.ref p] ∧ (SqL K H p (ys.map V.str) ∨ SqT K H p (ys.map V.str)) ∧
    (ys.map (·.length)).sum + ys.length * a.length ≤ 16777216 ∧ Q (.str (Txt.join a ys)) H) fJoin := by
  intro σ F H as μ a u v Q S r P
  unfold fJoin at P
  split at P
  · rename_i ws q
    split at P
    · rename_i ys qs
      split at P
      · rename_i hl
        have P' := Po.now P S (v := .str (Txt.join a ys)) (by simp only [relW, RW, RT])
        split at q
        · rename_i ws' q1
          cases q
          obtain ⟨p, vs, rfl, e, r⟩ := getL_ok S q1 r
          rw [strsW_ok qs r] at e
          exact ⟨a, p, ys, rfl, rfl, .inl (.inl e), hl, P'⟩
        · obtain ⟨p, vs, rfl, _, e, r⟩ := getTP_ok S q r
          rw [strsW_ok qs r] at e
          exact ⟨a, p, ys, rfl, rfl, .inr (.inl e), hl, P'⟩
      · exact P.elim
    · exact P.elim
  · exact P.elim
def fFind (a : Str) (u : W) (μ : Mem) : R W := match u with
  | .t (.str b) => .ok (.t (.int (Txt.find a b))) μ
  | _ => .stuck
theorem find_ok : OpS D w Wx (fun x xs H Q => ∃ a b, x = .str a ∧ xs = [.str b] ∧ Q (.int (Txt.find a b)) H) fFind := by
  intro σ F H as μ a u v Q S r P
  unfold fFind at P
  split at P
  · simp only [RW, RT] at r
    subst r
    exact ⟨a, _, rfl, rfl, Po.now P S (by simp only [relW, RW, RT])⟩
  · exact P.elim
end
end HQ
/-! HQ9: defs and their calls. -/
namespace HQ
open PySem PySem.Spec PyProof.Rows L2

/-! ### leaving a def: what it made and nobody holds is forgotten -/
mutual
def cleanW (n : Nat) : W → Bool
  | .t _ => true
  | .ref k => decide (k < n)
  | .tup ws => cleanWs n ws
def cleanWs (n : Nat) : List W → Bool
  | [] => true
  | u :: us => cleanW n u && cleanWs n us
end
def cleanO (n : Nat) : O → Bool
  | .lst ws => cleanWs n ws
  | .dic _ ws => cleanWs n ws
  | .ins _ _ ws => cleanWs n ws
  | .clo _ _ => true
  | .dead => true
def fin (n : Nat) (u : W) (μ : Mem) : R W :=
  if μ.length ≤ n then .ok u μ
  else if ((μ.take n).all (cleanO n)) = true then
    if cleanW n u = true then .ok u (μ.take n)
    else match u with
      | .ref k => match μ[k]? with
        | some o => if n ≤ k ∧ cleanO n o = true then .ok (.ref n) (μ.take n ++ [o]) else .ok u μ
        | none => .ok u μ
      | _ => .ok u μ
  else .ok u μ
section
variable {D : Ad} {w : World} {F : Hp} {as : List Addr}
mutual
theorem RW.clean (n : Nat) : ∀ (u : W) (v : V), cleanW n u = true → RW D w F as u v → RW D w F (as.take n) u v
  | .t t, v, h, r => by simpa only [RW] using r
  | .ref k, v, h, r => by
    simp only [cleanW, decide_eq_true_eq] at h
    simp only [RW] at r ⊢
    obtain ⟨a, e, q⟩ := r
    exact ⟨a, by rw [List.getElem?_take_of_lt h]; exact e, q⟩
  | .tup ws, v, h, r => by
    simp only [cleanW] at h
    simp only [RW] at r ⊢
    obtain ⟨a, vs, e, q, r⟩ := r
    exact ⟨a, vs, e, q, RWs.clean n ws vs h r⟩
theorem RWs.clean (n : Nat) : ∀ (us : List W) (vs : List V), cleanWs n us = true → RWs D w F as us vs → RWs D w F (as.take n) us vs
  | [], vs, h, r => by simpa only [RWs] using r
  | u :: us, vs, h, r => by
    simp only [cleanWs, Bool.and_eq_true] at h
    simp only [RWs] at r ⊢
    obtain ⟨v, vs', e, r1, r2⟩ := r
    exact ⟨v, vs', e, RW.clean n u v h.1 r1, RWs.clean n us vs' h.2 r2⟩
end
theorem RO.clean (n : Nat) {a : Addr} {o : Option HO} {x : O} (h : cleanO n x = true) (r : RO D w F as a o x) : RO D w F (as.take n) a o x := by
  cases x with
  | lst ws =>
    obtain ⟨vs, e, r⟩ := r
    exact ⟨vs, e, RWs.clean n ws vs h r⟩
  | dic ks ws =>
    obtain ⟨es, e, r1, r2, r3⟩ := r
    exact ⟨es, e, r1, RWs.clean n ws _ h r2, r3⟩
  | ins c ns ws =>
    obtain ⟨dx, fs, e, r1, r2⟩ := r
    exact ⟨dx, fs, e, r1, RWs.clean n ws _ h r2⟩
  | clo i ts => exact r
  | dead => trivial
theorem Sim.take {H : Hp} {μ : Mem} (S : Sim D w F H as μ) (n : Nat) (h : (μ.take n).all (cleanO n) = true) : Sim D w F H (as.take n) (μ.take n) := by
  have lt : ∀ {α : Type} {l : List α} {k : Nat} {a : α}, (l.take n)[k]? = some a → k < n ∧ l[k]? = some a := fun {α l k a} q => by
    have hk := (List.getElem?_eq_some_iff.mp q).1
    rw [List.length_take] at hk
    have h1 : k < n := by omega
    rw [List.getElem?_take_of_lt h1] at q
    exact ⟨h1, q⟩
  refine ⟨S.sub, by simp [S.len], S.nd.sublist (List.take_sublist _ _), fun a ha => S.there a (List.mem_of_mem_take ha), fun k a o h1 h2 => S.out k a o (lt h1).2 (lt h2).2, fun k a o h1 h2 => ?_, S.tb.keep (Same.refl _) (fun b ps _ e => e) fun b hb => .inl (List.mem_of_mem_take hb)⟩
  exact RO.clean n (List.all_eq_true.mp h o (List.mem_of_getElem? h2)) (S.obj k a o (lt h1).2 (lt h2).2)
end
section
variable {D : Ad} {w : World}
/-- what follows a call -/
def PoC (D : Ad) (w : World) (F H : Hp) (as : List Addr) (r : R W) (Q : VK) (E : XK) : Prop := match r with
  | .ok u μ => ∀ F' H' as' v, Ext F H as F' H' as' → Sim D w F' H' as' μ → RW D w F' as' u v → Q v H'
  | .exc x μ => ∀ F' H' as' d, Ext F H as F' H' as' → Sim D w F' H' as' μ → XR D w F' H' as' x d → E (.ref (D.ca x.c)) d H'
  | .stuck => False
theorem PoC.fin {F H F' H' : Hp} {as as' : List Addr} {μ : Mem} {u : W} {v : V} {Q : VK} {E : XK} (h : PoC D w F H as (fin as.length u μ) Q E) (X : Ext F H as F' H' as') (S : Sim D w F' H' as' μ) (r : RW D w F' as' u v) : Q v H' := by
  have all : PoC D w F H as (.ok u μ) Q E → Q v H' := fun h => h F' H' as' v X S r
  obtain ⟨z, e, hz⟩ := X.more
  have et : as'.take as.length = as := by rw [e]; simp
  unfold HQ.fin at h
  split at h
  · exact all h
  · split at h
    · rename_i hcl
      have S2 := S.take as.length hcl
      rw [et] at S2
      have X2 : Ext F H as F' H' as := ⟨X.fs, ⟨[], by simp, by simp⟩, X.keep, X.newF⟩
      split at h
      · rename_i hu
        have r2 := RW.clean as.length u v hu r
        rw [et] at r2
        exact h F' H' as v X2 S2 r2
      · split at h
        · rename_i k _
          split at h
          · rename_i o qo
            split at h
            · rename_i hk
              simp only [RW] at r
              obtain ⟨a, ea, rfl⟩ := r
              have ha : a ∉ as := fun hm => by
                obtain ⟨j, hj⟩ := List.mem_iff_getElem?.mp hm
                have hj2 : as'[j]? = some a := by
                  rw [e, List.getElem?_append_left (List.getElem?_eq_some_iff.mp hj).1]; exact hj
                have := ix_nd S.nd hj2 ea
                have := (List.getElem?_eq_some_iff.mp hj).1
                omega
              have ob := RO.clean as.length hk.2 (S.obj k a o ea qo)
              rw [et] at ob
              have hH : H a = none := by
                have hm : a ∈ as' := List.mem_of_getElem? ea
                rw [e] at hm
                rcases List.mem_append.mp hm with hm | hm
                · exact absurd hm ha
                · exact hz a hm
              refine h F' H' (as ++ [a]) (.ref a) ⟨X.fs, ⟨[a], rfl, by simpa using hH⟩, X.keep, X.newF⟩ ?_ ?_
              · have ix : ∀ (j : Nat) b y, (as ++ [a])[j]? = some b → (μ.take as.length ++ [o])[j]? = some y → (as[j]? = some b ∧ (μ.take as.length)[j]? = some y) ∨ (b = a ∧ y = o) := fun j b y h1 h2 => by
                  have ll : (μ.take as.length).length = as.length := S2.len.symm
                  by_cases hj : j < as.length
                  · rw [List.getElem?_append_left hj] at h1
                    rw [List.getElem?_append_left (by omega)] at h2
                    exact .inl ⟨h1, h2⟩
                  · have := (List.getElem?_eq_some_iff.mp h1).1
                    rw [List.length_append, List.length_singleton] at this
                    have e : j = as.length := by omega
                    subst e
                    rw [List.getElem?_append_right (Nat.le_refl _)] at h1
                    rw [List.getElem?_append_right (by omega)] at h2
                    simp [ll] at h1 h2
                    exact .inr ⟨h1.symm, h2.symm⟩
                refine ⟨S2.sub, by have e9 := S2.len; simp only [List.length_append, List.length_singleton]; omega, ?_, fun b hb => ?_, fun j b y h1 h2 h3 => ?_, fun j b y h1 h2 => ?_, S.tb.keep (Same.refl _) (fun b ps _ e => e) fun b hb => .inl ?_⟩
                · rw [List.nodup_append]
                  refine ⟨S2.nd, by simp, fun b hb c hc q => ha ?_⟩
                  have e0 : c = a := by simpa using hc
                  rw [← e0, ← q]; exact hb
                · rcases List.mem_append.mp hb with hb | hb
                  · exact S2.there b hb
                  · simp at hb; subst hb; exact S.there _ (List.mem_of_getElem? ea)
                · rcases ix j b y h1 h2 with ⟨q1, q2⟩ | ⟨rfl, rfl⟩
                  · exact S2.out j b y q1 q2 h3
                  · exact S.out k _ _ ea qo h3
                · rcases ix j b y h1 h2 with ⟨q1, q2⟩ | ⟨rfl, rfl⟩
                  · exact RO.mono (Same.refl _) ⟨[_], rfl⟩ (S2.obj j b y q1 q2)
                  · exact RO.mono (Same.refl _) ⟨[_], rfl⟩ ob
                · rcases List.mem_append.mp hb with hb | hb
                  · rw [e]; exact List.mem_append_left _ hb
                  · simp at hb; subst hb; exact List.mem_of_getElem? ea
              · simp only [RW]
                exact ⟨a, by simp, rfl⟩
            · exact all h
          · exact all h
        · exact all h
    · exact all h
end

/-- a def's meaning: of its arguments -/
abbrev MF := List W → Mem → R W
def runF (N n : Nat) (b : MS) : MF := fun us μ => if us.length = n then (match b (us.map some ++ List.replicate (N - n) none) μ with
  | .nx _ μ' => fin μ.length (.t .non) μ'
  | .rt u μ' => fin μ.length u μ'
  | .exc x _ μ' => .exc x μ'
  | _ => .stuck) else .stuck
/-- a def's promise -/
def spF (D : Ad) (w : World) (n : Nat) (f : MF) : Sp := fun vs H Q E => ∃ F as μ us, Sim D w F H as μ ∧ RWs D w F as us vs ∧ us.length = n ∧ PoC D w F H as (f us μ) Q E

section
variable {X : Cx} {D : Ad} {w : World} {Wx : WX}
/-- the start of a def's frame -/
theorem er_start {F : Hp} {as : List Addr} {us : List W} {vs : List V} {N : List Str} {n : Nat} (r : RWs D w F as us vs) (hn : us.length = n) (hN : n ≤ N.length) : ER D w F as (us.map some ++ List.replicate (N.length - n) none) (L2.start N vs) := by
  unfold L2.start
  have hl := r.len
  refine ⟨by simp [← hl, hn], fun i u h => ?_⟩
  by_cases hi : i < us.length
  · rw [List.getElem?_append_left (by simpa using hi), List.getElem?_map] at h
    cases q : us[i]? with
    | none => rw [q] at h; cases h
    | some x =>
      rw [q] at h
      simp only [Option.map_some, Option.some.injEq] at h; subst h
      obtain ⟨v, e, rv⟩ := r.at_ q
      exact ⟨v, by rw [List.getElem?_append_left (by simp; omega), List.getElem?_map, e]; rfl, rv⟩
  · rw [List.getElem?_append_right (by simpa using hi), List.getElem?_replicate] at h
    split at h <;> cases h
theorem fn_ok {P : Program} {K : PySem.W.Frag} {mg : Str → Option Value} {base : Heap} {x qual : Str} {params : Arguments} {body : List Stmt} {scope : Scope} {dvs : List V} {kws : List (Str × V)} {f : Addr} {fd : FuncData} {N ps : List Str} {k n : Nat} {b : MS}
    (FD : FunD K x qual params body scope dvs kws f fd) (S : FnScope N ps scope) (hn : ps.length = n) (hN : n ≤ N.length)
    (hb : ∀ (cdv : Value) (A : Around) (outer : List Env) (s : Shared) (H : Hp) (E : XK), Room k (A.deeper (envOfC qual scope s.heap.objs.size f cdv)) →
      PSs (cxOf (L2.CX P w) P w K mg base N qual scope f cdv A outer s H E) body (RdS D w (fun cls d _ H => E cls d H) b)) :
    FnOk P w K mg base (L2.CX P w) (k + 1) f fd ps (spF D w n (runF N.length n b)) := by
  refine FD.ok S (fun vs H Q E ⟨F, as, μ, us, _, r, e, _⟩ => by rw [← r.len, e, hn]) fun cdv A outer s H vs Q E hr ⟨F, as, μ, us, Si, r, e, P⟩ => ⟨_, hb cdv A outer s H E hr, F, as, μ, _, Si, er_start r e hN, ?_⟩
  unfold runF at P
  rw [if_pos e] at P
  have el : μ.length = as.length := Si.len.symm
  cases q : b (us.map some ++ List.replicate (N.length - n) none) μ with
  | nx e1 μ1 =>
    simp only [q, el] at P
    exact fun F' H' as' σ' X S E => P.fin X S (by simp only [RW, RT])
  | rt u μ1 =>
    simp only [q, el] at P
    exact fun F' H' as' v X S r => P.fin X S r
  | exc x e1 μ1 =>
    simp only [q] at P
    exact fun F' H' as' σ' d X S E r => P F' H' as' d X S r
  | ct e1 μ1 => simp only [q] at P; exact P.elim
  | bk e1 μ1 => simp only [q] at P; exact P.elim
  | stuck => simp only [q] at P; exact P.elim

/-! ### calls -/
/-- on data alone: nothing that lives is seen -/
def pureF (f : MF) : MF := fun us μ => match toTs us with
  | some _ => (match f us [] with
    | .ok (.t r) _ => .ok (.t r) μ
    | .exc x _ => (match toTs x.ws with
      | some _ => .exc x μ
      | none => .stuck)
    | _ => .stuck)
  | none => .stuck
theorem Sim.none {F H : Hp} {as : List Addr} {μ : Mem} (S : Sim D w F H as μ) : Sim D w F H [] [] :=
  ⟨S.sub, rfl, List.nodup_nil, fun a h => (by cases h), fun n a o h => by simp at h, fun n a o h => by simp at h, S.tb.keep (Same.refl _) (fun b ps _ e => e) fun b hb => (by cases hb)⟩
theorem ro_tbl {F : Hp} {as : List Addr} {a : Addr} {ps : Array Value} {x : O} (h : RO D w F as a (some (.tbl ps)) x) : x = .dead := by
  cases x with
  | lst ws => obtain ⟨vs, e, _⟩ := h; cases e
  | dic ks ws => obtain ⟨es, e, _⟩ := h; unfold dicO at e; cases e
  | ins c ns ws => obtain ⟨dx, fs, e, _⟩ := h; cases e
  | clo i ts => obtain ⟨cl, c, vs, e, _⟩ := h; exact absurd (Option.some.inj e).symm (NdefX.fnO_ne ps)
  | dead => rfl
theorem Sim.back {F H F' H' : Hp} {as as' : List Addr} {μ μ' : Mem} (S : Sim D w F H as μ) (X : Ext F H [] F' H' as') (S' : Sim D w F' H' as' μ') : Sim D w F' H' as μ ∧ Ext F H as F' H' as := by
  have kp : ∀ a o, H a = some o → KeepO (H' a) o := fun a o h => X.keep a o h (by simp)
  refine ⟨⟨S'.sub, S.len, S.nd, fun a ha => ?_, fun n a o h1 h2 h3 => ?_, fun n a o h1 h2 => ?_, ⟨S'.tb.1, fun b ob e hm => ?_, fun p hp => ⟨(S.tb.2.2 p hp).1, (S'.tb.2.2 p hp).2⟩⟩⟩, ⟨X.fs, ⟨[], by simp, by simp⟩, fun a o h _ => kp a o h, fun a h => ?_⟩⟩
  · cases q : H a with
    | none => exact absurd q (S.there a ha)
    | some o => exact (kp a o q).ne
  · cases q : F' a with
    | none => rfl
    | some z =>
      rcases X.newF a (by rw [q]; simp) with e | e | e
      · exact absurd (S.out n a o h1 h2 h3) e
      · exact absurd e (S.there a (List.mem_of_getElem? h1))
      · cases e
  · have r := RO.mono (as' := as) X.fs ⟨[], (List.append_nil as).symm⟩ (S.obj n a o h1 h2)
    cases q : H a with
    | none => exact absurd q (S.there a (List.mem_of_getElem? h1))
    | some z =>
      rw [q] at r
      rcases kp a z q with e | ⟨ps, ps', rfl, e⟩
      · rw [e]; exact r
      · have := ro_tbl r
        subst this
        exact True.intro
  · rcases X.newF b (by rw [e]; simp) with q | q | q
    · cases q2 : F b with
      | none => exact q q2
      | some u =>
        rw [X.fs b u q2] at e
        cases e
        exact S.tb.2.1 b ob q2 hm
    · exact S.there b hm q
    · cases q
  · rcases X.newF a h with e | e | e
    · exact .inl e
    · exact .inr (.inl e)
    · cases e
theorem toTs_rw {F : Hp} {as as' : List Addr} {us : List W} {ts : List T} {vs : List V} (h : toTs us = some ts) (r : RWs D w F as us vs) : RWs D w F as' us vs := by
  have e := toTs_eq h
  subst e
  exact r.toT.toW
theorem spF_pure {F H : Hp} {as : List Addr} {μ : Mem} {us : List W} {vs : List V} {f : MF} {n : Nat} {Q : VK} {E : XK} (S : Sim D w F H as μ) (r : RWs D w F as us vs) (hn : us.length = n) (h : PoC D w F H as (pureF f us μ) Q E) : spF D w n f vs H Q E := by
  unfold pureF at h
  split at h
  · rename_i ts q
    refine ⟨F, [], [], us, S.none, toTs_rw q r, hn, ?_⟩
    split at h
    · rename_i t μ' q2
      rw [q2]
      intro F' H' as' v X S' r'
      obtain ⟨S2, X2⟩ := S.back X S'
      exact h F' H' as v X2 S2 (by simpa only [RW] using r')
    · rename_i x μ' q2
      rw [q2]
      split at h
      · rename_i xs q3
        intro F' H' as' d X S' r'
        obtain ⟨S2, X2⟩ := S.back X S'
        refine h F' H' as d X2 S2 ?_
        obtain ⟨fs, h1, h2, h3⟩ := r'
        refine ⟨fs, ?_, h2, toTs_rw q3 h3⟩
        exact h1
      · exact h.elim
    · exact h.elim
  · exact h.elim
end
end HQ
/-! HQA: calls, targets, what is walked, list comprehensions. -/
namespace HQ
open PySem PySem.Spec PyProof.Rows L2

section
variable {X : Cx} {D : Ad} {w : World} {Wx : WX}
/-! ### calls of defs -/
def callF (f : MF) (n : Nat) (dts : List T) (pu : Bool) (us : List W) (μ : Mem) : R W :=
  if (us ++ dts.map W.t).length = n then (if pu = true then pureF f (us ++ dts.map W.t) μ else f (us ++ dts.map W.t) μ) else .stuck
theorem Po.toC {σ : Sg} {F H : Hp} {as : List Addr} {r : R W} {Q : VK} (h : Po D w Wx σ F H as (relW D w) r Q) : PoC D w F H as r Q (WE Wx σ) := by
  cases r with
  | ok u μ => exact h
  | exc x μ => exact h
  | stuck => exact h
theorem callF_ok {σ : Sg} {F H : Hp} {as : List Addr} {μ : Mem} {us : List W} {vs dvs : List V} {f : MF} {n : Nat} {dts : List T} {pu : Bool} {Q : VK} (S : Sim D w F H as μ) (r : RWs D w F as us vs) (hd : ∀ F, RTs D w F dts dvs)
    (P : Po D w Wx σ F H as (relW D w) (callF f n dts pu us μ) Q) : spF D w n f (vs ++ dvs) H Q (WE Wx σ) := by
  unfold callF at P
  by_cases hl : (us ++ dts.map W.t).length = n
  · rw [if_pos hl] at P
    have r2 : RWs D w F as (us ++ dts.map W.t) (vs ++ dvs) := r.app (hd F).toW
    cases pu with
    | true => rw [if_pos rfl] at P; exact spF_pure S r2 hl P.toC
    | false => exact ⟨F, as, μ, _, S, r2, hl, P.toC⟩
  · rw [if_neg hl] at P; exact P.elim
theorem xe_call {k n : Nat} {fA : Addr} {fd : FuncData} {ps : List Str} {f : MF} {dts : List T} {dvs : List V} {ds : List Value} {pu : Bool} {x : Str} {p pos : Pos} {e : Expr} {es : List Expr} {ms : MA} (FO : FnOk X.prog X.w X.K X.mg X.base (L2.CX X.prog X.w) k fA fd ps (spF D w n f)) (hr : Room k X.A) (hg : Gl X x) (hm : X.mg x = some (.ref fA))
    (hk : PySem.W.keepIn X.K (.ref fA) = true) (hb : Binds X.K fd ps ds) (hd : Vals dvs ds) (hdt : ∀ F, RTs D w F dts dvs) (tk : Takes X Wx) (ha : PA X (e :: es) (RdA D w Wx ms)) (hdb : (x == ("__debug__" : Str)) = false) (he : starEach (e :: es) X.env = (false, eval e X.env) :: starEach es X.env) (hpl : (backTo pos (starEach es X.env)).any (·.1) = false) :
    PE X (.Call (.Name x p) (e :: es) [] pos) (RdE D w Wx (mA (callF f n dts pu) ms)) :=
  PE.weak (pe_callSD FO hr hg hm hk hb hd (fun σ => passAt tk σ) ha hdb he hpl) fun σ H Q ⟨F, as, μ, e, S, E, P⟩ => ⟨F, as, μ, e, S, E, Po.bind P fun us μ1 F1 H1 as1 vs X1 S1 R1 P1 => callF_ok S1 R1 hdt P1⟩

/-! ### targets -/
/-- slots, from the left -/
def setAll : List Nat → List W → En → Option En
  | [], [], e => some e
  | i :: is, u :: us, e => setAll is us (e.set i (some u))
  | _, _, _ => none
def gT (is : List Nat) : MG := fun u e _ => match getTP u with
  | some ws => setAll is ws e
  | none => none
/-- the library's reading of names -/
def gNames : List Nat → TGs
  | [] => gNil
  | i :: is => gCons (gName i) (gNames is)
theorem gNames_ok {F H : Hp} {as : List Addr} {Q : Sg → Hp → Prop} : ∀ {is : List Nat} {ws : List W} {vs : List V} {e e' : En} {σ : Sg}, ER D w F as e σ → RWs D w F as ws vs → setAll is ws e = some e' →
    (∀ σ', ER D w F as e' σ' → (∀ vs, (∀ i ∈ is, i ∈ vs) → wipe σ' vs = wipe σ vs) → Q σ' H) → gNames is vs σ H Q
  | [], [], vs, e, e', σ, E, r, h, k => by
    simp only [RWs] at r; subst r
    simp only [setAll, Option.some.injEq] at h; subst h
    exact ⟨rfl, k σ E fun _ _ => rfl⟩
  | i :: is, u :: ws, vs, e, e', σ, E, r, h, k => by
    simp only [RWs] at r
    obtain ⟨v, vs', rfl, r1, r2⟩ := r
    simp only [setAll] at h
    refine ⟨v, vs', rfl, ?_⟩
    refine gNames_ok (E.set i r1) r2 h fun σ' E' hw => k σ' E' fun ws hi => ?_
    rw [hw ws fun j hj => hi j (List.mem_cons_of_mem _ hj), wipe_set (hi i List.mem_cons_self)]
  | [], _ :: _, vs, e, e', σ, E, r, h, k => by simp [setAll] at h
  | _ :: _, [], vs, e, e', σ, E, r, h, k => by simp [setAll] at h
theorem setAll_len : ∀ {is : List Nat} {ws : List W} {e e' : En}, setAll is ws e = some e' → ws.length = is.length
  | [], [], _, _, _ => rfl
  | _ :: is, _ :: ws, _, _, h => by simp only [setAll] at h; simp [setAll_len h]
  | [], _ :: _, _, _, h => by simp [setAll] at h
  | _ :: _, [], _, _, h => by simp [setAll] at h
theorem xg_tup {es : List Expr} {kk : Nat} {is : List Nat} {pos : Pos} (hc : X.calm = true) (h : PGs X es (gNames is)) (hn : (assignEach es X.env).length = is.length) (hst : (assignEach es X.env).findIdx? (·.1) = none) : PG X (.Tuple es kk pos) (RdG D w is (gT is)) :=
  ⟨fun pins s σ H v u Q I r ⟨F, as, μ, e, u', S, E, R, e', he, k⟩ => (pg_tup hc h hn hst).run pins s σ H v u Q I r (by
    unfold gT at he
    split at he
    · rename_i ws q
      obtain ⟨a, vs, rfl, _, e1, r1⟩ := getTP_ok S q R
      exact ⟨a, vs, rfl, .inl e1, by rw [← r1.len]; exact setAll_len he, gNames_ok E r1 he k⟩
    · cases he)⟩

/-! ### what is walked -/
theorem Walks.of {J : It} {n : Nat} {G : Hp → Prop} {Y : Nat → Hp → V → Hp → Prop} (wk : Walk J n G Y) {gd : Mem → Prop} {ys : List W} {F0 : Hp} {as0 : List Addr} (hn : ys.length = n)
    (hG : ∀ F H as μ, Sim D w F H as μ → Same F0 F → (∃ r, as = as0 ++ r) → gd μ → G H)
    (hY : ∀ i F H as μ, Sim D w F H as μ → Same F0 F → (∃ r, as = as0 ++ r) → gd μ → ∀ y, ys[i]? = some y → ∀ x H', Y i H x H' → ∃ F', Sim D w F' H' as μ ∧ Ext F H as F' H' as ∧ RW D w F' as y x) : Walks D w J gd ys F0 as0 := fun i F H as μ S hs ha hg =>
  ⟨fun y hy => by
    have hi : i < n := by rw [← hn]; exact (List.getElem?_eq_some_iff.mp hy).1
    exact ⟨wk.1 i H hi (hG F H as μ S hs ha hg), fun x H' q => hY i F H as μ S hs ha hg y hy x H' (wk.3 i H x H' hi (hG F H as μ S hs ha hg) q)⟩, fun hi => by rw [← hi, hn]; exact wk.2 H (hG F H as μ S hs ha hg)⟩
def always (_ : Mem) : Prop := True
def mkWK (gd : Mem → Prop) (ys : List W) (μ : Mem) : R WK := if ys.length ≤ bigL then .ok ⟨gd, ys⟩ μ else .stuck
/-- a list, a tuple, a text -/
def kVal (u : W) (μ : Mem) : R WK := match u with
  | .t (.str z) => mkWK always (z.cps.toList.map fun c => .t (.str ⟨#[c]⟩)) μ
  | u => match getL u μ with
    | some ws => mkWK (fun μ => getL u μ = some ws) ws μ
    | none => match getTP u with
      | some ws => mkWK always ws μ
      | none => .stuck
def iVal (m : ME) : MI := fun e μ => (m e μ).bind kVal
theorem RdI.mk {σ : Sg} {H : Hp} {Rr : It → Hp → Prop} {F : Hp} {as : List Addr} {gd : Mem → Prop} {ys : List W} {μ : Mem} {J : It} (S : Sim D w F H as μ) (P : PoI D w Wx σ F H as (mkWK gd ys μ) Rr) (hw : Walks D w J gd ys F as) : Rr J H := by
  unfold mkWK at P
  by_cases q : ys.length ≤ bigL
  · rw [if_pos q] at P; exact P F H as J Ext.refl S hw
  · rw [if_neg q] at P; exact P.elim
theorem PI.weak {tg iter : Expr} {t t' : TI} (h : PI X tg iter t) (k : ∀ σ H R, t' σ H R → t σ H R) : PI X tg iter t' := ⟨fun pins s σ H R I q => h.run pins s σ H R I (k σ H R q)⟩
/-- one of several ways to walk, chosen by what the value is -/
theorem PI.ex {tg iter : Expr} {ι : Type} {t : ι → TI} (h : ∀ i, PI X tg iter (t i)) : PI X tg iter (fun σ H R => ∃ i, t i σ H R) := ⟨fun pins s σ H R I ⟨i, q⟩ => (h i).run pins s σ H R I q⟩
/-- what kind of thing is walked: 0 a list, 1 a tuple, 2 a text -/
def kdW (u : W) (μ : Mem) : Nat := match u with
  | .t (.str _) => 2
  | u => match getL u μ with
    | some _ => 0
    | none => 1
def ValW (K : PySem.W.Frag) (k : Nat) (v : V) (H : Hp) (Rr : It → Hp → Prop) : Prop := match k with
  | 0 => ∃ a, v = .ref a ∧ (∃ xs, SqL K H a xs) ∧ Rr (Itl K a) H
  | 1 => ∃ a, v = .ref a ∧ (∃ xs, SqT K H a xs) ∧ Rr (Itt K a) H
  | _ => ∃ x, v = .str x ∧ Rr (Its x) H
theorem walk_val {K : PySem.W.Frag} {σ : Sg} {H F : Hp} {as : List Addr} {μ : Mem} {Rr : It → Hp → Prop} {u : W} {v : V} (S : Sim D w F H as μ) (r : RW D w F as u v) (P : PoI D w Wx σ F H as (kVal u μ) Rr) : ValW K (kdW u μ) v H Rr := by
  have str : ∀ z : Str, u = .t (.str z) → ValW K (kdW u μ) v H Rr := fun z e => by
    subst e
    simp only [RW, RT] at r
    subst r
    refine ⟨z, rfl, RdI.mk S P (Walks.of walk_str (by simp) (fun _ _ _ _ _ _ _ _ => trivial) fun i F H as μ S _ _ _ y hy x H' q => ?_)⟩
    obtain ⟨rfl, c, hc, rfl⟩ := q
    refine ⟨F, S, Ext.refl, ?_⟩
    rw [List.getElem?_map, Array.getElem?_toList, hc] at hy
    simp only [Option.map_some, Option.some.injEq] at hy
    subst hy
    simp only [RW, RT]
  have oth : (∀ z : Str, u ≠ .t (.str z)) → ValW K (kdW u μ) v H Rr := fun hn => by
    have e1 : kVal u μ = (match getL u μ with
      | some ws => mkWK (fun μ => getL u μ = some ws) ws μ
      | none => match getTP u with
        | some ws => mkWK always ws μ
        | none => .stuck) := by
      unfold kVal
      split
      · exact absurd rfl (hn _)
      · rfl
    have e2 : kdW u μ = (match getL u μ with
      | some _ => 0
      | none => 1) := by
      unfold kdW
      split
      · exact absurd rfl (hn _)
      · rfl
    rw [e1] at P
    rw [e2]
    cases q : getL u μ with
    | some ws =>
      simp only [q] at P
      obtain ⟨a, vs, rfl, e, rr⟩ := getL_ok S q r
      refine ⟨a, rfl, ⟨vs, .inl e⟩, RdI.mk S P ?_⟩
      intro i F' H' as' μ' S' hs ha hg
      obtain ⟨a', vs', z1, z2, e3⟩ := getL_ok S' hg (RW.mono hs ha _ _ r)
      cases z1
      refine ⟨fun y hy => ?_, fun hi => ⟨vs', .inl z2, by rw [← e3.len, hi]; exact Nat.le_refl _⟩⟩
      obtain ⟨v', h1, h2⟩ := e3.at_ hy
      refine ⟨⟨vs', v', .inl z2, h1⟩, fun x H'' ⟨q1, q2⟩ => ?_⟩
      subst q1
      have h3 := q2 vs' (.inl z2)
      rw [h1] at h3
      cases h3
      exact ⟨F', S', Ext.refl, h2⟩
    | none =>
      simp only [q] at P
      cases q5 : getTP u with
      | none => simp only [q5] at P; exact P.elim
      | some ws =>
        simp only [q5] at P
        obtain ⟨a, vs, rfl, e, e', rr⟩ := getTP_ok S q5 r
        refine ⟨a, rfl, ⟨vs, .inl e'⟩, RdI.mk S P (Walks.of walk_tup rr.len (fun F' H' as' μ' S' hs _ _ => .inl (Rd.same S'.sub (Rd.same hs e))) fun i F' H' as' μ' S' hs ha _ y hy x H'' ⟨q1, q2⟩ => ?_)⟩
        subst q1
        obtain ⟨v', h1, h2⟩ := (RWs.mono hs ha _ _ rr).at_ hy
        rw [q2] at h1
        cases h1
        exact ⟨F', S', Ext.refl, h2⟩
  by_cases h : ∃ z, u = .t (.str z)
  · exact str h.choose h.choose_spec
  · exact oth fun z e => h ⟨z, e⟩
theorem xi_val {tg e : Expr} {m : ME} (he : PE X e (RdE D w Wx m)) : PI X tg e (RdI D w Wx (iVal m)) := by
  refine PI.weak (PI.ex (ι := Fin 3) (t := fun k => match k with
    | 0 => iList X.K (RdE D w Wx m)
    | 1 => iTup X.K (RdE D w Wx m)
    | 2 => iStr (RdE D w Wx m)) fun k => match k with
    | 0 => pi_list he
    | 1 => pi_tup he
    | 2 => pi_str he) fun σ H R ⟨F, as, μ, e, S, E, P⟩ => ?_
  unfold iVal at P
  have go : ∀ k : Nat, (∀ u μ1, m e μ = .ok u μ1 → kdW u μ1 = k) → RdE D w Wx m σ H fun v H1 => ValW X.K k v H1 R := fun k hk =>
    ⟨F, as, μ, e, S, E, by
      cases q : m e μ with
      | ok u μ1 =>
        rw [q] at P
        intro F1 H1 as1 v X1 S1 R1
        have h := walk_val (K := X.K) S1 R1 (PoI.from (r := kVal u μ1) P X1 S1.there)
        rw [hk u μ1 q] at h
        exact h
      | exc x μ1 => rw [q] at P; exact P
      | stuck => rw [q] at P; exact P⟩
  cases q : m e μ with
  | ok u μ1 =>
    have h3 : kdW u μ1 = 0 ∨ kdW u μ1 = 1 ∨ kdW u μ1 = 2 := by
      unfold kdW
      split
      · simp
      · split <;> simp
    rcases h3 with h | h | h
    · exact ⟨0, go 0 fun u' μ' e => by rw [q] at e; cases e; exact h⟩
    · exact ⟨1, go 1 fun u' μ' e => by rw [q] at e; cases e; exact h⟩
    · exact ⟨2, go 2 fun u' μ' e => by rw [q] at e; cases e; exact h⟩
  | exc x μ1 => exact ⟨0, go 0 fun u' μ' e => by rw [q] at e; cases e⟩
  | stuck => exact ⟨0, go 0 fun u' μ' e => by rw [q] at e; cases e⟩
/-! ### range -/
def rgW (lo hi : Int) (μ : Mem) : R WK := if -(2 ^ 62) ≤ lo ∧ lo < 2 ^ 62 ∧ -(2 ^ 62) ≤ hi ∧ hi < 2 ^ 62 then mkWK always ((List.range (hi - lo).toNat).map fun i => .t (.int (lo + (i : Nat)))) μ else .stuck
def iR1 (ms : MA) : MI := fun e μ => (ms e μ).bind fun us μ1 => match us with
  | [.t (.int j)] => rgW 0 j μ1
  | _ => .stuck
def iR2 (ms : MA) : MI := fun e μ => (ms e μ).bind fun us μ1 => match us with
  | [.t (.int i), .t (.int j)] => rgW i j μ1
  | _ => .stuck
theorem walks_rng {lo : Int} {n : Nat} {F : Hp} {as : List Addr} : Walks D w (Itr lo n) always ((List.range n).map fun i => .t (.int (lo + (i : Nat)))) F as :=
  Walks.of walk_range (by simp) (fun _ _ _ _ _ _ _ _ => trivial) fun i F H as μ S _ _ _ y hy x H' ⟨q1, q2⟩ => by
    subst q1
    rw [List.getElem?_map] at hy
    cases q : (List.range n)[i]? with
    | none => rw [q] at hy; cases hy
    | some j =>
      rw [q] at hy
      have hj := List.getElem?_eq_some_iff.mp q
      have e : j = i := by simpa using hj.2.symm
      simp only [Option.map_some, Option.some.injEq] at hy
      subst hy
      exact ⟨F, S, Ext.refl, by simp only [RW, RT]; rw [q2, e]⟩
theorem xi_r1 {tg a : Expr} {ms : MA} {p pos : Pos} (hg : Gl X "range") (hm : X.mg "range" = none) (ha : PA X [a] (RdA D w Wx ms)) (hs : starEach [a] X.env = [(false, eval a X.env)]) : PI X tg (.Call (.Name "range" p) [a] [] pos) (RdI D w Wx (iR1 ms)) :=
  PI.weak (pi_range1 hg hm ha hs) fun σ H R ⟨F, as, μ, e, S, E, P⟩ => ⟨F, as, μ, e, S, E, PoI.bind P fun us μ1 F1 H1 as1 vs X1 S1 R1 P1 => by
    split at P1
    · rename_i j
      obtain ⟨v, rfl, r⟩ := rw1 R1
      simp only [RW, RT] at r
      subst r
      unfold rgW at P1
      split at P1
      · rename_i h
        rw [Int.sub_zero] at P1
        exact ⟨j, rfl, h.2.2.1, h.2.2.2, RdI.mk S1 P1 walks_rng⟩
      · exact P1.elim
    · exact P1.elim⟩
theorem xi_r2 {tg a b : Expr} {ms : MA} {p pos : Pos} (hg : Gl X "range") (hm : X.mg "range" = none) (ha : PA X [a, b] (RdA D w Wx ms)) (hs : starEach [a, b] X.env = [(false, eval a X.env), (false, eval b X.env)]) (hpl : starEach [b] X.env = [(false, eval b X.env)]) : PI X tg (.Call (.Name "range" p) [a, b] [] pos) (RdI D w Wx (iR2 ms)) :=
  PI.weak (pi_range2 hg hm ha hs hpl) fun σ H R ⟨F, as, μ, e, S, E, P⟩ => ⟨F, as, μ, e, S, E, PoI.bind P fun us μ1 F1 H1 as1 vs X1 S1 R1 P1 => by
    split at P1
    · rename_i i j
      obtain ⟨v, v', rfl, r, r'⟩ := rw2 R1
      simp only [RW, RT] at r r'
      subst r r'
      unfold rgW at P1
      split at P1
      · rename_i h
        exact ⟨i, j, rfl, h, RdI.mk S1 P1 walks_rng⟩
      · exact P1.elim
    · exact P1.elim⟩
end
end HQ
/-! HQB: products, chains, stores, comprehensions, enumerate. -/
namespace HQ
open PySem PySem.Spec PyProof.Rows L2

section
variable {X : Cx} {D : Ad} {w : World} {Wx : WX} {K : PySem.W.Frag}
/-! ### products -/
def fMul (live : Bool) (a b : W) (μ : Mem) : R W := match a, b with
  | .t (.int i), .t (.int j) => if cMul i j = true then .ok (.t (.int (i * j))) μ else .stuck
  | a, .t (.int k) => match getLT a μ with
    | some ws => if -(2 ^ 62) ≤ k ∧ k < 2 ^ 62 ∧ ws.length * k.toNat ≤ bigL then mkL live (List.replicate k.toNat ws).flatten μ else .stuck
    | none => .stuck
  | _, _ => .stuck
def rMulA : R2 := fun x y H Q => rI CMulW (fun i j => .int (i * j)) x y H Q ∨ rRep x y H Q
theorem op_mulA : OpR X (binaryOp .Mult) rMulA := OpR.or op_mulW op_rep
theorem rws_flat {F : Hp} {as : List Addr} {ws : List W} {vs : List V} (r : RWs D w F as ws vs) : ∀ n : Nat, RWs D w F as (List.replicate n ws).flatten (List.replicate n vs).flatten
  | 0 => by simp [RWs]
  | n + 1 => by
    simp only [List.replicate_succ, List.flatten_cons]
    exact r.app (rws_flat r n)
theorem mul_ok {live : Bool} : Op2 D w Wx rMulA (fMul live) := by
  intro σ F H as μ u1 u2 v1 v2 Q S r1 r2 P
  unfold fMul at P
  split at P
  · rename_i i j
    split at P
    · rename_i h
      simp only [RW, RT] at r1 r2
      exact .inl ⟨i, j, r1, r2, by simpa [cMul, CMulW] using h, Po.now P S (by simp only [relW, RW, RT])⟩
    · exact P.elim
  · rename_i k _
    simp only [RW, RT] at r2
    split at P
    · rename_i ws q
      obtain ⟨p, vs, rfl, e, r⟩ := getLT_ok S q r1
      split at P
      · rename_i h
        exact .inr ⟨p, k, vs, rfl, r2, e, by omega, by omega, by rw [← r.len]; exact Nat.le_trans h.2.2 bigL_le, fun z hz => Po.lst P S (rws_flat r _) hz⟩
      · exact P.elim
    · exact P.elim
  · exact P.elim
def fNeg (a : W) (μ : Mem) : R W := match a with
  | .t (.int i) => .ok (.t (.int (-i))) μ
  | _ => .stuck
theorem neg_ok : Op1 D w Wx (rU fun i => .int (-i)) fNeg := by
  intro σ F H as μ u v Q S r P
  unfold fNeg at P
  split at P
  · simp only [RW, RT] at r
    exact ⟨_, r, Po.now P S (by simp only [relW, RW, RT])⟩
  · exact P.elim
/-! ### a op b op c -/
def mChain (f g : W → W → Mem → R W) (ma mb mc : ME) : ME := fun e μ => (ma e μ).bind fun a μ1 => (mb e μ1).bind fun b μ2 => (f a b μ2).bind fun z μ3 => match z with
  | .t (.bl c) => if c = true then (mc e μ3).bind fun d μ4 => g b d μ4 else .ok (.t (.bl false)) μ3
  | _ => .stuck
theorem rdChain {r r' : R2} {f g : W → W → Mem → R W} {ma mb mc : ME} (h1 : Op2 D w Wx r f) (h2 : Op2 D w Wx r' g) (σ : Sg) (H : Hp) (Q : VK) (h : RdE D w Wx (mChain f g ma mb mc) σ H Q) : tChain r r' (RdE D w Wx ma) (RdE D w Wx mb) (RdE D w Wx mc) σ H Q := by
  obtain ⟨F, as, μ, e, S, E, P⟩ := h
  refine ⟨F, as, μ, e, S, E, Po.bind (rel' := relW D w) P fun a μ1 F1 H1 as1 va X1 S1 R1 P1 => ?_⟩
  refine ⟨F1, as1, μ1, e, S1, E.mono X1.fs X1.pre, Po.bind (rel' := relW D w) P1 fun b μ2 F2 H2 as2 vb X2 S2 R2 P2 => ?_⟩
  have E2 := (E.mono X1.fs X1.pre).mono X2.fs X2.pre
  refine h1 σ F2 H2 as2 μ2 a b va vb _ S2 (RW.mono X2.fs X2.pre a va R1) R2 (Po.bind (rel' := relW D w) P2 fun z μ3 F3 H3 as3 vz X3 S3 R3 P3 => ?_)
  cases z with
  | t t =>
    cases t <;> first | exact P3.elim | skip
    rename_i c
    simp only [relW, RW, RT] at R3
    refine ⟨c, R3, ?_⟩
    cases c with
    | false => exact Po.now P3 S3 (by simp only [relW, RW, RT])
    | true =>
      refine ⟨F3, as3, μ3, e, S3, E2.mono X3.fs X3.pre, Po.bind (rel' := relW D w) P3 fun d μ4 F4 H4 as4 vd X4 S4 R4 P4 => ?_⟩
      exact h2 σ F4 H4 as4 μ4 b d vb vd Q S4 (RW.mono X4.fs X4.pre _ _ (RW.mono X3.fs X3.pre _ _ R2)) R4 P4
  | ref n => exact P3.elim
  | tup ws => exact P3.elim
theorem xe_chain {op op' : CmpOp} {r r' : R2} {f g : W → W → Mem → R W} {a b c : Expr} {ma mb mc : ME} {pos : Pos} (hr : OpR X (compareOp op) r) (ho : Op2 D w Wx r f) (hr' : OpR X (compareOp op') r') (ho' : Op2 D w Wx r' g)
    (ha : PE X a (RdE D w Wx ma)) (hb : PE X b (RdE D w Wx mb)) (hc : PE X c (RdE D w Wx mc)) (hm : lastMarks [op, op'] [b, c] = false) : PE X (.Compare a [op, op'] [b, c] pos) (RdE D w Wx (mChain f g ma mb mc)) :=
  PE.weak (pe_chain hr hr' ha hb hc hm) (rdChain ho ho')
theorem xt_chain {op op' : CmpOp} {r r' : R2} {f g : W → W → Mem → R W} {a b c : Expr} {ma mb mc : ME} {pos : Pos} (hr : OpR X (compareOp op) r) (ho : Op2 D w Wx r f) (hr' : OpR X (compareOp op') r') (ho' : Op2 D w Wx r' g)
    (ha : PE X a (RdE D w Wx ma)) (hb : PE X b (RdE D w Wx mb)) (hc : PE X c (RdE D w Wx mc)) (hm : lastMarks [op, op'] [b, c] = false) : PT X (.Compare a [op, op'] [b, c] pos) (RdB D w Wx (bOf (mChain f g ma mb mc))) :=
  PT.weak (pt_chain hr hr' ha hb hc hm) fun σ H Q q => rdChain ho ho' σ H _ (rdB σ H Q q)
/-! ### small statements -/
def sCont : MS := fun e μ => .ct e μ
def sBrk : MS := fun e μ => .bk e μ
theorem xs_pass {pos : Pos} : PS X (.Pass pos) (RdS D w Wx sNil) := PS.weak ps_pass fun N σ H ⟨F, as, μ, e, S, E, P⟩ => P F H as σ Ext.refl S E
theorem xs_doc {x j pos pos'} : PS X (.Expr (.Constant (.str x) j pos) pos') (RdS D w Wx sNil) := PS.weak ps_doc fun N σ H ⟨F, as, μ, e, S, E, P⟩ => P F H as σ Ext.refl S E
theorem xs_cont {pos : Pos} : PS X (.Continue pos) (RdS D w Wx sCont) := PS.weak ps_continue fun N σ H ⟨F, as, μ, e, S, E, P⟩ => P F H as σ Ext.refl S E
theorem xs_brk {pos : Pos} : PS X (.Break pos) (RdS D w Wx sBrk) := PS.weak ps_break fun N σ H ⟨F, as, μ, e, S, E, P⟩ => P F H as σ Ext.refl S E
/-! ### o[i] = v -/
def setL (o i v : W) (μ : Mem) : Option Mem := match o, i with
  | .ref n, .t (.int k) => match μ[n]? with
    | some (.lst ws) => match ixN ws.length k with
      | some j => some (μ.set n (.lst (ws.set j v)))
      | none => none
    | _ => none
  | _, _ => none
def sSetL (mv mo mi : ME) : MS := fun e μ => (mv e μ).st e fun v μ1 => (mo e μ1).st e fun o μ2 => (mi e μ2).st e fun i μ3 => match setL o i v μ3 with
  | some μ4 => .nx e μ4
  | none => .stuck
theorem setL_ok {F H : Hp} {as : List Addr} {μ μ' : Mem} {o i v : W} {x y z : V} {Q : Hp → Prop} (S : Sim D w F H as μ) (h : setL o i v μ = some μ') (r1 : RW D w F as o x) (r2 : RW D w F as i y) (r3 : RW D w F as v z)
    (q : ∀ H', Ext F H as F H' as → Sim D w F H' as μ' → Q H') : rSetL x y z H Q := by
  unfold setL at h
  split at h
  · rename_i n k
    split at h
    · rename_i ws qn
      split at h
      · rename_i j qj
        cases h
        simp only [RW, RT] at r1 r2
        obtain ⟨a, ea, rfl⟩ := r1
        obtain ⟨vs, e1, rr⟩ := S.obj n a _ ea qn
        obtain ⟨S', X'⟩ := S.wrt (y := .lst (ws.set j v)) (o := .lst (vs.set j z)) ea qn (by simp) ⟨_, rfl, rr.set j r3⟩
        exact ⟨a, vs, k, j, rfl, r2, e1, by rw [← rr.len]; exact qj, q _ X' S'⟩
      · cases h
    · cases h
  · cases h
theorem xs_setL {o i e : Expr} {mv mo mi : ME} {p2 pos : Pos} (hv : PE X e (RdE D w Wx mv)) (ho : PE X o (RdE D w Wx mo)) (hi : PE X i (RdE D w Wx mi)) (hs : swapsWithSole [.Subscript o i p2] e pos.line X.env = pure false) (hw : swappedStores [.Subscript o i p2] e X.env = pure none)
    (h1 : (assignEach [.Subscript o i p2] X.env).map (·.2) = [assign (.Subscript o i p2) X.env])
    (ha : ∀ v, assign (.Subscript o i p2) X.env v = (do
      let ov ← holding [v] (eval o X.env)
      let iv ← holding [v, ov] (eval i X.env)
      standAt p2
      holding [v, ov, iv] (setItem ov iv v)
      release [v, ov, iv] [])) : PS X (.Assign [.Subscript o i p2] e pos) (RdS D w Wx (sSetL mv mo mi)) :=
  PS.weak (ps_asg hv (pg_sub ho hi set_list ha) hs hw h1) fun N σ H ⟨F, as, μ, e, S, E, P⟩ => ⟨F, as, μ, e, S, E, PoS.ex P E fun u μ1 F1 H1 as1 v X1 S1 E1 R1 P1 =>
    ⟨F1, as1, μ1, e, S1, E1, PoS.ex P1 E1 fun o μ2 F2 H2 as2 vo X2 S2 E2 R2 P2 => ⟨F2, as2, μ2, e, S2, E2, PoS.ex P2 E2 fun i μ3 F3 H3 as3 vi X3 S3 E3 R3 P3 => by
      cases q : setL o i u μ3 with
      | none => simp only [q] at P3; exact P3.elim
      | some μ4 =>
        simp only [q] at P3
        exact setL_ok S3 q (RW.mono X3.fs X3.pre _ _ R2) R3 (RW.mono X3.fs X3.pre _ _ (RW.mono X2.fs X2.pre _ _ R1)) fun H' X' S' => P3 F3 H' as3 σ X' S' E3⟩⟩⟩
end
end HQ
/-! HQC: enumerate, list comprehensions. -/
namespace HQ
open PySem PySem.Spec PyProof.Rows L2

/-! ### enumerate -/
/-- the signs of a text, each in a new pair -/
def Itx (x : Str) : It := ⟨fun i _ => i < x.cps.size, fun i H v H' => ∃ T c, v = .ref T ∧ H T = none ∧ H' = upd H T (.tup [.int (i : Nat), .str ⟨#[c]⟩]) ∧ x.cps[i]? = some c, fun i _ => x.cps.size ≤ i⟩
theorem turn_enumS {P : Program} {w : World} {K : PySem.W.Frag} {elts : List Expr} {kk : Nat} {tpos : Pos} (x : Str) (t : Tok) (e it : Addr) (ty : String) (hty : ty = "str_ascii_iterator" ∨ ty = "str_iterator") :
    Turn P w K (.Tuple elts kk tpos) (Itx x) [e, it] e (fun i h => (∃ old, IsEnum h e it ((i : Nat) : Int) old) ∧ h.IsStrIter it ty x t i ∧ e ≠ it) where
  mem := by simp
  obj := fun i h st b hb => by
    obtain ⟨⟨old, he⟩, ⟨o, ho, hc, hd⟩, _⟩ := st
    have e' : b = e ∨ b = it := by simpa using hb
    rcases e' with z | z
    · rw [z]; exact ⟨_, he, fun v q => nomatch q⟩
    · rw [z]; exact ⟨o, ho, fun v q => by rw [hd] at q; cases q⟩
  keep := fun i h h' st k => by
    obtain ⟨⟨old, he⟩, ⟨o, ho, r⟩, hne⟩ := st
    exact ⟨⟨old, k e (by simp) _ he⟩, ⟨o, k it (by simp) o ho, r⟩, hne⟩
  item := by
    intro X hP hw hK hc i pins s σ H E I hf st hg
    subst hP hw hK
    obtain ⟨⟨old, he⟩, hit, hne⟩ := st
    have hel : e < s.heap.objs.size := Heap.lt_size he
    have hil : it < s.heap.objs.size := by obtain ⟨_, q, _⟩ := hit; exact Heap.lt_size q
    have hh : X.A.in1.handled = none := I.ok.hd hc
    have D : Draws X.prog X.w X.A.in1 it [it] x.cps.size (fun i v => ∃ c u, x.cps[i]? = some c ∧ v = Value.str ⟨#[c]⟩ u) (fun i h => h.IsStrIter it ty x t i) := by
      rcases hty with q | q
      · rw [q]; exact Draws.strAscii hh it x t
      · rw [q]; exact Draws.strWide hh it x t
    refine wpAny_pyNext_enum_itemD D he hit hg hne (by simpa using hne) fun u h' tk hP ho hit' hT hsz hk => ?_
    obtain ⟨c, u', hcx, rfl⟩ := hP
    refine ⟨_, rfl, wpAny_letOwnedTupleGo_enum (s := { s with heap := h', toks := tk + 1 }) ho fun h'' he' sb => ?_⟩
    have hT2 : h''.get? s.heap.objs.size = some { cls := .type "tuple", data := .seq #[.int i tk, .str ⟨#[c]⟩ u'] } := (sb.2 _ (Nat.ne_of_gt hel)).trans hT
    have new : ObjOk X.prog X.w (upd H s.heap.objs.size (.tup [.int (i : Nat), .str ⟨#[c]⟩])) h'' s.heap.objs.size (.tup [.int (i : Nat), .str ⟨#[c]⟩]) :=
      ⟨by show 2 ≤ sizeLine; decide, [.int i tk, .str ⟨#[c]⟩ u'], .cons ⟨_, rfl⟩ (.cons ⟨_, rfl⟩ .nil), ⟨_, hT2, rfl, _, rfl⟩⟩
    have I1 : Inv X pins σ (upd H s.heap.objs.size (.tup [.int (i : Nat), .str ⟨#[c]⟩])) { s with heap := h'', toks := tk + 1 } :=
      I.turnedNew (ch := [e, it]) (fun b ob hb q => (sb.2 b (fun z => hb (by simp [z]))).trans (hk b ob (fun z => hb (by simp [z])) (fun z => hb (by simp [z])) q)) hf (Nat.le_refl _) new
    refine ⟨.ref s.heap.objs.size, _, I1, rfl, ⟨_, c, rfl, I.hok.fresh (Nat.le_refl _), rfl, hcx⟩, ⟨⟨.str ⟨#[c]⟩ u', ?_⟩, ?_, hne⟩, fun b hb => ?_⟩
    · have e1 : ((i + 1 : Nat) : Int) = (i : Int) + 1 := by omega
      rw [e1]; exact he'
    · obtain ⟨o, q, r⟩ := hit'
      exact ⟨o, (sb.2 it (Ne.symm hne)).trans q, r⟩
    · have hb' : b < s.heap.objs.size := by
        have e' : b = e ∨ b = it := by simpa using hb
        rcases e' with z | z
        · rw [z]; exact hel
        · rw [z]; exact hil
      rw [upd_ne (Nat.ne_of_lt hb')]
      exact (hf b hb).1
  done := by
    intro X hP hw hK hc i pins s σ H E I hf st hg
    subst hP hw hK
    obtain ⟨⟨old, he⟩, hit, hne⟩ := st
    have hh : X.A.in1.handled = none := I.ok.hd hc
    obtain ⟨f0, f1, f2, f3, f4, f5⟩ := hf it (by simp)
    have hx : x.cps[i]? = none := Array.getElem?_eq_none hg
    have D : Draws X.prog X.w X.A.in1 it [it] i (fun i v => ∃ c u, x.cps[i]? = some c ∧ v = Value.str ⟨#[c]⟩ u ∧ False) (fun j h => j = i ∧ h.IsStrIter it ty x t i) :=
      ⟨fun _ h ⟨_, o, q, _⟩ => ⟨o, q⟩, fun j h h' ⟨z, o, q, r⟩ k => ⟨z, o, k it (by simp) o q, r⟩, fun j s Q E hj ⟨z, _⟩ => absurd hj (by omega), fun s Q E ⟨_, st⟩ q => by
        rcases hty with z | z
        · rw [z] at st; exact wpAny_nextOf_ascii_end hh st hx q
        · rw [z] at st; exact wpAny_nextOf_wide_end hh st hx q⟩
    exact wpAny_pyNext_enum_endD D he ⟨rfl, hit⟩ fun h' eb => ⟨rfl, I.turned (t' := s.toks) (fun b o hb q => eb b o hb q) f0 f1 f3 f4 f5⟩
  self := fun A i s Q E st h => let ⟨⟨_, he⟩, _⟩ := st; wpAny_pyIter_enum he h
def iEnumS (ta : TA) : TI := fun σ H R => ta σ H fun vs H1 => ∃ x, vs = [.str x] ∧ R (Itx x) H1
theorem pi_enumS {X : Cx} {e : Expr} {ta : TA} {p pos tpos : Pos} {elts : List Expr} {kk : Nat} (hg : Gl X "enumerate") (hm : X.mg "enumerate" = none) (ha : PA X [e] ta) (hs : starEach [e] X.env = [(false, eval e X.env)]) :
    PI X (.Tuple elts kk tpos) (.Call (.Name "enumerate" p) [e] [] pos) (iEnumS ta) := by
  refine ⟨fun pins s σ H R I h => ?_⟩
  refine Call_ (ld_blt I hg hm boot_enumerate (PyProof.Rows.callWith_type1 (thn (ha.run pos pins s σ H _ I h) fun us s1 ⟨vs, H1, I1, r1, q1⟩ => ?_) hs rfl))
  obtain ⟨x, ex, q⟩ := q1
  subst ex
  cases r1 with
  | cons r rr =>
    cases rr
    obtain ⟨t, rfl⟩ := r
    refine call_enumerate_str fun h' he hit hsz hk => wpAny_pyIter_enum he ?_
    have I2 : Inv X pins σ H1 { s1 with heap := h' } := I1.kept (t' := s1.toks) hk
    have hty : strIterType x = "str_ascii_iterator" ∨ strIterType x = "str_iterator" := by
      unfold strIterType
      split
      · exact .inl rfl
      · exact .inr rfl
    refine ⟨s1.heap.objs.size + 1, [s1.heap.objs.size + 1, s1.heap.objs.size], _, _, H1, rfl, I2, turn_enumS x t (s1.heap.objs.size + 1) s1.heap.objs.size _ hty, ⟨⟨.none, he⟩, hit, Nat.succ_ne_self _⟩, fun b hb => ?_, q⟩
    have e' : b = s1.heap.objs.size + 1 ∨ b = s1.heap.objs.size := by simpa using hb
    have hle : s1.heap.objs.size ≤ b := by
      rcases e' with z | z
      · rw [z]; exact Nat.le_add_right _ _
      · rw [z]; exact Nat.le_refl _
    exact I1.fpOk hle (I1.hok.fresh hle)
section
variable {X : Cx} {D : Ad} {w : World} {Wx : WX} {K : PySem.W.Frag}
def pairs (ws : List W) : List W := ws.mapIdx fun i u => mkTup [.t (.int (i : Nat)), u]
/-- enumerate of a list, of a text -/
def kEnu (us : List W) (μ : Mem) : R WK := match us with
  | [.t (.str z)] => mkWK always (pairs (z.cps.toList.map fun c => .t (.str ⟨#[c]⟩))) μ
  | [u] => match getL u μ with
    | some ws => mkWK (fun μ => getL u μ = some ws) (pairs ws) μ
    | none => .stuck
  | _ => .stuck
def iEnu (ms : MA) : MI := fun e μ => (ms e μ).bind kEnu
theorem newTup {F H : Hp} {as : List Addr} {μ : Mem} {T : Addr} {ws : List W} {vs : List V} (S : Sim D w F H as μ) (h : H T = none) (r : RWs D w F as ws vs) : ∃ F', Sim D w F' (upd H T (.tup vs)) as μ ∧ Ext F H as F' (upd H T (.tup vs)) as ∧ RW D w F' as (mkTup ws) (.ref T) := by
  obtain ⟨S1, X1⟩ := S.newF (.tup vs) h
  exact ⟨_, S1, X1, rw_mkTup upd_same (RWs.mono X1.fs X1.pre _ _ r)⟩
theorem pairs_at {ws : List W} {i : Nat} {y : W} (h : (pairs ws)[i]? = some y) : ∃ u, ws[i]? = some u ∧ y = mkTup [.t (.int (i : Nat)), u] := by
  unfold pairs at h
  rw [List.getElem?_mapIdx] at h
  cases q : ws[i]? with
  | none => rw [q] at h; cases h
  | some u => rw [q] at h; simp only [Option.map_some, Option.some.injEq] at h; exact ⟨u, rfl, h.symm⟩
theorem pairs_len (ws : List W) : (pairs ws).length = ws.length := by simp [pairs]
theorem walks_enumS {x : Str} {F : Hp} {as : List Addr} : Walks D w (Itx x) always (pairs (x.cps.toList.map fun c => .t (.str ⟨#[c]⟩))) F as := by
  intro i F' H as' μ S _ _ _
  refine ⟨fun y hy => ?_, fun hi => by rw [pairs_len] at hi; show x.cps.size ≤ i; simp at hi; omega⟩
  obtain ⟨u, h1, rfl⟩ := pairs_at hy
  rw [List.getElem?_map] at h1
  have hlt : i < x.cps.size := by
    cases q : x.cps.toList[i]? with
    | none => rw [q] at h1; cases h1
    | some c => simpa using (List.getElem?_eq_some_iff.mp q).1
  refine ⟨hlt, fun v H' ⟨T, c, ev, hT, eH, hc⟩ => ?_⟩
  subst ev eH
  rw [Array.getElem?_toList, hc] at h1
  simp only [Option.map_some, Option.some.injEq] at h1
  subst h1
  exact newTup S hT (by simp only [RWs, RW, RT]; exact ⟨_, _, rfl, rfl, _, _, rfl, rfl, rfl⟩)
theorem walks_enumL {u : W} {ws : List W} {a : Addr} {F : Hp} {as : List Addr} (r : RW D w F as u (.ref a)) : Walks D w (Ite K a) (fun μ => getL u μ = some ws) (pairs ws) F as := by
  intro i F' H as' μ S hs ha hg
  obtain ⟨a', vs, z1, z2, rr⟩ := getL_ok S hg (RW.mono hs ha _ _ r)
  cases z1
  refine ⟨fun y hy => ?_, fun hi => ⟨vs, .inl z2, by rw [← rr.len, ← pairs_len]; omega⟩⟩
  obtain ⟨x, h1, rfl⟩ := pairs_at hy
  obtain ⟨v, h2, h3⟩ := rr.at_ h1
  refine ⟨⟨vs, v, .inl z2, h2⟩, fun v' H' ⟨T, x', ev, hT, eH, hc⟩ => ?_⟩
  subst ev eH
  have h4 := hc vs (.inl z2)
  rw [h2] at h4
  cases h4
  exact newTup S hT (by simp only [RWs, RW, RT]; exact ⟨_, _, rfl, rfl, _, _, rfl, h3, rfl⟩)
def isStr1 (us : List W) : Bool := match us with
  | [.t (.str _)] => true
  | _ => false
theorem xi_enu {e : Expr} {ms : MA} {p pos tpos : Pos} {elts : List Expr} {kk : Nat} (hg : Gl X "enumerate") (hm : X.mg "enumerate" = none) (ha : PA X [e] (RdA D w Wx ms)) (hs : starEach [e] X.env = [(false, eval e X.env)]) :
    PI X (.Tuple elts kk tpos) (.Call (.Name "enumerate" p) [e] [] pos) (RdI D w Wx (iEnu ms)) := by
  refine PI.weak (PI.ex (ι := Bool) (t := fun k => match k with
    | true => iEnumS (RdA D w Wx ms)
    | false => iEnum X.K (RdA D w Wx ms)) fun k => match k with
    | true => pi_enumS hg hm ha hs
    | false => pi_enum hg hm ha hs) fun σ H R ⟨F, as, μ, e, S, E, P⟩ => ?_
  unfold iEnu at P
  cases q : ms e μ with
  | stuck => rw [q] at P; exact P.elim
  | exc x μ1 => rw [q] at P; exact ⟨true, F, as, μ, e, S, E, by rw [q]; exact P⟩
  | ok us μ1 =>
    rw [q] at P
    replace P : PoI D w Wx σ F H as (kEnu us μ1) R := P
    unfold kEnu at P
    split at P
    · rename_i z
      refine ⟨true, F, as, μ, e, S, E, by
        rw [q]
        intro F1 H1 as1 vs X1 S1 R1
        obtain ⟨v, rfl, r⟩ := rw1 R1
        simp only [RW, RT] at r
        subst r
        exact ⟨z, rfl, RdI.mk S1 (PoI.from P X1 S1.there) walks_enumS⟩⟩
    · rename_i u _
      split at P
      · rename_i ws qw
        refine ⟨false, F, as, μ, e, S, E, by
          rw [q]
          intro F1 H1 as1 vs X1 S1 R1
          obtain ⟨v, rfl, r⟩ := rw1 R1
          obtain ⟨a, vs, rfl, e1, rr⟩ := getL_ok S1 qw r
          exact ⟨a, vs, rfl, .inl e1, RdI.mk S1 (PoI.from P X1 S1.there) (walks_enumL r)⟩⟩
      · exact P.elim
    · exact P.elim

/-! ### list comprehensions -/
abbrev WxF : WX := fun _ _ _ _ => False
def wipeE (e : En) : List Nat → En
  | [] => e
  | v :: vs => (wipeE e vs).set v none
theorem er_wipe {F : Hp} {as : List Addr} {e : En} {σ : Sg} (h : ER D w F as e σ) : ∀ vs : List Nat, ER D w F as (wipeE e vs) (wipe σ vs)
  | [] => h
  | v :: vs => (er_wipe h vs).unset v
/-- the turns of a comprehension: no exception comes out of one -/
noncomputable def lcM (gd : Mem → Prop) (g : MG) (t : MB) (m : ME) (e : En) : List W → List W → Mem → R (List W)
  | [], acc, μ => open Classical in if gd μ then .ok acc μ else .stuck
  | y :: ys, acc, μ => open Classical in if gd μ then (match g y e μ with
    | some e1 => (match t e1 μ with
      | .ok true μ1 => (match m e1 μ1 with
        | .ok u μ2 => lcM gd g t m e ys (acc ++ [u]) μ2
        | _ => .stuck)
      | .ok false μ1 => lcM gd g t m e ys acc μ1
      | _ => .stuck)
    | none => .stuck) else .stuck
noncomputable def mLc (live : Bool) (i : MI) (g : MG) (t : MB) (m : ME) (own : List Nat) : ME := fun e μ => (i e μ).bind fun k μ1 => if k.ys.length ≤ bigL then (lcM k.gd g t m (wipeE e own) k.ys [] μ1).bind fun ws μ2 => mkL live ws μ2 else .stuck
theorem Sim.side {F H : Hp} {as : List Addr} {μ : Mem} (S : Sim D w F H as μ) {p : Addr} (o : HO) (hp : p ∉ as) (hF : F p = Option.none) (hT : ∀ ps, H p ≠ some (.tbl ps)) : Sim D w F (upd H p o) as μ := by
  have ne : ∀ a ∈ as, a ≠ p := fun a ha e => hp (e ▸ ha)
  exact ⟨fun b u e => by rw [upd_ne (ne_of_none e hF)]; exact S.sub b u e, S.len, S.nd, fun a ha => by rw [upd_ne (ne a ha)]; exact S.there a ha, S.out, fun n a x h1 h2 => by rw [upd_ne (ne a (List.mem_of_getElem? h1))]; exact S.obj n a x h1 h2, S.tb.keep (Same.refl _) (fun b ps _ e => by rw [upd_ne (fun (q : b = p) => hT ps (by rw [← q]; exact e))]; exact e) fun b hb => .inl hb⟩
theorem Ext.side {F H F' H' : Hp} {as as' : List Addr} (X : Ext F H as F' H' as') {p : Addr} (o : HO) (hp : H p = none) : Ext F H as F' (upd H' p o) as' :=
  ⟨X.fs, X.more, fun a u e hn => by rw [upd_ne (ne_of_none e hp)]; exact X.keep a u e hn, X.newF⟩
/-- what stands beside -/
structure Beside (F H : Hp) (as : List Addr) (p : Addr) (o : HO) : Prop where
  h : H p = some o
  f : F p = none
  n : p ∉ as
  nt : ∀ ps, o ≠ .tbl ps
theorem Beside.ext {F H F' H' : Hp} {as as' : List Addr} {p : Addr} {o : HO} (b : Beside F H as p o) (X : Ext F H as F' H' as') : Beside F' H' as' p o := by
  have hn : p ∉ as' := by
    obtain ⟨r, e, hr⟩ := X.more
    intro hm
    rw [e] at hm
    rcases List.mem_append.mp hm with hm | hm
    · exact b.n hm
    · have := hr p hm
      rw [b.h] at this; cases this
  refine ⟨(X.keep p o b.h b.n).eq b.nt, ?_, hn, b.nt⟩
  cases q : F' p with
  | none => rfl
  | some z =>
    rcases X.newF p (by rw [q]; simp) with e | e | e
    · exact absurd b.f e
    · rw [b.h] at e; cases e
    · exact absurd e b.n
/-- what stood beside comes in as a list -/
theorem Po.lstB {live : Bool} {σ : Sg} {F0 H0 F H : Hp} {as0 as : List Addr} {μ : Mem} {Q : VK} {ws : List W} {vs : List V} {p : Addr} (h : Po D w Wx σ F0 H0 as0 (relW D w) (mkL live ws μ) Q) (X : Ext F0 H0 as0 F H as) (hp : H0 p = none) (S : Sim D w F H as μ) (b : Beside F H as p (.lst vs)) (r : RWs D w F as ws vs) : Q (.ref p) H := by
  have cov : ∀ {o : HO}, H p = some o → upd H p o = H := fun {o} e => by
    funext a
    by_cases q : a = p
    · subst q; rw [upd_same, e]
    · rw [upd_ne q]
  cases live with
  | true =>
    have S1 : Sim D w F H (as ++ [p]) (μ ++ [.lst ws]) := by
      have hl := S.len
      have ix : ∀ (j : Nat) c y, (as ++ [p])[j]? = some c → (μ ++ [O.lst ws])[j]? = some y → (as[j]? = some c ∧ μ[j]? = some y) ∨ (c = p ∧ y = .lst ws) := fun j c y h1 h2 => by
        by_cases hj : j < as.length
        · rw [List.getElem?_append_left hj] at h1
          rw [List.getElem?_append_left (by omega)] at h2
          exact .inl ⟨h1, h2⟩
        · have := (List.getElem?_eq_some_iff.mp h1).1
          rw [List.length_append, List.length_singleton] at this
          have e : j = as.length := by omega
          subst e
          rw [List.getElem?_append_right (Nat.le_refl _)] at h1
          rw [List.getElem?_append_right (by omega)] at h2
          simp [hl] at h1 h2
          exact .inr ⟨h1.symm, h2.symm⟩
      refine ⟨S.sub, by simp [hl], ?_, fun a ha => ?_, fun n a y h1 h2 h3 => ?_, fun n a y h1 h2 => ?_, S.tb.keep (Same.refl _) (fun b ps _ e => e) fun a ha => (List.mem_append.mp ha).imp id fun q => by simp at q; subst q; exact ⟨b.f, fun ps => by rw [b.h]; simp⟩⟩
      · rw [List.nodup_append]
        exact ⟨S.nd, by simp, fun a ha c hc q => b.n (by simp at hc; rw [← hc, ← q]; exact ha)⟩
      · rcases List.mem_append.mp ha with ha | ha
        · exact S.there a ha
        · simp at ha; subst ha; rw [b.h]; simp
      · rcases ix n a y h1 h2 with ⟨q1, q2⟩ | ⟨rfl, rfl⟩
        · exact S.out n a y q1 q2 h3
        · exact b.f
      · rcases ix n a y h1 h2 with ⟨q1, q2⟩ | ⟨rfl, rfl⟩
        · exact RO.mono (Same.refl _) ⟨[p], rfl⟩ (S.obj n a y q1 q2)
        · exact ⟨vs, b.h, RWs.mono (Same.refl _) ⟨[a], rfl⟩ ws vs r⟩
    obtain ⟨z, ez, hz⟩ := X.more
    refine h F H (as ++ [p]) (.ref p) ⟨X.fs, ⟨z ++ [p], by rw [ez, List.append_assoc], fun a ha => ?_⟩, X.keep, X.newF⟩ S1 ?_
    · rcases List.mem_append.mp ha with ha | ha
      · exact hz a ha
      · simp at ha; rw [ha]; exact hp
    · show RW D w F (as ++ [p]) (.ref μ.length) (.ref p)
      simp only [RW]
      exact ⟨p, by rw [← S.len]; simp, rfl⟩
  | false =>
    unfold mkL at h
    cases q : toTs ws with
    | none => rw [q] at h; exact h.elim
    | some ts =>
      rw [q] at h
      have sF : Same F (upd F p (.lst vs)) := upd_sub b.f
      have S1 : Sim D w (upd F p (.lst vs)) H as μ := by
        refine ⟨fun a u e => ?_, S.len, S.nd, S.there, fun n a y h1 h2 h3 => ?_, fun n a y h1 h2 => RO.mono sF ⟨[], (List.append_nil as).symm⟩ (S.obj n a y h1 h2), S.tb.keep sF (fun b ps _ e => e) (fun a ha => .inl ha) (upd_nt (by rintro (⟨_, z⟩ | ⟨_, z⟩) <;> cases z))⟩
        · by_cases z : a = p
          · subst z; rw [upd_same] at e; cases e; exact b.h
          · rw [upd_ne z] at e; exact S.sub a u e
        · rw [upd_ne (fun z => b.n (by rw [← z]; exact List.mem_of_getElem? h1))]
          exact S.out n a y h1 h2 h3
      refine h (upd F p (.lst vs)) H as (.ref p) ⟨X.fs.trans sF, X.more, X.keep, fun a e => ?_⟩ S1 ?_
      · rcases upd_some e with e | e
        · subst e; exact .inr (.inl hp)
        · exact X.newF a e
      · have r1 := RWs.mono sF ⟨[], (List.append_nil as).symm⟩ ws vs r
        rw [toTs_eq q] at r1
        show RW D w _ as (.t (.lst ts)) (.ref p)
        simp only [RW, RT]
        exact ⟨p, vs, rfl, upd_same, r1.toT⟩
open Classical in
theorem lcM_nil {gd : Mem → Prop} {g : MG} {t : MB} {m : ME} {e : En} {acc : List W} {μ : Mem} : lcM gd g t m e [] acc μ = if gd μ then .ok acc μ else .stuck := by rw [lcM]
open Classical in
theorem lcM_cons {gd : Mem → Prop} {g : MG} {t : MB} {m : ME} {e : En} {y : W} {ys acc : List W} {μ : Mem} : lcM gd g t m e (y :: ys) acc μ = if gd μ then (match g y e μ with
    | some e1 => (match t e1 μ with
      | .ok true μ1 => (match m e1 μ1 with
        | .ok u μ2 => lcM gd g t m e ys (acc ++ [u]) μ2
        | _ => .stuck)
      | .ok false μ1 => lcM gd g t m e ys acc μ1
      | _ => .stuck)
    | none => .stuck) else .stuck := by rw [lcM]
theorem wipe_at (σ : Sg) (i : Nat) : ∀ vs : List Nat, (wipe σ vs)[i]? = if i ∈ vs then (if i < σ.length then some none else none) else σ[i]?
  | [] => by simp [wipe]
  | v :: vs => by
    unfold wipe
    rw [List.getElem?_set, wipe_at σ i vs, wipe_length]
    by_cases e : v = i
    · subst e; simp
    · rw [if_neg e]
      by_cases h : i ∈ vs
      · simp [h]
      · have : i ∉ v :: vs := by simp [h]; exact fun z => e z.symm
        rw [if_neg h, if_neg this]
theorem wipe_twice (σ : Sg) (vs : List Nat) : wipe (wipe σ vs) vs = wipe σ vs := by
  apply List.ext_getElem?
  intro i
  rw [wipe_at, wipe_at, wipe_length]
  by_cases h : i ∈ vs
  · simp [h]
  · simp [h]
theorem lcM_ok {F0 H0 : Hp} {as0 : List Addr} {σ0 σ : Sg} {live : Bool} {gd : Mem → Prop} {g : MG} {own : List Nat} {t : MB} {m : ME} {e : En} {vs : List Nat} {Q : VK} {J : It} {ys : List W} {D1 : Addr} {μ0 : Mem} (hD : H0 D1 = none) (hown : ∀ i ∈ own, i ∈ vs)
    (E0 : ER D w F0 as0 e (wipe σ vs)) (hbig : ys.length ≤ bigL) (hw : Walks D w J gd ys F0 as0) (S0 : Sim D w F0 H0 as0 μ0)
    (P : Po D w Wx σ0 F0 H0 as0 (relW D w) ((lcM gd g t m e ys [] μ0).bind fun ws μ2 => mkL live ws μ2) Q) :
    ∃ W : Nat → Nat → Hp → Prop, (∃ m, W 0 m (upd H0 D1 (.lst []))) ∧ ∀ i n H, W i n H →
      (J.stop i H ∧ Q (.ref D1) H) ∨ (J.go i H ∧ ∃ Nx : Hp → Prop, (∀ H', Nx H' → ∃ m', m' < n ∧ W (i + 1) m' H') ∧ ∀ x H', J.yld i H x H' → (RdG D w own g) x (wipe σ vs) H' fun σ2 H2 => wipe σ2 vs = wipe σ vs ∧ (RdB D w WxF t) σ2 H2 fun b H3 =>
        if b = true then (RdE D w WxF m) σ2 H3 fun y H4 => ∃ acc, H4 D1 = some (.lst acc) ∧ acc.length < sizeLine ∧ Nx (upd H4 D1 (.lst (acc ++ [y]))) else Nx H3) := by
  let Inv : Nat → Hp → Prop := fun i H => ∃ F as μ acc avs, Sim D w F H as μ ∧ Ext F0 H0 as0 F H as ∧ Beside F H as D1 (.lst avs) ∧ RWs D w F as acc avs ∧ acc.length ≤ i ∧ lcM gd g t m e ys [] μ0 = lcM gd g t m e (ys.drop i) acc μ
  refine ⟨fun i n H => n = ys.length - i ∧ i ≤ ys.length ∧ Inv i H, ⟨_, rfl, Nat.zero_le _, F0, as0, μ0, [], [], S0.side _ (S0.notIn hD) (S0.freeF hD) (fun ps => by rw [hD]; simp), Ext.refl.side _ hD, ⟨upd_same, S0.freeF hD, S0.notIn hD, fun ps z => nomatch z⟩, by simp [RWs], Nat.le_refl _, by simp⟩, ?_⟩
  rintro i n H ⟨rfl, hi, F, as, μ, acc, avs, S, X, B, R, hacc, eq⟩
  by_cases hlt : i < ys.length
  · have ed : ys.drop i = ys[i] :: ys.drop (i + 1) := List.drop_eq_getElem_cons hlt
    rw [ed] at eq
    rw [lcM_cons] at eq
    by_cases hgd : gd μ
    · rw [if_pos hgd] at eq
      obtain ⟨h1, _⟩ := hw i F H as μ S X.fs X.pre hgd
      obtain ⟨hgo, hyl⟩ := h1 ys[i] (List.getElem?_eq_getElem hlt)
      refine .inr ⟨hgo, Inv (i + 1), fun H' q => ⟨_, by omega, rfl, hlt, q⟩, fun x H' hx => ?_⟩
      obtain ⟨F1, S1, X1, R1⟩ := hyl x H' hx
      have X01 := X.trans X1 S.there
      cases q1 : g ys[i] e μ with
      | none => simp only [q1] at eq; rw [eq] at P; exact P.elim
      | some e1 =>
        simp only [q1] at eq
        refine ⟨F1, as, μ, e, ys[i], S1, E0.mono X01.fs X01.pre, R1, e1, q1, fun σ2 E2 hw2 => ⟨(hw2 vs hown).trans (wipe_twice σ vs), F1, as, μ, e1, S1, E2, ?_⟩⟩
        cases q2 : t e1 μ with
        | stuck => simp only [q2] at eq; rw [eq] at P; exact P.elim
        | exc z μ2 => simp only [q2] at eq; rw [eq] at P; exact P.elim
        | ok b μ2 =>
          intro F2 H2 as2 b' X2 S2 rb
          cases rb
          have B2 := (B.ext X1).ext X2
          have X02 := X01.trans X2 S1.there
          cases b with
          | false =>
            simp only [q2] at eq
            exact ⟨F2, as2, μ2, acc, avs, S2, X02, B2, RWs.mono X2.fs X2.pre _ _ (RWs.mono X1.fs X1.pre _ _ R), Nat.le_succ_of_le hacc, eq⟩
          | true =>
            simp only [q2] at eq
            refine ⟨F2, as2, μ2, e1, S2, E2.mono X2.fs X2.pre, ?_⟩
            cases q3 : m e1 μ2 with
            | stuck => simp only [q3] at eq; rw [eq] at P; exact P.elim
            | exc z μ3 => simp only [q3] at eq; rw [eq] at P; exact P.elim
            | ok u μ3 =>
              simp only [q3] at eq
              intro F3 H3 as3 v X3 S3 R3
              have B3 := B2.ext X3
              have X03 := X02.trans X3 S2.there
              have RR : RWs D w F3 as3 acc avs := RWs.mono X3.fs X3.pre _ _ (RWs.mono X2.fs X2.pre _ _ (RWs.mono X1.fs X1.pre _ _ R))
              refine ⟨avs, B3.h, ?_, F3, as3, μ3, acc ++ [u], avs ++ [v], S3.side _ B3.n B3.f (fun ps => by rw [B3.h]; simp), X03.side _ hD, ⟨upd_same, B3.f, B3.n, fun ps z => nomatch z⟩, RR.app (by simp only [RWs]; exact ⟨v, _, rfl, R3, rfl⟩), by simp; omega, eq⟩
              have := RR.len
              have := bigL_le
              omega
    · rw [if_neg hgd] at eq; rw [eq] at P; exact P.elim
  · have e0 : ys.drop i = [] := List.drop_eq_nil_of_le (by omega)
    rw [e0] at eq
    rw [lcM_nil] at eq
    by_cases hgd : gd μ
    · rw [if_pos hgd] at eq
      rw [eq] at P
      exact .inl ⟨(hw i F H as μ S X.fs X.pre hgd).2 (by omega), Po.lstB P X hD S B R⟩
    · rw [if_neg hgd] at eq; rw [eq] at P; exact P.elim
theorem rdLc {σ : Sg} {H : Hp} {Q : VK} {live : Bool} {i : MI} {g : MG} {t : MB} {m : ME} {gown vs : List Nat} (hown : ∀ i ∈ gown, i ∈ vs) (h : RdE D w Wx (mLc live i g t m vs) σ H Q) : tLc (RdI D w Wx i) (RdG D w gown g) (RdB D w WxF t) (RdE D w WxF m) vs σ H Q := by
  obtain ⟨F, as, μ, e, S, E, P⟩ := h
  refine ⟨F, as, μ, e, S, E, ?_⟩
  unfold mLc at P
  cases q : i e μ with
  | stuck => rw [q] at P; exact P.elim
  | exc x μ1 => rw [q] at P; exact P
  | ok k μ1 =>
    rw [q] at P
    intro F1 H1 as1 J X1 S1 hw D1 hD1
    have P1 : Po D w Wx σ F1 H1 as1 (relW D w) (if k.ys.length ≤ bigL then (lcM k.gd g t m (wipeE e vs) k.ys [] μ1).bind fun ws μ2 => mkL live ws μ2 else .stuck) Q := Po.from P X1 S1.there
    by_cases hb : k.ys.length ≤ bigL
    · rw [if_pos hb] at P1
      exact lcM_ok hD1 hown (er_wipe (E.mono X1.fs X1.pre) vs) hb hw S1 P1
    · rw [if_neg hb] at P1; exact P1.elim
theorem xe_lc {live : Bool} {elt tg iter : Expr} {ifs : List Expr} {scope : Scope} {own : List (Str × Nat)} {pos : Pos} {i : MI} {g : MG} {t : MB} {m : ME} {gown : List Nat} (hc : X.calm = true) (hN : X.N.Nodup) (hi : PI X tg iter (RdI D w Wx i)) (ok : BlkOk X.N X.env.scope scope own)
    (hg : ∀ (s : Shared) (H : Hp) (C : Addr) (cl : List (Str × Addr)) (fp : List Addr), PG (X.blk s H scope (compEnvC scope cl C X.env) fp) tg (RdG D w gown g)) (ht : ∀ (s : Shared) (H : Hp) (C : Addr) (cl : List (Str × Addr)) (fp : List Addr), PTs (X.blk s H scope (compEnvC scope cl C X.env) fp) ifs (RdB D w WxF t))
    (he : ∀ (s : Shared) (H : Hp) (C : Addr) (cl : List (Str × Addr)) (fp : List Addr), PE (X.blk s H scope (compEnvC scope cl C X.env) fp) elt (RdE D w WxF m)) (hs : ∀ x, foldedSetIterable iter X.env x = pure x) (hown : ∀ i ∈ gown, i ∈ own.map (·.2)) :
    PE X (.ListComp elt [⟨tg, iter, ifs, 0⟩] scope pos) (RdE D w Wx (mLc live i g t m (own.map (·.2)))) :=
  PE.weak (pe_lc hc hN hi ok hg ht he hs) fun σ H Q h => rdLc hown h
theorem xs_setLc {live : Bool} {j : Nat} {y : Str} {py spos : Pos} {elt tg iter : Expr} {ifs : List Expr} {scope : Scope} {own : List (Str × Nat)} {pos : Pos} {i : MI} {g : MG} {t : MB} {m : ME} {gown : List Nat} (hc : X.calm = true) (hN : X.N.Nodup) (hy : X.N[j]? = some y) (hyl : X.env.scope.names.lookup y = some .local)
    (hsw : swapsWith (.ListComp elt [⟨tg, iter, ifs, 0⟩] scope pos) (some (.Name y py)) spos.line X.env = pure true) (hi : PI X tg iter (RdI D w Wx i)) (ok : BlkOk X.N X.env.scope scope own)
    (hg : ∀ (s : Shared) (H : Hp) (C : Addr) (cl : List (Str × Addr)) (fp : List Addr), PG (X.blk s H scope (compEnvC scope cl C X.env) fp) tg (RdG D w gown g)) (ht : ∀ (s : Shared) (H : Hp) (C : Addr) (cl : List (Str × Addr)) (fp : List Addr), PTs (X.blk s H scope (compEnvC scope cl C X.env) fp) ifs (RdB D w WxF t))
    (he : ∀ (s : Shared) (H : Hp) (C : Addr) (cl : List (Str × Addr)) (fp : List Addr), PE (X.blk s H scope (compEnvC scope cl C X.env) fp) elt (RdE D w WxF m)) (hs : ∀ x, foldedSetIterable iter X.env x = pure x) (hown : ∀ i ∈ gown, i ∈ own.map (·.2)) :
    PS X (.Assign [.Name y py] (.ListComp elt [⟨tg, iter, ifs, 0⟩] scope pos) spos) (RdS D w Wx (sAsg (mLc live i g t m (own.map (·.2))) (gN j))) :=
  PS.weak (ps_setLc hc hN hy hyl hsw hi ok hg ht he hs) fun N σ H ⟨F, as, μ, e, S, E, P⟩ => rdLc hown ⟨F, as, μ, e, S, E, PoS.ex P E fun u μ F' H' as' v y s E r P => by
    simp only [gN] at P
    exact P F' H' as' _ Ext.refl s (E.set j r)⟩
def bYes : MB := fun _ μ => .ok true μ
theorem xts_nil : PTs X [] (RdB D w Wx bYes) := ⟨fun pins s σ H Q I ⟨F, as, μ, e, S, E, P⟩ => pts_nil.run pins s σ H Q I (Po.now P S rfl)⟩
theorem xts_one {c : Expr} {t : MB} (h : PT X c (RdB D w Wx t)) : PTs X [c] (RdB D w Wx t) := pts_one h
end
end HQ
/-! HQD: dict displays. -/
namespace HQ
open PySem PySem.Spec PyProof.Rows L2

def nKey : Key → NestedKey
  | .inl i => .num i
  | .inr x => .text x
theorem nKey_hash (w : World) (k : Key) : (nKey k).hash w = keyH w k := by
  cases k <;> rfl
def keyK : T → Option Key
  | .int i => some (.inl i)
  | .str x => some (.inr x)
  | _ => none
section
variable {X : Cx} {D : Ad} {w : World} {Wx : WX}
theorem keyK_ok {F : Hp} {t : T} {k : Key} {v : V} (h : keyK t = some k) (r : RT D w F t v) : v = kV k ∧ keyT 8 t = some (nKey k) := by
  cases t <;> simp only [keyK, Option.some.injEq, reduceCtorEq] at h <;> subst h <;> simp only [RT] at r <;> subst r <;> exact ⟨rfl, rfl⟩
/-- {k: v}: the key a number or a text -/
def dic1 (u v : W) (μ : Mem) : R W := match u, v with
  | .t k, .t v => match keyK k with
    | some _ => .ok (.t (.dic [k] [v])) μ
    | none => .stuck
  | _, _ => .stuck
def mDic1 (mk mv : ME) : ME := fun e μ => (mk e μ).bind fun u μ1 => (mv e μ1).bind fun v μ2 => dic1 u v μ2
theorem dic_one {P : Program} {h : Heap} {a : Addr} {k : Key} {v : V} {vs : Value} (dd : h.DictOf (mixKind P w) a [(k, vs)]) (hd : (a == sysModules) = false) (r : RelV v vs) : DicP w a [⟨nKey k, kV k, v⟩] h := by
  obtain ⟨o, es, ep, h1, h2, h3, h4, h5, h6⟩ := dd
  refine ⟨hd, by show 1 ≤ sizeLine; decide, o, es, ep, h1, h2, h3, ?_⟩
  generalize hl : es.toList = l at h5
  cases h5 with
  | @cons e kv es' kvs' p q rest =>
    cases rest
    have hm : e ∈ es := by
      have : e ∈ es.toList := by rw [hl]; simp
      simpa using this
    obtain ⟨k', hk', hh⟩ := h4 e hm
    have ek : k = k' := (mixKind P w).inj e.key _ _ p hk'
    subst ek
    have rk : RelV (kV k) e.key := by
      rcases keyIs_shape (show keyIs k e.key = true from p) with ⟨i, t, e1, e2⟩ | ⟨x, t, e1, e2⟩ <;> rw [e1, e2] <;> exact ⟨t, rfl⟩
    exact .cons ⟨by rw [hh, nKey_hash]; rfl, rk, by rw [q]; exact r⟩ .nil
theorem Ext.unside {F H F' H' : Hp} {as as' : List Addr} {p : Addr} {o : HO} (X : Ext F (upd H p o) as F' H' as') (hp : H p = none) : Ext F H as F' H' as' := by
  have nn : ∀ a, upd H p o a = none → H a = none := fun a h => by
    by_cases q : a = p
    · rw [q]; exact hp
    · rw [upd_ne q] at h; exact h
  obtain ⟨r, er, hr⟩ := X.more
  exact ⟨X.fs, ⟨r, er, fun a ha => nn a (hr a ha)⟩, fun a u h hn => X.keep a u (by rw [upd_ne (ne_of_none h hp)]; exact h) hn, fun a h => (X.newF a h).imp_right (Or.imp_left (nn a))⟩
theorem Sim.freeze {F H : Hp} {as : List Addr} {μ : Mem} {p : Addr} {o : HO} (S : Sim D w F H as μ) (b : Beside F H as p o) (ho : ¬ oddO o) : Sim D w (upd F p o) H as μ := by
  have sF : Same F (upd F p o) := upd_sub b.f
  refine ⟨fun a u e => ?_, S.len, S.nd, S.there, fun n a y h1 h2 h3 => ?_, fun n a y h1 h2 => RO.mono sF ⟨[], (List.append_nil as).symm⟩ (S.obj n a y h1 h2), S.tb.keep sF (fun b ps _ e => e) (fun a ha => .inl ha) (upd_nt ho)⟩
  · by_cases z : a = p
    · subst z; rw [upd_same] at e; cases e; exact b.h
    · rw [upd_ne z] at e; exact S.sub a u e
  · rw [upd_ne (fun z => b.n (by rw [← z]; exact List.mem_of_getElem? h1))]
    exact S.out n a y h1 h2 h3
theorem Ext.freeze {F0 H0 F H : Hp} {as0 as : List Addr} {p : Addr} {o : HO} (X : Ext F0 H0 as0 F H as) (b : Beside F H as p o) (hp : H0 p = none) : Ext F0 H0 as0 (upd F p o) H as :=
  ⟨X.fs.trans (upd_sub b.f), X.more, X.keep, fun a e => by
    rcases upd_some e with e | e
    · subst e; exact .inr (.inl hp)
    · exact X.newF a e⟩
theorem xe_dic1 {k v : Expr} {mk mv : ME} {pos : Pos} (hw : X.w = w) (hk : PE X k (RdE D w Wx mk)) (hv : PE X v (RdE D w Wx mv)) : PE X (.Dict [some k] [v] pos) (RdE D w Wx (mDic1 mk mv)) := by
  subst hw
  refine ⟨fun pins s σ H Q I ⟨F, as, μ, e, S, E, P⟩ => ?_⟩
  have hn := I.hok.fresh (Nat.le_refl s.heap.objs.size)
  have I1 := I.laid (a := s.heap.objs.size) (o := .dK []) (h' := s.heap.push { cls := .type "dict", data := .dict #[] }) (t' := s.toks) (fun _ _ q => Heap.get?_push_of_some _ q) (Nat.le_refl _) (dk_empty s.heap I.big)
  have B0 : Beside F (upd H s.heap.objs.size (.dK [])) as s.heap.objs.size (.dK []) := ⟨upd_same, S.freeF hn, S.notIn hn, fun ps z => nomatch z⟩
  have S0 := S.side (.dK []) (S.notIn hn) (S.freeF hn) (fun ps => by rw [hn]; simp)
  refine wpAny_Dict_walk (knd := mixKind X.prog X.w) (by rfl) rfl (by simp) (by simp) ?_
  have pp : PPs X pos [some k] [v] [(RdE D X.w Wx mk, RdE D X.w Wx mv)] := pps_cons hk hv pps_nil
  refine thn (pp.run pins _ σ _ (fun ps H2 => H2 s.heap.objs.size = some (.dK []) ∧ ∃ (k : Key) (v : V), ps = [(kV k, v)] ∧ Q (.ref s.heap.objs.size) (upd H2 s.heap.objs.size (dicO X.w s.heap.objs.size [⟨nKey k, kV k, v⟩]))) I1 ?_) fun ws s2 ⟨ps, H2, I2, rel, e, k0, v0, ep, q2⟩ => ?_
  · refine ⟨F, as, μ, e, S0, E, ?_⟩
    unfold mDic1 at P
    cases q1 : mk e μ with
    | stuck => rw [q1] at P; exact P.elim
    | exc x μ1 => rw [q1] at P; exact fun F' H' as' d y s r => P F' H' as' d (y.unside hn) s r
    | ok u μ1 =>
      rw [q1] at P
      intro F1 H1 as1 x X1 S1 R1
      refine ⟨F1, as1, μ1, e, S1, E.mono X1.fs X1.pre, ?_⟩
      replace P : Po D X.w Wx σ F H as (relW D X.w) ((mv e μ1).bind fun v μ2 => dic1 u v μ2) Q := P
      cases q2 : mv e μ1 with
      | stuck => rw [q2] at P; exact P.elim
      | exc x μ2 => rw [q2] at P; exact fun F' H' as' d y s r => P F' H' as' d ((X1.trans y S1.there).unside hn) s r
      | ok v μ2 =>
        rw [q2] at P
        intro F2 H2 as2 y X2 S2 R2
        replace P : Po D X.w Wx σ F H as (relW D X.w) (dic1 u v μ2) Q := P
        unfold dic1 at P
        have X02 := X1.trans X2 S1.there
        have B2 := B0.ext X02
        split at P
        · rename_i tk tv
          split at P
          · rename_i kk qk
            simp only [relW, RW] at R1 R2
            obtain ⟨rfl, hkt⟩ := keyK_ok qk R1
            refine ⟨B2.h, kk, y, rfl, ?_⟩
            have B3 : Beside F2 (upd H2 s.heap.objs.size (dicO X.w s.heap.objs.size [⟨nKey kk, kV kk, y⟩])) as2 s.heap.objs.size (dicO X.w s.heap.objs.size [⟨nKey kk, kV kk, y⟩]) := ⟨upd_same, B2.f, B2.n, fun ps z => by unfold dicO at z; cases z⟩
            have S3 := (S2.side (dicO X.w s.heap.objs.size [⟨nKey kk, kV kk, y⟩]) B2.n B2.f (fun ps => by rw [B2.h]; simp)).freeze B3 (by rintro (⟨_, z⟩ | ⟨_, z⟩) <;> (unfold dicO at z; cases z))
            have X3 := ((X02.unside hn).side (dicO X.w s.heap.objs.size [⟨nKey kk, kV kk, y⟩]) hn).freeze B3 hn
            refine P _ _ as2 _ X3 S3 ?_
            simp only [relW, RW, RT, RTs]
            have sF : Same F2 (upd F2 s.heap.objs.size (dicO X.w s.heap.objs.size [⟨nKey kk, kV kk, y⟩])) := upd_sub B2.f
            exact ⟨s.heap.objs.size, [⟨nKey kk, kV kk, y⟩], rfl, upd_same, ⟨_, [], rfl, RT.mono sF _ _ (RT.mono X2.fs _ _ R1), rfl⟩, ⟨_, [], rfl, RT.mono sF _ _ R2, rfl⟩, by simp [keyTs, hkt], by simp⟩
          · exact P.elim
        · exact P.elim
  · subst ep
    cases rel with
    | @cons a b as' bs r1 r2 =>
      cases r2
      obtain ⟨b1, b2⟩ := b
      obtain ⟨z, hd, vs0, r0, dd⟩ := dk_of I2.hok e
      cases r0
      refine ⟨[(k0, b2)], ⟨kV_is r1.1, rfl, trivial⟩, dd, fun h' dd' hs => ⟨.ref s.heap.objs.size, _, ?_, rfl, q2⟩⟩
      have dd1 : h'.DictOf (mixKind X.prog X.w) s.heap.objs.size [(k0, b2)] := dd'
      have dp := dic_one dd1 hd r1.2
      have he : ∃ q, h'.get? s.heap.objs.size = some q := let ⟨q, _, _, hq, _⟩ := dd'; ⟨q, hq⟩
      refine d_write I2 (by rw [e]; exact True.intro) hs he ⟨dp, he, fun h1 h2 d k => ?_⟩
      obtain ⟨d1, d2, o, xs, ep, e1, rest⟩ := d
      exact ⟨d1, d2, o, xs, ep, k o e1, rest⟩
end
end HQ
/-! HQE: a place to walk from, the nodes of a walk. -/
namespace HQ
open PySem PySem.Spec PyProof.Rows L2

/-- what a walk needs of where it stands: is the slots seen, ls the slots set, gs the module's names, bs built-in ones -/
structure Sc (X : Cx) (D : Ad) (w : World) (Wx : WX) (k : Nat) (is ls : List Nat) (gs bs : List Str) : Prop where
  see : ∀ i x, is.elem i = true → X.N[i]? = some x → Vis X.env.scope x ∧ (x == ("__debug__" : Str)) = false ∧ (x == ("__classdict__" : Str)) = false
  loc : ∀ i x, ls.elem i = true → X.N[i]? = some x → Loc X.env.scope x ∧ (X.fn x = true ∨ X.env.scope.names.lookup x = some .local)
  gl : ∀ (j : Nat) x, gs[j]? = some x → Gl X x ∧ (x == ("__debug__" : Str)) = false
  bl : ∀ (j : Nat) x, bs[j]? = some x → Gl X x ∧ X.mg x = none ∧ x ≠ "__name__" ∧ (x == ("__debug__" : Str)) = false
  nd : X.N.Nodup
  calm : X.calm = true
  tk : Takes X Wx
  room : Room k X.A
  hw : X.w = w

def visB (sc : Scope) (x : Str) : Bool := match sc.names.lookup x with
  | some .local => true
  | some .cell => true
  | some .free => true
  | _ => false
def locB (fn : Bool) (sc : Scope) (x : Str) : Bool := match sc.names.lookup x with
  | some .local => true
  | some .cell => fn
  | _ => false
def glB (sc : Scope) (x : Str) : Bool := match sc.names.lookup x with
  | some .globalImplicit => !(x == ("__debug__" : Str))
  | _ => false
def scB (fn : Bool) (N : List Str) (sc : Scope) (is ls : List Nat) (gs bs : List Str) : Bool :=
  (is.all fun i => match N[i]? with
    | some x => visB sc x && !(x == ("__debug__" : Str)) && !(x == ("__classdict__" : Str))
    | none => false) && (ls.all fun i => match N[i]? with
    | some x => locB fn sc x
    | none => false) && (gs.all fun x => glB sc x) && (bs.all fun x => glB sc x && !(x == ("__name__" : Str)))
theorem visB_ok {sc : Scope} {x : Str} (h : visB sc x = true) : Vis sc x := by
  unfold visB at h
  unfold Vis
  split at h <;> simp_all
theorem glB_ok {sc : Scope} {x : Str} (h : glB sc x = true) : sc.names.lookup x = some .globalImplicit ∧ (x == ("__debug__" : Str)) = false := by
  unfold glB at h
  split at h
  · rename_i e; exact ⟨e, by simpa using h⟩
  · cases h
theorem Sc.of {X : Cx} {D : Ad} {w : World} {Wx : WX} {k : Nat} {is ls : List Nat} {gs bs : List Str} {fn : Bool} {N : List Str} {sc : Scope} (h : scB fn N sc is ls gs bs = true) (hN : X.N = N) (hsc : X.env.scope = sc)
    (hfn : fn = true → ∀ x, sc.names.lookup x = some .cell → X.fn x = true) (hm : ∀ x ∈ bs, X.mg x = none) (nd : X.N.Nodup) (calm : X.calm = true) (tk : Takes X Wx) (room : Room k X.A) (hw : X.w = w) : Sc X D w Wx k is ls gs bs := by
  unfold scB at h
  simp only [Bool.and_eq_true, List.all_eq_true] at h
  obtain ⟨⟨⟨h1, h2⟩, h3⟩, h4⟩ := h
  have kg : ∀ x, glB sc x = true → Gl X x ∧ (x == ("__debug__" : Str)) = false := fun x q => by
    obtain ⟨e, d⟩ := glB_ok q
    refine ⟨?_, d⟩
    show X.env.scope.names.lookup x = _
    rw [hsc]; exact e
  refine ⟨fun i x hi hx => ?_, fun i x hi hx => ?_, fun j x hx => kg x (h3 x (List.mem_of_getElem? hx)), fun j x hx => ?_, nd, calm, tk, room, hw⟩
  · have q := h1 i (by simpa using hi)
    rw [← hN, hx] at q
    simp only [Bool.and_eq_true, Bool.not_eq_true'] at q
    exact ⟨by rw [hsc]; exact visB_ok q.1.1, q.1.2, q.2⟩
  · have q := h2 i (by simpa using hi)
    rw [← hN, hx] at q
    simp only [locB] at q
    rw [hsc]
    split at q
    · rename_i e; exact ⟨.inl e, .inr e⟩
    · rename_i e; exact ⟨.inr e, .inl (hfn q x e)⟩
    · cases q
  · have hmem := List.mem_of_getElem? hx
    have q := h4 x hmem
    simp only [Bool.not_eq_true'] at q
    obtain ⟨a, b⟩ := kg x q.1
    exact ⟨a, hm x hmem, by simpa using q.2, b⟩
theorem Sc.fn {P : Program} {w : World} {K : PySem.W.Frag} {mg : Str → Option Value} {base : Heap} {N : List Str} {qual : Str} {scope : Scope} {f : Addr} {cdv : Value} {A : Around} {outer : List Env} {s : Shared} {H : Hp} {E : XK} {D : Ad} {k : Nat} {is ls : List Nat} {gs bs : List Str}
    (h : scB true N scope is ls gs bs = true) (hm : ∀ x ∈ bs, mg x = none) (nd : N.Nodup) (hr : Room k (A.deeper (envOfC qual scope s.heap.objs.size f cdv))) :
    Sc (cxOf (L2.CX P w) P w K mg base N qual scope f cdv A outer s H E) D w (fun cls d _ H => E cls d H) k is ls gs bs :=
  Sc.of h rfl rfl (fun _ _ _ => rfl) hm nd rfl (takes_of rfl rfl rfl rfl) hr rfl
theorem own_fn {P : Program} {w : World} {K : PySem.W.Frag} {mg : Str → Option Value} {base : Heap} {N : List Str} {qual : Str} {scope : Scope} {f : Addr} {cdv : Value} {A : Around} {outer : List Env} {s : Shared} {H : Hp} {E : XK} :
    PassesOwn (model P w) (cxOf (L2.CX P w) P w K mg base N qual scope f cdv A outer s H E).A (cxOf (L2.CX P w) P w K mg base N qual scope f cdv A outer s H E).env (cxOf (L2.CX P w) P w K mg base N qual scope f cdv A outer s H E).xe := passes_of (X := cxOf (L2.CX P w) P w K mg base N qual scope f cdv A outer s H E) rfl
theorem Sc.blk {X : Cx} {D : Ad} {w : World} {Wx : WX} {k : Nat} {is ls is' ls' : List Nat} {gs bs gs' bs' : List Str} {N : List Str} {sc : Scope} {scope : Scope} (c : Sc X D w Wx k is ls gs bs) (h : scB false N (relS scope sc) is' ls' gs' bs' = true) (hN : X.N = N) (hsc : X.env.scope = sc)
    (hm : ∀ x ∈ bs', X.mg x = none) (s : Shared) (H : Hp) (C : Addr) (cl : List (Str × Addr)) (fp : List Addr) : Sc (X.blk s H scope (compEnvC scope cl C X.env) fp) D w WxF k is' ls' gs' bs' :=
  Sc.of (fn := false) h hN (by rw [← hsc]; rfl) (fun z => by cases z) hm c.nd c.calm (fun _ _ ⟨_, _, _, _, _, _, _, _, _, _, _, _, _, _, _, _, z⟩ => z.elim) c.room c.hw

section
variable {X : Cx} {D : Ad} {w : World} {Wx : WX} {k : Nat} {is ls : List Nat} {gs bs : List Str} (c : Sc X D w Wx k is ls gs bs)
include c
variable {a b d : Expr} {ma mb mc : ME} {ms : MA} {pos p : Pos}
theorem nv (i : Nat) {x : Str} (h1 : is.elem i = true) (h2 : X.N[i]? = some x) : PE X (.Name x pos) (RdE D w Wx (mVar i)) := xe_var h2 (c.see i x h1 h2).1 (c.see i x h1 h2).2.1 (c.see i x h1 h2).2.2
theorem nTy (j : Nat) {x : Str} (h : bs[j]? = some x) {n : String} (hv : bootBuiltins x = some (.type n)) : PE X (.Name x pos) (RdE D w Wx (mT (.ty n))) :=
  have q := c.bl j x h
  xe_c (v := .ty n) (pe_bltn q.1 q.2.1 hv rfl q.2.2.1 q.2.2.2) fun F => by simp only [RT]
/-! operators -/
theorem nAdd (live : Bool) (ha : PE X a (RdE D w Wx ma)) (hb : PE X b (RdE D w Wx mb)) : PE X (.BinOp a .Add b pos) (RdE D w Wx (m2 (fAdd live) ma mb)) := xe_op op_addA add_ok ha hb
theorem nSub (ha : PE X a (RdE D w Wx ma)) (hb : PE X b (RdE D w Wx mb)) : PE X (.BinOp a .Sub b pos) (RdE D w Wx (m2 fSub ma mb)) := xe_op (rI_tt op_sub) sub_ok ha hb
theorem nMul (live : Bool) (ha : PE X a (RdE D w Wx ma)) (hb : PE X b (RdE D w Wx mb)) : PE X (.BinOp a .Mult b pos) (RdE D w Wx (m2 (fMul live) ma mb)) := xe_op op_mulA mul_ok ha hb
theorem nDiv (ha : PE X a (RdE D w Wx ma)) (hb : PE X b (RdE D w Wx mb)) : PE X (.BinOp a .FloorDiv b pos) (RdE D w Wx (m2 fDiv ma mb)) := xe_op op_fdivW div_ok ha hb
theorem nMod (ha : PE X a (RdE D w Wx ma)) (hb : PE X b (RdE D w Wx mb)) : PE X (.BinOp a .Mod b pos) (RdE D w Wx (m2 fMod ma mb)) := xe_op op_mod mod_ok ha hb
theorem nPow (ha : PE X a (RdE D w Wx ma)) (hb : PE X b (RdE D w Wx mb)) : PE X (.BinOp a .Pow b pos) (RdE D w Wx (m2 fPow ma mb)) := xe_op op_pow pow_ok ha hb
theorem nNeg (ha : PE X a (RdE D w Wx ma)) : PE X (.UnaryOp .USub a pos) (RdE D w Wx (m1 fNeg ma)) := xe_un un_neg neg_ok ha
theorem c_u64 : X.A.units + 64 < cLine := by have := c.room.un; omega
theorem c_u65 : X.A.units + 65 < cLine := by have := c.room.un; omega
theorem c_u0 : X.A.units < cLine := by have := c.room.un; omega
/-! comparisons -/
end
section
variable {X : Cx} {D : Ad} {w : World} {Wx : WX}
def fLe (a b : W) (μ : Mem) : R W := match a, b with
  | .t (.int i), .t (.int j) => .ok (.t (.bl (decide (i ≤ j)))) μ
  | .t (.str i), .t (.str j) => .ok (.t (.bl (!decide (j.cps.toList < i.cps.toList)))) μ
  | _, _ => .stuck
def fGt (a b : W) (μ : Mem) : R W := match a, b with
  | .t (.int i), .t (.int j) => .ok (.t (.bl (decide (j < i)))) μ
  | _, _ => .stuck
def fGe (a b : W) (μ : Mem) : R W := match a, b with
  | .t (.int i), .t (.int j) => .ok (.t (.bl (decide (j ≤ i)))) μ
  | _, _ => .stuck
def rLeA : R2 := fun x y H Q => rI0 (fun i j => .bl (decide (i ≤ j))) x y H Q ∨ (∃ i j, x = .str i ∧ y = .str j ∧ Q (.bl (!decide (j.cps.toList < i.cps.toList))) H)
theorem op_leA : OpR X (compareOp .LtE) rLeA := OpR.or op_le op_le_str
theorem le_ok : Op2 D w Wx rLeA fLe := by
  intro σ F H as μ u1 u2 v1 v2 Q S r1 r2 P
  unfold fLe at P
  split at P
  · simp only [RW, RT] at r1 r2
    exact .inl ⟨_, _, r1, r2, Po.now P S (by simp only [relW, RW, RT])⟩
  · simp only [RW, RT] at r1 r2
    exact .inr ⟨_, _, r1, r2, Po.now P S (by simp only [relW, RW, RT])⟩
  · exact P.elim
theorem gt_ok : Op2 D w Wx (rI0 fun i j => .bl (decide (j < i))) fGt := by
  intro σ F H as μ u1 u2 v1 v2 Q S r1 r2 P
  unfold fGt at P
  split at P
  · simp only [RW, RT] at r1 r2
    exact ⟨_, _, r1, r2, Po.now P S (by simp only [relW, RW, RT])⟩
  · exact P.elim
theorem ge_ok : Op2 D w Wx (rI0 fun i j => .bl (decide (j ≤ i))) fGe := by
  intro σ F H as μ u1 u2 v1 v2 Q S r1 r2 P
  unfold fGe at P
  split at P
  · simp only [RW, RT] at r1 r2
    exact ⟨_, _, r1, r2, Po.now P S (by simp only [relW, RW, RT])⟩
  · exact P.elim
/-- a comparison by its rule and its meaning -/
structure Cmp (X : Cx) (D : Ad) (w : World) (Wx : WX) (op : CmpOp) (f : W → W → Mem → R W) : Prop where
  ex : ∃ r, OpR X (compareOp op) r ∧ Op2 D w Wx r f
section
variable {k : Nat} {is ls : List Nat} {gs bs : List Str} (c : Sc X D w Wx k is ls gs bs)
include c
theorem kEq : Cmp X D w Wx .Eq (fEq false) := ⟨_, op_eqA (c_u64 c), eq_ok⟩
theorem kNe : Cmp X D w Wx .NotEq (fEq true) := ⟨_, op_neA (c_u64 c), ne_ok⟩
theorem kLt : Cmp X D w Wx .Lt fLt := ⟨_, op_ltA (c_u0 c), lt_ok⟩
theorem kLe : Cmp X D w Wx .LtE fLe := ⟨_, op_leA, le_ok⟩
theorem kGt : Cmp X D w Wx .Gt fGt := ⟨_, op_gt, gt_ok⟩
theorem kGe : Cmp X D w Wx .GtE fGe := ⟨_, op_ge, ge_ok⟩
theorem kIs : Cmp X D w Wx .Is (fIsN false) := ⟨_, op_isN, isN_ok⟩
theorem kIsN : Cmp X D w Wx .IsNot (fIsN true) := ⟨_, op_notN, notN_ok⟩
theorem kIn : Cmp X D w Wx .In (fIn false) := ⟨_, op_inA (c_u65 c), in_ok⟩
theorem kNIn : Cmp X D w Wx .NotIn (fIn true) := ⟨_, op_notInA (c_u65 c), in_ok⟩
end
section
variable {a b d : Expr} {ma mb mc : ME} {ms : MA} {pos p : Pos} {op op' : CmpOp} {f g : W → W → Mem → R W}
theorem nCmp (q : Cmp X D w Wx op f) (ha : PE X a (RdE D w Wx ma)) (hb : PE X b (RdE D w Wx mb)) (hm : behindInMarks op b = false) : PE X (.Compare a [op] [b] pos) (RdE D w Wx (m2 f ma mb)) :=
  let ⟨_, h1, h2⟩ := q.ex; xe_cmp h1 h2 ha hb hm
theorem tCmp (q : Cmp X D w Wx op f) (ha : PE X a (RdE D w Wx ma)) (hb : PE X b (RdE D w Wx mb)) (hm : behindInMarks op b = false) : PT X (.Compare a [op] [b] pos) (RdB D w Wx (bOf (m2 f ma mb))) :=
  let ⟨_, h1, h2⟩ := q.ex; xt_cmp h1 h2 ha hb hm
theorem nChain (q : Cmp X D w Wx op f) (q' : Cmp X D w Wx op' g) (ha : PE X a (RdE D w Wx ma)) (hb : PE X b (RdE D w Wx mb)) (hc : PE X d (RdE D w Wx mc)) (hm : lastMarks [op, op'] [b, d] = false) : PE X (.Compare a [op, op'] [b, d] pos) (RdE D w Wx (mChain f g ma mb mc)) :=
  let ⟨_, h1, h2⟩ := q.ex; let ⟨_, h3, h4⟩ := q'.ex; xe_chain h1 h2 h3 h4 ha hb hc hm
theorem tChainN (q : Cmp X D w Wx op f) (q' : Cmp X D w Wx op' g) (ha : PE X a (RdE D w Wx ma)) (hb : PE X b (RdE D w Wx mb)) (hc : PE X d (RdE D w Wx mc)) (hm : lastMarks [op, op'] [b, d] = false) : PT X (.Compare a [op, op'] [b, d] pos) (RdB D w Wx (bOf (mChain f g ma mb mc))) :=
  let ⟨_, h1, h2⟩ := q.ex; let ⟨_, h3, h4⟩ := q'.ex; xt_chain h1 h2 h3 h4 ha hb hc hm
theorem nIx (ha : PE X a (RdE D w Wx ma)) (hb : PE X b (RdE D w Wx mb)) (hs : PlainIx b) : PE X (.Subscript a b pos) (RdE D w Wx (m2 fIdx ma mb)) := xe_ix ix_A idx_ok ha hb hs
end
/-! built-in calls -/
section
variable {k : Nat} {is ls : List Nat} {gs bs : List Str} (c : Sc X D w Wx k is ls gs bs) {e : Expr} {es : List Expr} {ms : MA} {p pos : Pos}
include c
theorem callB {x : Str} {id : String} {r : List V → Hp → VK → Prop} {f : List W → Mem → R W} (j : Nat) (h : bs[j]? = some x) (hc : CallR X (.builtin id) r) (ho : OpA D w Wx r f) (hv : bootBuiltins x = some (.builtin id)) (ha : PA X (e :: es) (RdA D w Wx ms))
    (he : starEach (e :: es) X.env = (false, eval e X.env) :: starEach es X.env) (hpl : (backTo pos (starEach es X.env)).any (·.1) = false) : PE X (.Call (.Name x p) (e :: es) [] pos) (RdE D w Wx (mA f ms)) :=
  have q := c.bl j x h; xe_callB hc ho q.1 q.2.1 hv ha q.2.2.1 q.2.2.2 he hpl
theorem callTy {x : Str} {n : String} {r : List V → Hp → VK → Prop} {f : List W → Mem → R W} (j : Nat) (h : bs[j]? = some x) (hc : CallR X (.type n) r) (ho : OpA D w Wx r f) (hv : bootBuiltins x = some (.type n)) (ha : PA X (e :: es) (RdA D w Wx ms))
    (he : starEach (e :: es) X.env = (false, eval e X.env) :: starEach es X.env) (hpl : (backTo pos (starEach es X.env)).any (·.1) = false) : PE X (.Call (.Name x p) (e :: es) [] pos) (RdE D w Wx (mA f ms)) :=
  have q := c.bl j x h; xe_callTy hc ho q.1 q.2.1 hv ha q.2.2.1 q.2.2.2 he hpl
theorem nLen (j : Nat) (h : bs[j]? = some "len") (ha : PA X (e :: es) (RdA D w Wx ms)) (he : starEach (e :: es) X.env = (false, eval e X.env) :: starEach es X.env) (hpl : (backTo pos (starEach es X.env)).any (·.1) = false) :
    PE X (.Call (.Name "len" p) (e :: es) [] pos) (RdE D w Wx (mA fLen ms)) := callB c j h call_lenA len_ok boot_len ha he hpl
theorem nMax (j : Nat) (h : bs[j]? = some "max") (ha : PA X (e :: es) (RdA D w Wx ms)) (he : starEach (e :: es) X.env = (false, eval e X.env) :: starEach es X.env) (hpl : (backTo pos (starEach es X.env)).any (·.1) = false) :
    PE X (.Call (.Name "max" p) (e :: es) [] pos) (RdE D w Wx (mA fMax ms)) := callB c j h (call_max2 c.calm) max_ok boot_max ha he hpl
theorem nMin (j : Nat) (h : bs[j]? = some "min") (ha : PA X (e :: es) (RdA D w Wx ms)) (he : starEach (e :: es) X.env = (false, eval e X.env) :: starEach es X.env) (hpl : (backTo pos (starEach es X.env)).any (·.1) = false) :
    PE X (.Call (.Name "min" p) (e :: es) [] pos) (RdE D w Wx (mA fMin ms)) := callB c j h (call_min2 c.calm) min_ok boot_min ha he hpl
theorem nIsi {kt : TyC → TyC → Option Bool} (hk : KT X.K D kt) (j : Nat) (h : bs[j]? = some "isinstance") (ha : PA X (e :: es) (RdA D w Wx ms)) (he : starEach (e :: es) X.env = (false, eval e X.env) :: starEach es X.env) (hpl : (backTo pos (starEach es X.env)).any (·.1) = false) :
    PE X (.Call (.Name "isinstance" p) (e :: es) [] pos) (RdE D w Wx (mA (fIsi kt) ms)) := callB c j h call_isiA (isi_ok hk) PyProof.Rows.boot_isinstance ha he hpl
theorem nInt (j : Nat) (h : bs[j]? = some "int") (ha : PA X (e :: es) (RdA D w Wx ms)) (he : starEach (e :: es) X.env = (false, eval e X.env) :: starEach es X.env) (hpl : (backTo pos (starEach es X.env)).any (·.1) = false) :
    PE X (.Call (.Name "int" p) (e :: es) [] pos) (RdE D w Wx (mA fInt ms)) := callTy c j h call_intA int_ok boot_int ha he hpl
theorem nList (live : Bool) (j : Nat) (h : bs[j]? = some "list") (ha : PA X (e :: es) (RdA D w Wx ms)) (he : starEach (e :: es) X.env = (false, eval e X.env) :: starEach es X.env) (hpl : (backTo pos (starEach es X.env)).any (·.1) = false) :
    PE X (.Call (.Name "list" p) (e :: es) [] pos) (RdE D w Wx (mA (fList live) ms)) := callTy c j h call_list_of list_ok boot_list ha he hpl
theorem nTuple (j : Nat) (h : bs[j]? = some "tuple") (ha : PA X (e :: es) (RdA D w Wx ms)) (he : starEach (e :: es) X.env = (false, eval e X.env) :: starEach es X.env) (hpl : (backTo pos (starEach es X.env)).any (·.1) = false) :
    PE X (.Call (.Name "tuple" p) (e :: es) [] pos) (RdE D w Wx (mA fTuple ms)) := callTy c j h call_tupP tuple_ok boot_tuple ha he hpl
theorem nStr (j : Nat) (h : bs[j]? = some "str") (ha : PA X (e :: es) (RdA D w Wx ms)) (he : starEach (e :: es) X.env = (false, eval e X.env) :: starEach es X.env) (hpl : (backTo pos (starEach es X.env)).any (·.1) = false) :
    PE X (.Call (.Name "str" p) (e :: es) [] pos) (RdE D w Wx (mA fStr ms)) := callTy c j h call_str_int str_ok boot_str ha he hpl
end
section
variable {o e : Expr} {mo me : ME} {apos pos : Pos}
theorem nJoin (ho : PE X o (RdE D w Wx mo)) (he : PE X e (RdE D w Wx me)) (hs : starEach [e] X.env = [(false, eval e X.env)]) (hbase : attributeBase o "join" X.env (eval o X.env) = eval o X.env) (hline : (apos.endLine == pos.line) = true) :
    PE X (.Call (.Attribute o "join" apos) [e] [] pos) (RdE D w Wx (mM1 fJoin mo me)) := xe_m1 PySem.F.slot_str_join PySem.F.type_str_join mt_join join_ok ho he hs hbase hline
theorem nFind (ho : PE X o (RdE D w Wx mo)) (he : PE X e (RdE D w Wx me)) (hs : starEach [e] X.env = [(false, eval e X.env)]) (hbase : attributeBase o "find" X.env (eval o X.env) = eval o X.env) (hline : (apos.endLine == pos.line) = true) :
    PE X (.Call (.Attribute o "find" apos) [e] [] pos) (RdE D w Wx (mM1 fFind mo me)) := xe_m1 PySem.F.slot_str_find PySem.F.type_str_find mt_find find_ok ho he hs hbase hline
end
/-! own defs -/
/-- the def x of the module, as it is called -/
def Fk (P : Program) (K : PySem.W.Frag) (mg : Str → Option Value) (base : Heap) (D : Ad) (w : World) (k : Nat) (x : Str) (n : Nat) (f : MF) (dts : List T) : Prop :=
  ∃ fA fd ps dvs ds, mg x = some (.ref fA) ∧ FnOk P w K mg base (L2.CX P w) k fA fd ps (spF D w n f) ∧ Binds K fd ps ds ∧ Vals dvs ds ∧ (∀ F, RTs D w F dts dvs) ∧ PySem.W.keepIn K (.ref fA) = true
theorem nCall {k : Nat} {is ls : List Nat} {gs bs : List Str} (c : Sc X D w Wx k is ls gs bs) {e : Expr} {es : List Expr} {ms : MA} {p pos : Pos} {x : Str} {n kf : Nat} {f : MF} {dts : List T} (pu : Bool) (j : Nat) (h : gs[j]? = some x) (F : Fk X.prog X.K X.mg X.base D X.w kf x n f dts) (hk : kf ≤ k) (ha : PA X (e :: es) (RdA D w Wx ms))
    (he : starEach (e :: es) X.env = (false, eval e X.env) :: starEach es X.env) (hpl : (backTo pos (starEach es X.env)).any (·.1) = false) : PE X (.Call (.Name x p) (e :: es) [] pos) (RdE D w Wx (mA (callF f n dts pu) ms)) := by
  obtain ⟨fA, fd, ps, dvs, ds, h1, h2, h3, h4, h5, h6⟩ := F
  have hw := c.hw
  subst hw
  exact xe_call h2 (c.room.mono hk) (c.gl j x h).1 h1 h6 h3 h4 h5 c.tk ha (c.gl j x h).2 he hpl
/-! targets, loops -/
section
variable {k : Nat} {is ls : List Nat} {gs bs : List Str} (c : Sc X D w Wx k is ls gs bs)
include c
theorem gv (i : Nat) {x : Str} {pos : Pos} (h1 : ls.elem i = true) (h2 : X.N[i]? = some x) : PG X (.Name x pos) (RdG D w [i] (gN i)) := xg_name c.nd h2 (c.loc i x h1 h2).1 (c.loc i x h1 h2).2
theorem gs_cons (i : Nat) {x : Str} {pos : Pos} {es : List Expr} {is' : List Nat} (h1 : ls.elem i = true) (h2 : X.N[i]? = some x) (hs : PGs X es (gNames is')) (he : (assignEach (.Name x pos :: es) X.env).map (·.2) = assign (.Name x pos) X.env :: (assignEach es X.env).map (·.2)) : PGs X (.Name x pos :: es) (gNames (i :: is')) :=
  pgs_cons (pg_name c.nd h2 (c.loc i x h1 h2).1 (c.loc i x h1 h2).2) hs he
end
theorem nLc {k : Nat} {is ls : List Nat} {gs bs : List Str} (c : Sc X D w Wx k is ls gs bs) {live : Bool} {elt tg iter : Expr} {ifs : List Expr} {scope : Scope} {own : List (Str × Nat)} {pos : Pos} {i : MI} {g : MG} {t : MB} {m : ME} {gown : List Nat} {is' ls' : List Nat} {gs' bs' : List Str}
    (h : scB false X.N (relS scope X.env.scope) is' ls' gs' bs' = true) (hm : ∀ x ∈ bs', X.mg x = none) (hk : blkC X.N X.env.scope scope own = true) (hi : PI X tg iter (RdI D w Wx i))
    (hg : ∀ (s : Shared) (H : Hp) (C : Addr) (cl : List (Str × Addr)) (fp : List Addr), Sc (X.blk s H scope (compEnvC scope cl C X.env) fp) D w WxF k is' ls' gs' bs' → PG (X.blk s H scope (compEnvC scope cl C X.env) fp) tg (RdG D w gown g))
    (ht : ∀ (s : Shared) (H : Hp) (C : Addr) (cl : List (Str × Addr)) (fp : List Addr), Sc (X.blk s H scope (compEnvC scope cl C X.env) fp) D w WxF k is' ls' gs' bs' → PTs (X.blk s H scope (compEnvC scope cl C X.env) fp) ifs (RdB D w WxF t))
    (he : ∀ (s : Shared) (H : Hp) (C : Addr) (cl : List (Str × Addr)) (fp : List Addr), Sc (X.blk s H scope (compEnvC scope cl C X.env) fp) D w WxF k is' ls' gs' bs' → PE (X.blk s H scope (compEnvC scope cl C X.env) fp) elt (RdE D w WxF m))
    (hs : ∀ x, foldedSetIterable iter X.env x = pure x) (hown : ∀ i ∈ gown, i ∈ own.map (·.2)) : PE X (.ListComp elt [⟨tg, iter, ifs, 0⟩] scope pos) (RdE D w Wx (mLc live i g t m (own.map (·.2)))) :=
  have q := Sc.blk c h rfl rfl hm
  xe_lc c.calm c.nd hi (blkOk_by hk) (fun s H C cl fp => hg s H C cl fp (q s H C cl fp)) (fun s H C cl fp => ht s H C cl fp (q s H C cl fp)) (fun s H C cl fp => he s H C cl fp (q s H C cl fp)) hs hown
theorem sLc {k : Nat} {is ls : List Nat} {gs bs : List Str} (c : Sc X D w Wx k is ls gs bs) {live : Bool} {j : Nat} {y : Str} {py spos : Pos} {elt tg iter : Expr} {ifs : List Expr} {scope : Scope} {own : List (Str × Nat)} {pos : Pos} {i : MI} {g : MG} {t : MB} {m : ME} {gown : List Nat} {is' ls' : List Nat} {gs' bs' : List Str}
    (hy : X.N[j]? = some y) (hk0 : X.env.scope.kind = .function) (hyl : X.env.scope.names.lookup y = some .local) (hl : (py.line == spos.line) = true) (hl2 : (py.line == pos.line) = true) (hya : (scope.names.any fun (n, k) => n == y && (k == .local || k == .cell)) = false)
    (h : scB false X.N (relS scope X.env.scope) is' ls' gs' bs' = true) (hm : ∀ x ∈ bs', X.mg x = none) (hk : blkC X.N X.env.scope scope own = true) (hi : PI X tg iter (RdI D w Wx i))
    (hg : ∀ (s : Shared) (H : Hp) (C : Addr) (cl : List (Str × Addr)) (fp : List Addr), Sc (X.blk s H scope (compEnvC scope cl C X.env) fp) D w WxF k is' ls' gs' bs' → PG (X.blk s H scope (compEnvC scope cl C X.env) fp) tg (RdG D w gown g))
    (ht : ∀ (s : Shared) (H : Hp) (C : Addr) (cl : List (Str × Addr)) (fp : List Addr), Sc (X.blk s H scope (compEnvC scope cl C X.env) fp) D w WxF k is' ls' gs' bs' → PTs (X.blk s H scope (compEnvC scope cl C X.env) fp) ifs (RdB D w WxF t))
    (he : ∀ (s : Shared) (H : Hp) (C : Addr) (cl : List (Str × Addr)) (fp : List Addr), Sc (X.blk s H scope (compEnvC scope cl C X.env) fp) D w WxF k is' ls' gs' bs' → PE (X.blk s H scope (compEnvC scope cl C X.env) fp) elt (RdE D w WxF m))
    (hs : ∀ x, foldedSetIterable iter X.env x = pure x) (hown : ∀ i ∈ gown, i ∈ own.map (·.2)) : PS X (.Assign [.Name y py] (.ListComp elt [⟨tg, iter, ifs, 0⟩] scope pos) spos) (RdS D w Wx (sAsg (mLc live i g t m (own.map (·.2))) (gN j))) :=
  have q := Sc.blk c h rfl rfl hm
  xs_setLc c.calm c.nd hy hyl (sw_true hk0 hyl hl2 hya) hi (blkOk_by hk) (fun s H C cl fp => hg s H C cl fp (q s H C cl fp)) (fun s H C cl fp => ht s H C cl fp (q s H C cl fp)) (fun s H C cl fp => he s H C cl fp (q s H C cl fp)) hs hown
theorem gs_nil : PGs X [] (gNames []) := pgs_nil
end
end HQ
namespace HQ
open PySem PySem.Spec PyProof.Rows L2
def bTys : List String := ["int", "bool", "str", "list", "tuple", "dict", "NoneType"]
/-- is a thing of this built-in type one of that -/
def ktB : TyC → TyC → Option Bool
  | .b n, .b m => if bTys.elem n = true ∧ bTys.elem m = true then some (n == m || (n == "bool" && m == "int")) else none
  | _, _ => none
theorem ktB_ok {K : PySem.W.Frag} {D : Ad} : KT K D ktB where
  one := fun a b r h => by
    cases a with
    | c _ => simp [ktB] at h
    | b n => cases b with
      | c _ => simp [ktB] at h
      | b m =>
        simp only [ktB] at h
        split at h
        · rename_i q
          obtain ⟨q1, q2⟩ := q
          simp only [Option.some.injEq] at h
          subst h
          simp only [bTys, List.elem_eq_mem, decide_eq_true_eq, List.mem_cons, List.not_mem_nil, or_false] at q1 q2
          rcases q1 with rfl | rfl | rfl | rfl | rfl | rfl | rfl <;> rcases q2 with rfl | rfl | rfl | rfl | rfl | rfl | rfl <;> kernel_rfl
        · cases h
  own := fun c b r h => by cases b <;> simp [ktB] at h
end HQ
/-! HQW: what an outcome is worth: rules for reading meanings, without any program. -/
namespace HQ
open PySem PySem.Spec PyProof.Rows L2

/-- the outcome is good: a value of which Q holds, or an exception of which X holds -/
def Wp {α : Type} (r : R α) (Q : α → Mem → Prop) (X : XV → Mem → Prop) : Prop := match r with
  | .ok a μ => Q a μ
  | .exc x μ => X x μ
  | .stuck => False
abbrev noX : XV → Mem → Prop := fun _ _ => False
abbrev noE : En → Mem → Prop := fun _ _ => False
abbrev noXS : XV → En → Mem → Prop := fun _ _ _ => False
/-- how a block may end: on, back, continue, break, an exception -/
def WpS (r : SR) (nx : En → Mem → Prop) (rt : W → Mem → Prop) (ct bk : En → Mem → Prop) (ex : XV → En → Mem → Prop) : Prop := match r with
  | .nx e μ => nx e μ
  | .rt u μ => rt u μ
  | .ct e μ => ct e μ
  | .bk e μ => bk e μ
  | .exc x e μ => ex x e μ
  | .stuck => False
section
variable {α β : Type} {Q Q' : α → Mem → Prop} {X X' : XV → Mem → Prop} {μ : Mem}
theorem Wp.imp {r : R α} (h : Wp r Q X) (q : ∀ a μ, Q a μ → Q' a μ) (x : ∀ v μ, X v μ → X' v μ) : Wp r Q' X' := by
  cases r with
  | ok a μ => exact q _ _ h
  | exc v μ => exact x _ _ h
  | stuck => exact h
theorem Wp.mono {r : R α} (h : Wp r Q noX) (q : ∀ a μ, Q a μ → Q' a μ) : Wp r Q' X := h.imp q fun _ _ h => h.elim
theorem Wp.eq {r : R α} {a : α} {μ : Mem} (h : Wp r (fun b ν => b = a ∧ ν = μ) noX) : r = .ok a μ := by
  cases r with
  | ok b ν => obtain ⟨rfl, rfl⟩ := h; rfl
  | exc v μ => exact h.elim
  | stuck => exact h.elim
theorem Wp.ex {r : R α} (h : Wp r Q noX) : ∃ a μ, r = .ok a μ ∧ Q a μ := by
  cases r with
  | ok b ν => exact ⟨b, ν, rfl, h⟩
  | exc v μ => exact h.elim
  | stuck => exact h.elim
theorem Wp.of {r : R α} {a : α} {μ : Mem} (e : r = .ok a μ) (q : Q a μ) : Wp r Q X := by rw [e]; exact q
theorem w_ok {a : α} (h : Q a μ) : Wp (.ok a μ) Q X := h
theorem w_bind {r : R β} {f : β → Mem → R α} (h : Wp r (fun a μ => Wp (f a μ) Q X) X) : Wp (r.bind f) Q X := by cases r <;> exact h
theorem w_if {c : Prop} [Decidable c] {a b : R α} (h : c ∧ Wp a Q X) : Wp (if c then a else b) Q X := by rw [if_pos h.1]; exact h.2
/-- an if of conditions -/
theorem p_ite {c : Prop} [Decidable c] {a b : Prop} (h1 : c → a) (h2 : ¬ c → b) : if c then a else b := by split <;> rename_i h; exact h1 h; exact h2 h
theorem p_iteB {c : Bool} {a b : Prop} (h1 : c = true → a) (h2 : c = false → b) : if c = true then a else b := by cases c; exact h2 rfl; exact h1 rfl
theorem p_iteT {a b : Prop} (h : a) : if true = true then a else b := h
theorem p_iteF {a b : Prop} (h : b) : if false = true then a else b := h
end
theorem p_iteNT {a b : Prop} (h : a) : if (!false) = true then a else b := h
theorem p_iteNF {a b : Prop} (h : b) : if (!true) = true then a else b := h
theorem p_B {c : Bool} {a b : Prop} (h1 : c = true → a) (h2 : c = false → b) : if c = true then a else b := p_iteB h1 h2
theorem p_N {c : Bool} {a b : Prop} (h1 : c = false → a) (h2 : c = true → b) : if (!c) = true then a else b := by cases c; exact h1 rfl; exact h2 rfl
theorem p_D {p : Prop} [Decidable p] {a b : Prop} (h1 : p → a) (h2 : ¬ p → b) : if decide p = true then a else b := by split <;> rename_i h; exact h1 (of_decide_eq_true h); exact h2 (fun q => h (decide_eq_true q))
theorem p_ND {p : Prop} [Decidable p] {a b : Prop} (h1 : ¬ p → a) (h2 : p → b) : if (!decide p) = true then a else b := p_N (fun h => h1 (of_decide_eq_false h)) fun h => h2 (of_decide_eq_true h)
theorem p_pos {c : Prop} [Decidable c] {a b : Prop} (hc : c) (h : a) : if c then a else b := by rw [if_pos hc]; exact h
theorem p_neg {c : Prop} [Decidable c] {a b : Prop} (hc : ¬ c) (h : b) : if c then a else b := by rw [if_neg hc]; exact h
theorem nT {b : Bool} (h : (if true = true then !b else b) = true) : b = false := by cases b <;> simp_all
theorem nF {b : Bool} (h : (if true = true then !b else b) = false) : b = true := by cases b <;> simp_all
theorem yT {b : Bool} (h : (if false = true then !b else b) = true) : b = true := by cases b <;> simp_all
theorem yF {b : Bool} (h : (if false = true then !b else b) = false) : b = false := by cases b <;> simp_all
theorem bT {b : Bool} (h : (!b) = true) : b = false := by cases b <;> simp_all
theorem bF {b : Bool} (h : (!b) = false) : b = true := by cases b <;> simp_all
section
variable {α : Type} {Q : W → Mem → Prop} {QB : Bool → Mem → Prop} {QA : List W → Mem → Prop} {X : XV → Mem → Prop} {e : En} {μ : Mem} {nx ct bk nx' ct' bk' : En → Mem → Prop} {rt rt' : W → Mem → Prop} {ex ex' : XV → En → Mem → Prop}
theorem WpS.imp {r : SR} (h : WpS r nx rt ct bk ex) (h1 : ∀ e μ, nx e μ → nx' e μ) (h2 : ∀ e μ, rt e μ → rt' e μ) (h3 : ∀ e μ, ct e μ → ct' e μ) (h4 : ∀ e μ, bk e μ → bk' e μ) (h5 : ∀ x e μ, ex x e μ → ex' x e μ) : WpS r nx' rt' ct' bk' ex' := by
  cases r with
  | nx e μ => exact h1 _ _ h
  | rt e μ => exact h2 _ _ h
  | ct e μ => exact h3 _ _ h
  | bk e μ => exact h4 _ _ h
  | exc x e μ => exact h5 _ _ _ h
  | stuck => exact h
theorem ws_seq {r : SR} {k : MS} (h : WpS r (fun e μ => WpS (k e μ) nx rt ct bk ex) rt ct bk ex) : WpS (r.seq k) nx rt ct bk ex := by cases r <;> exact h
theorem ws_st {r : R α} {k : α → Mem → SR} (h : Wp r (fun a μ => WpS (k a μ) nx rt ct bk ex) (fun x μ => ex x e μ)) : WpS (r.st e k) nx rt ct bk ex := by cases r <;> exact h
/-! expressions -/
theorem w_var {i : Nat} {u : W} {l : En} (h : l[i]? = some (some u)) (q : Q u μ) : Wp (mVar i l μ) Q X := by simp only [mVar, h]; exact q
theorem w_T {t : T} (q : Q (.t t) μ) : Wp (mT t e μ) Q X := q
theorem w_m2 {f : W → W → Mem → R W} {a b : ME} (h : Wp (a e μ) (fun u μ1 => Wp (b e μ1) (fun v μ2 => Wp (f u v μ2) Q X) X) X) : Wp (m2 f a b e μ) Q X := w_bind (h.imp (fun _ _ h => w_bind h) fun _ _ h => h)
theorem w_m1 {f : W → Mem → R W} {a : ME} (h : Wp (a e μ) (fun u μ1 => Wp (f u μ1) Q X) X) : Wp (m1 f a e μ) Q X := w_bind h
theorem w_mA {f : List W → Mem → R W} {a : MA} (h : Wp (a e μ) (fun u μ1 => Wp (f u μ1) Q X) X) : Wp (mA f a e μ) Q X := w_bind h
theorem w_bOf {a : ME} (h : Wp (a e μ) (fun u μ1 => Wp (asB u μ1) QB X) X) : Wp (bOf a e μ) QB X := w_bind h
theorem w_asB {b : Bool} (h : QB b μ) : Wp (asB (.t (.bl b)) μ) QB X := h
theorem w_bNot {t : MB} (h : Wp (t e μ) (fun b μ1 => QB (!b) μ1) X) : Wp (bNot t e μ) QB X := w_bind h
theorem w_bAnd {a b : MB} (h : Wp (a e μ) (fun c μ1 => if c = true then Wp (b e μ1) QB X else QB false μ1) X) : Wp (bAnd a b e μ) QB X := w_bind (h.imp (fun c _ h => by cases c <;> exact h) fun _ _ h => h)
theorem w_bOr {a b : MB} (h : Wp (a e μ) (fun c μ1 => if c = true then QB true μ1 else Wp (b e μ1) QB X) X) : Wp (bOr a b e μ) QB X := w_bind (h.imp (fun c _ h => by cases c <;> exact h) fun _ _ h => h)
theorem w_bYes (h : QB true μ) : Wp (bYes e μ) QB X := h
theorem w_andV {a b : ME} (h : Wp (a e μ) (fun u μ1 => Wp (asB u μ1) (fun c μ1 => if c = true then Wp (b e μ1) Q X else Q (.t (.bl false)) μ1) X) X) : Wp (mAndV a b e μ) Q X := w_bind (w_bOf (h.imp (fun u _ h => h.imp (fun c _ h => by cases c <;> exact h) fun _ _ h => h) fun _ _ h => h))
theorem w_orV {a b : ME} (h : Wp (a e μ) (fun u μ1 => Wp (asB u μ1) (fun c μ1 => if c = true then Q (.t (.bl true)) μ1 else Wp (b e μ1) Q X) X) X) : Wp (mOrV a b e μ) Q X := w_bind (w_bOf (h.imp (fun u _ h => h.imp (fun c _ h => by cases c <;> exact h) fun _ _ h => h) fun _ _ h => h))
theorem w_notV {a : ME} (h : Wp (a e μ) (fun u μ1 => Wp (asB u μ1) (fun c μ1 => Q (.t (.bl (!c))) μ1) X) X) : Wp (mNotV a e μ) Q X := w_bind (w_bOf h)
theorem w_mIf {t : MB} {a b : ME} (h : Wp (t e μ) (fun c μ1 => if c = true then Wp (a e μ1) Q X else Wp (b e μ1) Q X) X) : Wp (mIf t a b e μ) Q X := w_bind (h.imp (fun c _ h => by cases c <;> exact h) fun _ _ h => h)
theorem w_aNil (h : QA [] μ) : Wp (aNil e μ) QA X := h
theorem w_aCons {a : ME} {as : MA} (h : Wp (a e μ) (fun u μ1 => Wp (as e μ1) (fun us μ2 => QA (u :: us) μ2) X) X) : Wp (aCons a as e μ) QA X := w_bind (h.imp (fun _ _ h => w_bind h) fun _ _ h => h)
theorem w_mTup {as : MA} (h : Wp (as e μ) (fun us μ1 => us.length ≤ bigL ∧ Q (mkTup us) μ1) X) : Wp (mTup as e μ) Q X := w_bind (h.imp (fun _ _ h => w_if h) fun _ _ h => h)
theorem w_mLst {live : Bool} {as : MA} (h : Wp (as e μ) (fun us μ1 => us.length ≤ bigL ∧ Wp (mkL live us μ1) Q X) X) : Wp (mLst live as e μ) Q X := w_bind (h.imp (fun _ _ h => w_if h) fun _ _ h => h)
theorem w_mM1 {f : Str → W → Mem → R W} {a b : ME} (h : Wp (a e μ) (fun u μ1 => ∃ x, u = .t (.str x) ∧ Wp (b e μ1) (fun v μ2 => Wp (f x v μ2) Q X) X) X) : Wp (mM1 f a b e μ) Q X :=
  w_bind (h.imp (fun _ _ ⟨x, e, h⟩ => by subst e; exact w_bind h) fun _ _ h => h)
theorem w_mChain {f g : W → W → Mem → R W} {a b c : ME} (h : Wp (a e μ) (fun u μ1 => Wp (b e μ1) (fun v μ2 => Wp (f u v μ2) (fun z μ3 => Wp (asB z μ3) (fun k μ3 => if k = true then Wp (c e μ3) (fun d μ4 => Wp (g v d μ4) Q X) X else Q (.t (.bl false)) μ3) X) X) X) X) : Wp (mChain f g a b c e μ) Q X :=
  w_bind (h.imp (fun u _ h => w_bind (h.imp (fun v _ h => w_bind (h.imp (fun z _ h => by
    cases z with
    | t t =>
      cases t <;> first | exact h.elim | skip
      rename_i k
      cases k
      · exact h
      · exact w_bind h
    | ref n => exact h.elim
    | tup ws => exact h.elim) fun _ _ h => h)) fun _ _ h => h)) fun _ _ h => h)
theorem w_oNone {Q : Option Int → Mem → Prop} (h : Q none μ) : Wp (oNone e μ) Q X := h
theorem w_oSome {Q : Option Int → Mem → Prop} {m : ME} (h : Wp (m e μ) (fun u μ1 => ∃ i, u = .t (.int i) ∧ Q (some i) μ1) X) : Wp (oSome m e μ) Q X := w_bind (h.imp (fun _ _ ⟨x, e, h⟩ => by subst e; exact h) fun _ _ h => h)
theorem w_mSl {live : Bool} {m : ME} {lo hi : MO} (h : Wp (m e μ) (fun u μ1 => Wp (lo e μ1) (fun l μ2 => Wp (hi e μ2) (fun h μ3 => Wp (fSl live u l h μ3) Q X) X) X) X) : Wp (mSl live m lo hi e μ) Q X := w_bind (h.imp (fun _ _ h => w_bind (h.imp (fun _ _ h => w_bind h) fun _ _ h => h)) fun _ _ h => h)
theorem w_mDic1 {a b : ME} (h : Wp (a e μ) (fun u μ1 => Wp (b e μ1) (fun v μ2 => Wp (dic1 u v μ2) Q X) X) X) : Wp (mDic1 a b e μ) Q X := w_bind (h.imp (fun _ _ h => w_bind h) fun _ _ h => h)
/-! operations -/
theorem w_iop {C : Int → Int → Bool} {g : Int → Int → T} {i j : Int} (c : C i j = true) (h : Q (.t (g i j)) μ) : Wp (iop C g (.t (.int i)) (.t (.int j)) μ) Q X := by simp only [iop, if_pos c]; exact h
theorem w_sub {i j : Int} (h : Q (.t (.int (i - j))) μ) : Wp (fSub (.t (.int i)) (.t (.int j)) μ) Q X := w_iop rfl h
theorem w_mod {i j : Int} (c : 0 < j) (h : Q (.t (.int (i % j))) μ) : Wp (fMod (.t (.int i)) (.t (.int j)) μ) Q X := w_iop (decide_eq_true c) h
theorem log2_lt {i : Int} {k : Nat} (h : i.natAbs < 2 ^ (k + 1)) : i.natAbs.log2 ≤ k := by
  by_cases e : i.natAbs = 0
  · rw [e]; simp
  · have := (Nat.log2_lt e).mpr h
    omega
theorem w_div {i j : Int} (c : 0 < j) (c2 : j < 2 ^ 200) (h : Q (.t (.int (i / j))) μ) : Wp (fDiv (.t (.int i)) (.t (.int j)) μ) Q X := w_iop (by
  have := @log2_lt j 200 (by omega)
  simp only [cDiv, Bool.and_eq_true, decide_eq_true_eq]; omega) h
theorem cmul_of {i j : Int} (h1 : i.natAbs < 2 ^ 200) (h2 : j.natAbs < 2 ^ 200) : cMul i j = true := by
  have := @log2_lt i 200 (by omega)
  have := @log2_lt j 200 (by omega)
  simp only [cMul, decide_eq_true_eq]; omega
theorem w_pow {i j : Int} (c : 0 ≤ j ∧ j ≤ 1000000 ∧ i.natAbs < 2 ^ 64) (h : Q (.t (.int (i ^ j.toNat))) μ) : Wp (fPow (.t (.int i)) (.t (.int j)) μ) Q X := w_iop (decide_eq_true c) h
theorem w_addI {l : Bool} {i j : Int} (h : Q (.t (.int (i + j))) μ) : Wp (fAdd l (.t (.int i)) (.t (.int j)) μ) Q X := h
theorem w_addS {l : Bool} {i j : Str} (c : i.length + j.length ≤ bigL) (h : Q (.t (.str (i ++ j))) μ) : Wp (fAdd l (.t (.str i)) (.t (.str j)) μ) Q X := w_if ⟨c, h⟩
theorem w_addL {l : Bool} {a b : List T} (c : a.length + b.length ≤ bigL) (h : Wp (mkL l ((a ++ b).map .t) μ) Q X) : Wp (fAdd l (.t (.lst a)) (.t (.lst b)) μ) Q X := by
  show Wp (if (a.map W.t).length + (b.map W.t).length ≤ bigL then mkL l (a.map .t ++ b.map .t) μ else .stuck) Q X
  rw [← List.map_append]
  exact w_if ⟨by simpa using c, h⟩
theorem w_mulI {l : Bool} {i j : Int} (c : cMul i j = true) (h : Q (.t (.int (i * j))) μ) : Wp (fMul l (.t (.int i)) (.t (.int j)) μ) Q X := w_if ⟨c, h⟩
theorem w_neg {i : Int} (h : Q (.t (.int (-i))) μ) : Wp (fNeg (.t (.int i)) μ) Q X := h
theorem w_gt {i j : Int} (h : Q (.t (.bl (decide (j < i)))) μ) : Wp (fGt (.t (.int i)) (.t (.int j)) μ) Q X := h
theorem w_ge {i j : Int} (h : Q (.t (.bl (decide (j ≤ i)))) μ) : Wp (fGe (.t (.int i)) (.t (.int j)) μ) Q X := h
theorem w_lt {i j : Int} (h : Q (.t (.bl (decide (i < j)))) μ) : Wp (fLt (.t (.int i)) (.t (.int j)) μ) Q X := h
theorem w_le {i j : Int} (h : Q (.t (.bl (decide (i ≤ j)))) μ) : Wp (fLe (.t (.int i)) (.t (.int j)) μ) Q X := h
theorem w_leS {i j : Str} (h : Q (.t (.bl (!decide (j.cps.toList < i.cps.toList)))) μ) : Wp (fLe (.t (.str i)) (.t (.str j)) μ) Q X := h
theorem w_isN {a : W} (h : Q (.t (.bl (isNonW a))) μ) : Wp (fIsN false a (.t .non) μ) Q X := h
theorem w_isNn {a : W} (h : Q (.t (.bl (!isNonW a))) μ) : Wp (fIsN true a (.t .non) μ) Q X := h
theorem w_eqI {i j : Int} (h : Q (.t (.bl (decide (i = j)))) μ) : Wp (fEq false (.t (.int i)) (.t (.int j)) μ) Q X := h
theorem w_neI {i j : Int} (h : Q (.t (.bl (!decide (i = j)))) μ) : Wp (fEq true (.t (.int i)) (.t (.int j)) μ) Q X := h
theorem w_eqB {i j : Bool} (h : Q (.t (.bl (decide (i = j)))) μ) : Wp (fEq false (.t (.bl i)) (.t (.bl j)) μ) Q X := h
theorem w_neB {i j : Bool} (h : Q (.t (.bl (!decide (i = j)))) μ) : Wp (fEq true (.t (.bl i)) (.t (.bl j)) μ) Q X := h
theorem w_eqS {i j : Str} (h : Q (.t (.bl (decide (i = j)))) μ) : Wp (fEq false (.t (.str i)) (.t (.str j)) μ) Q X := h
theorem w_neS {i j : Str} (h : Q (.t (.bl (!decide (i = j)))) μ) : Wp (fEq true (.t (.str i)) (.t (.str j)) μ) Q X := h
theorem w_eq {u v : W} {b : Bool} (c : eqW u v μ = some b) (h : Q (.t (.bl b)) μ) : Wp (fEq false u v μ) Q X := by simp only [fEq, c]; exact h
theorem w_ne {u v : W} {b : Bool} (c : eqW u v μ = some b) (h : Q (.t (.bl (!b))) μ) : Wp (fEq true u v μ) Q X := by simp only [fEq, c]; exact h
theorem w_in {u v : W} {b : Bool} (c : inW u v μ = some b) (h : Q (.t (.bl b)) μ) : Wp (fIn false u v μ) Q X := by simp only [fIn, c]; exact h
theorem w_nin {u v : W} {b : Bool} (c : inW u v μ = some b) (h : Q (.t (.bl (!b))) μ) : Wp (fIn true u v μ) Q X := by simp only [fIn, c]; exact h
theorem w_len_str {z : Str} (c : z.length ≤ bigL) (h : Q (.t (.int z.length)) μ) : Wp (fLen [.t (.str z)] μ) Q X := w_if ⟨c, h⟩
theorem w_len_L {u : W} {ws : List W} (c : getL u μ = some ws) (h : Q (.t (.int ws.length)) μ) : Wp (fLen [u] μ) Q X := by
  unfold fLen
  split
  · rename_i e; cases e; simp [getL, getLT] at c
  · rename_i u' e; cases e; simp only [c]; exact h
  · rename_i q1 q2; exact absurd rfl (q2 u)
theorem w_len_T {u : W} {ws : List W} (c : getTP u = some ws) (h : Q (.t (.int ws.length)) μ) : Wp (fLen [u] μ) Q X := by
  cases u with
  | t t =>
    cases t <;> simp [getTP] at c <;> subst c <;> exact h
  | ref n => simp [getTP] at c
  | tup ws' =>
    simp [getTP] at c
    subst c
    exact h
theorem w_ix_L {u : W} {ws : List W} {i : Int} {x : W} (c : getL u μ = some ws) (hx : atI ws i = some x) (h : Q x μ) : Wp (fIdx u (.t (.int i)) μ) Q X := by
  unfold fIdx
  simp only
  split
  · simp [getL, getLT] at c
  · simp only [c, hx]; exact h
theorem w_ix_T {u : W} {ws : List W} {i : Int} {x : W} (c : getTP u = some ws) (hx : atI ws i = some x) (h : Q x μ) : Wp (fIdx u (.t (.int i)) μ) Q X := by
  cases u with
  | t t =>
    cases t <;> simp [getTP] at c <;> subst c <;> simp only [fIdx, getL, getLT, getTP, hx] <;> exact h
  | ref n => simp [getTP] at c
  | tup ws' =>
    simp [getTP] at c
    subst c
    simp only [fIdx, getL, getLT]
    show Wp (match atI ws' i with
      | some x => R.ok x μ
      | none => R.stuck) Q X
    rw [hx]
    exact h
theorem w_ix_S {z : Str} {i : Int} {c : Nat} (hx : atI z.cps.toList i = some c) (hl : z.length ≤ bigL) (h : Q (.t (.str ⟨#[c]⟩)) μ) : Wp (fIdx (.t (.str z)) (.t (.int i)) μ) Q X := by
  simp only [fIdx, hx, hl, if_true]; exact h
theorem getL_at {n : Nat} {ws : List W} (h : μ[n]? = some (.lst ws)) : getL (.ref n) μ = some ws := by simp only [getL, getLT, h]
theorem w_mkLl {ws : List W} (h : Q (.ref μ.length) (μ ++ [.lst ws])) : Wp (mkL true ws μ) Q X := h
theorem w_mkL {ws : List W} {ts : List T} (c : toTs ws = some ts) (h : Q (.t (.lst ts)) μ) : Wp (mkL false ws μ) Q X := by simp only [mkL, c]; exact h
theorem mkTup_of {ws : List W} {ts : List T} (c : toTs ws = some ts) : mkTup ws = .t (.tup ts) := by simp only [mkTup, c]
theorem w_max {i j : Int} (h : Q (.t (.int (if j > i then j else i))) μ) : Wp (fMax [.t (.int i), .t (.int j)] μ) Q X := h
theorem w_min {i j : Int} (h : Q (.t (.int (if j < i then j else i))) μ) : Wp (fMin [.t (.int i), .t (.int j)] μ) Q X := h
theorem w_intI {i : Int} (h : Q (.t (.int i)) μ) : Wp (fInt [.t (.int i)] μ) Q X := h
theorem w_intB {b : Bool} (h : Q (.t (.int (if b = true then 1 else 0))) μ) : Wp (fInt [.t (.bl b)] μ) Q X := h
theorem w_intS {x : Str} {n : Int} (c : PySem.intText? x = some n) (hl : x.length ≤ 640) (h : Q (.t (.int n)) μ) : Wp (fInt [.t (.str x)] μ) Q X := by simp only [fInt, c, hl, if_true]; exact h
theorem w_strI {i : Int} (c : i.natAbs < 2 ^ 1900) (h : Q (.t (.str (toString i))) μ) : Wp (fStr [.t (.int i)] μ) Q X := w_if ⟨by have := @log2_lt i 1899 c; omega, h⟩
theorem w_isi {kt : TyC → TyC → Option Bool} {u : W} {t : T} {a b : TyC} {r : Bool} (h1 : tyW u μ = some a) (h2 : tyOf1 t = some b) (h3 : kt a b = some r) (h : Q (.t (.bl r)) μ) : Wp (fIsi kt [u, .t t] μ) Q X := by
  unfold fIsi
  split
  · rename_i e; cases e; simp [tyOf1] at h2
  · rename_i e; cases e; simp only [h1, h2, h3]; exact h
  · rename_i q; exact absurd rfl (q u t)
/-! calls -/
theorem w_call {f : MF} {n : Nat} {us : List W} (c : us.length = n) (h : Wp (f us μ) Q X) : Wp (callF f n [] false us μ) Q X := by
  simp only [callF, List.map_nil, List.append_nil, c, if_true, Bool.false_eq_true, if_false]; exact h
theorem w_pure {f : MF} {n : Nat} {us : List W} {ts : List T} {t : T} (hn : us.length = n) (hs : toTs us = some ts) (c : Wp (f us []) (fun u _ => u = .t t) noX) (h : Q (.t t) μ) : Wp (callF f n [] true us μ) Q X := by
  obtain ⟨a, ν, e, rfl⟩ := c.ex
  simp only [callF, List.map_nil, List.append_nil, hn, if_true, pureF, hs, e]; exact h
/-! statements -/
theorem ws_nil (h : nx e μ) : WpS (sNil e μ) nx rt ct bk ex := h
theorem ws_sSeq {a b : MS} (h : WpS (a e μ) (fun e μ => WpS (b e μ) nx rt ct bk ex) rt ct bk ex) : WpS (sSeq a b e μ) nx rt ct bk ex := ws_seq h
theorem ws_ex {m : ME} (h : Wp (m e μ) (fun _ μ1 => nx e μ1) (fun x μ => ex x e μ)) : WpS (sEx m e μ) nx rt ct bk ex := ws_st h
theorem ws_ret {m : ME} (h : Wp (m e μ) (fun u μ1 => rt u μ1) (fun x μ => ex x e μ)) : WpS (sRet m e μ) nx rt ct bk ex := ws_st h
theorem ws_retN (h : rt (.t .non) μ) : WpS (sRetN e μ) nx rt ct bk ex := h
theorem ws_if {t : MB} {a b : MS} (h : Wp (t e μ) (fun c μ1 => if c = true then WpS (a e μ1) nx rt ct bk ex else WpS (b e μ1) nx rt ct bk ex) (fun x μ => ex x e μ)) : WpS (sIf t a b e μ) nx rt ct bk ex := ws_st (h.imp (fun c _ h => by cases c <;> exact h) fun _ _ h => h)
theorem ws_cont (h : ct e μ) : WpS (sCont e μ) nx rt ct bk ex := h
theorem ws_brk (h : bk e μ) : WpS (sBrk e μ) nx rt ct bk ex := h
theorem ws_asgN {m : ME} {i : Nat} (h : Wp (m e μ) (fun u μ1 => nx (e.set i (some u)) μ1) (fun x μ => ex x e μ)) : WpS (sAsg m (gN i) e μ) nx rt ct bk ex := ws_st h
theorem ws_asgT {m : ME} {is : List Nat} (h : Wp (m e μ) (fun u μ1 => ∃ e', gT is u e μ1 = some e' ∧ nx e' μ1) (fun x μ => ex x e μ)) : WpS (sAsg m (gT is) e μ) nx rt ct bk ex := ws_st (h.imp (fun u μ ⟨e', c, h⟩ => by simp only [c]; exact h) fun _ _ h => h)
theorem ws_setL {a b c : ME} (h : Wp (a e μ) (fun v μ1 => Wp (b e μ1) (fun o μ2 => Wp (c e μ2) (fun i μ3 => ∃ μ4, setL o i v μ3 = some μ4 ∧ nx e μ4) (fun x μ => ex x e μ)) (fun x μ => ex x e μ)) (fun x μ => ex x e μ)) : WpS (sSetL a b c e μ) nx rt ct bk ex :=
  ws_st (h.imp (fun _ _ h => ws_st (h.imp (fun _ _ h => ws_st (h.imp (fun _ _ ⟨_, c, h⟩ => by simp only [c]; exact h) fun _ _ h => h)) fun _ _ h => h)) fun _ _ h => h)
theorem setL_at {n : Nat} {ws : List W} {k : Int} {j : Nat} {v : W} (h : μ[n]? = some (.lst ws)) (hk : ixN ws.length k = some j) : setL (.ref n) (.t (.int k)) v μ = some (μ.set n (.lst (ws.set j v))) := by simp only [setL, h, hk]
/-- a def, by its body -/
theorem w_run {L n : Nat} {b : MS} {us : List W} (hn : us.length = n) (h : WpS (b (us.map some ++ List.replicate (L - n) none) μ) (fun _ ν => Wp (fin μ.length (.t .non) ν) Q X) (fun u ν => Wp (fin μ.length u ν) Q X) noE noE (fun x _ ν => X x ν)) : Wp (runF L n b us μ) Q X := by
  unfold runF
  rw [if_pos hn]
  cases q : b (us.map some ++ List.replicate (L - n) none) μ <;> rw [q] at h <;> exact h
theorem w_fin {n : Nat} {u : W} {ν : Mem} (c : ν.length ≤ n) (h : Q u ν) : Wp (fin n u ν) Q X := by unfold fin; rw [if_pos c]; exact h
/-! loops -/
/-- a for: I at the turn i -/
theorem w_loop {gd : Mem → Prop} {g : MG} {b : MS} {ys : List W} (I : Nat → En → Mem → Prop) (h0 : I 0 e μ) (hg : ∀ i e μ, I i e μ → gd μ)
    (hs : ∀ i y e μ, ys[i]? = some y → I i e μ → ∃ e1, g y e μ = some e1 ∧ WpS (b e1 μ) (I (i + 1)) rt (I (i + 1)) nx ex) (hd : ∀ e μ, I ys.length e μ → nx e μ) : WpS (loopM gd g b ys e μ) nx rt ct bk ex := by
  have key : ∀ (m i : Nat) e μ, i + m = ys.length → I i e μ → WpS (loopM gd g b (ys.drop i) e μ) nx rt ct bk ex := by
    intro m
    induction m with
    | zero =>
      intro i e μ hi h
      rw [List.drop_eq_nil_of_le (by omega)]
      unfold loopM
      rw [if_pos (hg _ _ _ h)]
      exact hd _ _ (by rw [← hi]; exact h)
    | succ m ih =>
      intro i e μ hi h
      have hl : i < ys.length := by omega
      rw [List.drop_eq_getElem_cons hl]
      unfold loopM
      rw [if_pos (hg _ _ _ h)]
      obtain ⟨e1, q, hb⟩ := hs i ys[i] e μ (List.getElem?_eq_getElem hl) h
      simp only [q]
      cases q2 : b e1 μ with
      | nx e2 μ2 => rw [q2] at hb; exact ih (i + 1) e2 μ2 (by omega) hb
      | ct e2 μ2 => rw [q2] at hb; exact ih (i + 1) e2 μ2 (by omega) hb
      | bk e2 μ2 => rw [q2] at hb; exact hb
      | rt u μ2 => rw [q2] at hb; exact hb
      | exc x e2 μ2 => rw [q2] at hb; exact hb
      | stuck => rw [q2] at hb; exact hb
  have := key ys.length 0 e μ (by omega) h0
  simpa using this
theorem ws_for {i : MI} {g : MG} {b : MS} (h : Wp (i e μ) (fun k μ1 => WpS (loopM k.gd g b k.ys e μ1) nx rt ct bk ex) (fun x μ => ex x e μ)) : WpS (sFor i g b e μ) nx rt ct bk ex := ws_st h
section
variable {QK : WK → Mem → Prop}
theorem w_iVal {m : ME} (h : Wp (m e μ) (fun u μ1 => Wp (kVal u μ1) QK X) X) : Wp (iVal m e μ) QK X := w_bind h
theorem w_kStr {z : Str} (c : z.length ≤ bigL) (h : QK ⟨always, z.cps.toList.map fun c => .t (.str ⟨#[c]⟩)⟩ μ) : Wp (kVal (.t (.str z)) μ) QK X := w_if ⟨by simpa [Str.length] using c, h⟩
theorem w_kL {u : W} {ws : List W} (c : getL u μ = some ws) (hl : ws.length ≤ bigL) (h : QK ⟨fun μ => getL u μ = some ws, ws⟩ μ) : Wp (kVal u μ) QK X := by
  unfold kVal
  split
  · simp [getL, getLT] at c
  · simp only [c]; exact w_if ⟨hl, h⟩
theorem w_kT {u : W} {ws : List W} (c : getTP u = some ws) (hl : ws.length ≤ bigL) (h : QK ⟨always, ws⟩ μ) : Wp (kVal u μ) QK X := by
  cases u with
  | t t =>
    cases t <;> simp [getTP] at c <;> subst c <;> simp only [kVal, getL, getLT, getTP] <;> exact w_if ⟨hl, h⟩
  | ref n => simp [getTP] at c
  | tup ws' =>
    simp [getTP] at c
    subst c
    simp only [kVal, getL, getLT, getTP]; exact w_if ⟨hl, h⟩
theorem w_rg {lo hi : Int} (c : -(2 ^ 62) ≤ lo ∧ lo < 2 ^ 62 ∧ -(2 ^ 62) ≤ hi ∧ hi < 2 ^ 62) (hl : (hi - lo).toNat ≤ bigL) (h : QK ⟨always, (List.range (hi - lo).toNat).map fun i => .t (.int (lo + (i : Nat)))⟩ μ) : Wp (rgW lo hi μ) QK X := w_if ⟨c, w_if ⟨by simpa using hl, h⟩⟩
theorem w_iR1 {ms : MA} (h : Wp (ms e μ) (fun us μ1 => ∃ j, us = [.t (.int j)] ∧ Wp (rgW 0 j μ1) QK X) X) : Wp (iR1 ms e μ) QK X := w_bind (h.imp (fun _ _ ⟨j, e, h⟩ => by subst e; exact h) fun _ _ h => h)
theorem w_iR2 {ms : MA} (h : Wp (ms e μ) (fun us μ1 => ∃ i j, us = [.t (.int i), .t (.int j)] ∧ Wp (rgW i j μ1) QK X) X) : Wp (iR2 ms e μ) QK X := w_bind (h.imp (fun _ _ ⟨i, j, e, h⟩ => by subst e; exact h) fun _ _ h => h)
theorem w_iEnu {ms : MA} (h : Wp (ms e μ) (fun us μ1 => Wp (kEnu us μ1) QK X) X) : Wp (iEnu ms e μ) QK X := w_bind h
theorem w_kEnuS {z : Str} (c : z.length ≤ bigL) (h : QK ⟨always, pairs (z.cps.toList.map fun c => .t (.str ⟨#[c]⟩))⟩ μ) : Wp (kEnu [.t (.str z)] μ) QK X := w_if ⟨by rw [pairs_len]; simpa [Str.length] using c, h⟩
theorem w_kEnuL {u : W} {ws : List W} (c : getL u μ = some ws) (hl : ws.length ≤ bigL) (h : QK ⟨fun μ => getL u μ = some ws, pairs ws⟩ μ) : Wp (kEnu [u] μ) QK X := by
  unfold kEnu
  split
  · rename_i e; cases e; simp [getL, getLT] at c
  · rename_i e; cases e; simp only [c]; exact w_if ⟨by rw [pairs_len]; exact hl, h⟩
  · rename_i q; exact absurd rfl (q u)
end
/-- a list comprehension: J at the turn i, with the list so far -/
theorem w_lcM {gd : Mem → Prop} {g : MG} {t : MB} {m : ME} {ys : List W} {Q : List W → Mem → Prop} (J : Nat → List W → Mem → Prop) (h0 : J 0 [] μ) (hg : ∀ i acc μ, J i acc μ → gd μ)
    (hs : ∀ i y acc μ, ys[i]? = some y → J i acc μ → ∃ e1, g y e μ = some e1 ∧ Wp (t e1 μ) (fun c μ1 => if c = true then Wp (m e1 μ1) (fun u μ2 => J (i + 1) (acc ++ [u]) μ2) noX else J (i + 1) acc μ1) noX) (hd : ∀ acc μ, J ys.length acc μ → Q acc μ) : Wp (lcM gd g t m e ys [] μ) Q X := by
  have key : ∀ (k i : Nat) acc μ, i + k = ys.length → J i acc μ → Wp (lcM gd g t m e (ys.drop i) acc μ) Q X := by
    intro k
    induction k with
    | zero =>
      intro i acc μ hi h
      rw [List.drop_eq_nil_of_le (by omega), lcM_nil, if_pos (hg _ _ _ h)]
      exact hd _ _ (by rw [← hi]; exact h)
    | succ k ih =>
      intro i acc μ hi h
      have hl : i < ys.length := by omega
      rw [List.drop_eq_getElem_cons hl, lcM_cons, if_pos (hg _ _ _ h)]
      obtain ⟨e1, q, hb⟩ := hs i ys[i] acc μ (List.getElem?_eq_getElem hl) h
      simp only [q]
      obtain ⟨c, μ1, q2, hb⟩ := hb.ex
      simp only [q2]
      cases c with
      | false => exact ih (i + 1) acc μ1 (by omega) hb
      | true =>
        obtain ⟨u, μ2, q3, hb⟩ := hb.ex
        simp only [q3]
        exact ih (i + 1) _ μ2 (by omega) hb
  have := key ys.length 0 [] μ (by omega) h0
  simpa using this
theorem w_mLc {live : Bool} {i : MI} {g : MG} {t : MB} {m : ME} {own : List Nat} (h : Wp (i e μ) (fun k μ1 => k.ys.length ≤ bigL ∧ Wp (lcM k.gd g t m (wipeE e own) k.ys [] μ1) (fun ws μ2 => Wp (mkL live ws μ2) Q X) X) X) : Wp (mLc live i g t m own e μ) Q X := w_bind (h.imp (fun _ _ h => w_if ⟨h.1, w_bind h.2⟩) fun _ _ h => h)
/-- a while, by a measure -/
theorem w_while {t : MB} {b : MS} {n : Nat} (I : Nat → En → Mem → Prop) {m : Nat} (hm : m < n) (h0 : I m e μ)
    (hs : ∀ m e μ, I m e μ → Wp (t e μ) (fun c μ1 => if c = true then WpS (b e μ1) (fun e2 μ2 => ∃ m2, m2 < m ∧ I m2 e2 μ2) rt (fun e2 μ2 => ∃ m2, m2 < m ∧ I m2 e2 μ2) nx ex else nx e μ1) (fun x μ => ex x e μ)) : WpS (whM t b n e μ) nx rt ct bk ex := by
  induction n generalizing m e μ with
  | zero => omega
  | succ n ih =>
    refine ws_st ((hs m e μ h0).imp (fun c μ1 h => ?_) fun _ _ h => h)
    cases c with
    | false => exact h
    | true =>
      have h : WpS (b e μ1) _ _ _ _ _ := h
      show WpS (match b e μ1 with
        | .nx e2 μ2 => whM t b n e2 μ2
        | .ct e2 μ2 => whM t b n e2 μ2
        | .bk e2 μ2 => .nx e2 μ2
        | r => r) nx rt ct bk ex
      cases q : b e μ1 with
      | nx e2 μ2 => rw [q] at h; obtain ⟨m2, hlt, hI⟩ := h; exact ih (by omega) hI
      | ct e2 μ2 => rw [q] at h; obtain ⟨m2, hlt, hI⟩ := h; exact ih (by omega) hI
      | bk e2 μ2 => rw [q] at h; exact h
      | rt u μ2 => rw [q] at h; exact h
      | exc x e2 μ2 => rw [q] at h; exact h
      | stuck => rw [q] at h; exact h
end
end HQ
/-! HQH: the head: what the top leaves, by facts of one's own. -/
namespace HQ
open PySem PySem.Spec PyProof.Rows L2
/-! ### the part of the heap that the names reach -/
/-- a set of numbers, by their bits -/
inductive PT where
  | nil
  | node (b : Bool) (l r : PT)
def PT.has : PT → Nat → Bool
  | .nil, _ => false
  | .node b l r, i => match Nat.beq i 0 with
    | true => b
    | false => match Nat.beq (i % 2) 1 with
      | true => l.has (i / 2)
      | false => r.has (i / 2 - 1)
def PT.ins (f : Nat) : PT → Nat → PT := match f with
  | 0 => fun t _ => t
  | f + 1 => fun t i => match t with
    | .nil => match Nat.beq i 0 with
      | true => .node true .nil .nil
      | false => match Nat.beq (i % 2) 1 with
        | true => .node false (PT.ins f .nil (i / 2)) .nil
        | false => .node false .nil (PT.ins f .nil (i / 2 - 1))
    | .node b l r => match Nat.beq i 0 with
      | true => .node true l r
      | false => match Nat.beq (i % 2) 1 with
        | true => .node b (PT.ins f l (i / 2)) r
        | false => .node b l (PT.ins f r (i / 2 - 1))
/-- a walk over the objects: each once, so deep -/
def reachGo (g : Addr → Option Obj) : Nat → List (Addr × Nat) → PT → List Addr → List Addr
  | 0, _, _, acc => acc
  | _, [], _, acc => acc
  | n + 1, (a, d) :: r, t, acc => match t.has a with
    | true => reachGo g n r t acc
    | false => match g a with
      | some o => match d with
        | 0 => reachGo g n r (t.ins 64 a) (a :: acc)
        | d + 1 => reachGo g n (((He.refsD o).map fun b => (b, d)) ++ r) (t.ins 64 a) (a :: acc)
      | none => reachGo g n r t acc
/-- a global name's object -/
def globAt (g : Addr → Option Obj) (es : List DictEntry) (x : Str) : List Addr := match es with
  | [] => []
  | e :: r => match e.key with
    | .str y _ => if y = x then He.refV e.val else globAt g r x
    | _ => globAt g r x
def reach (names : List Str) (depth : Nat) (g : Addr → Option Obj) : List Addr := match g mainGlobals with
  | some ⟨_, _, .dict es _, _⟩ => mainGlobals :: reachGo g 20000 ((names.flatMap fun x => globAt g es.toList x).map fun a => (a, depth)) .nil []
  | _ => []
theorem mem_look : ∀ {K : PySem.W.Frag} {a : Addr} {o : Obj}, K.lookup a = some o → (a, o) ∈ K
  | [], _, _, h => by cases h
  | (b, u) :: K, a, o, h => by
    rw [List.lookup_cons] at h
    cases q : a == b with
    | true => rw [q] at h; cases h; rw [beq_iff_eq.mp q]; exact List.mem_cons_self
    | false => rw [q] at h; exact List.mem_cons_of_mem _ (mem_look h)
/-- no list stands there -/
def noLst (K : PySem.W.Frag) : Bool := K.all fun p => match p.2.cls with
  | .type n => !(n == "list")
  | _ => true
abbrev AlX : Type := Bool × He.AlD
def obsX (fs : List (PySem.W.Frag → Bool)) (fa : List He.Fa) (fn : List He.DefD) (K : PySem.W.Frag) : AlX := (noLst K && fs.all fun f => f K, He.obsD fa fn K)
def SaysX (fs : List (PySem.W.Frag → Bool)) (fa : List He.Fa) (fn : List He.DefD) (K : PySem.W.Frag) : Prop := obsX fs fa fn K = (true, He.valD fn)
def obsXG (names : List Str) (depth : Nat) (fs : List (PySem.W.Frag → Bool)) (fa : List He.Fa) (fn : List He.DefD) (g : Addr → Option Obj) : AlX := obsX fs fa fn (He.frG g (reach names depth g))
def hookX (names : List Str) (depth : Nat) (fs : List (PySem.W.Frag → Bool)) (fa : List He.Fa) (fn : List He.DefD) : PySem.W.Hook where
  α := AlX
  obs := fun s => obsXG names depth fs fa fn s.heap.get?
  val := fun _ => (true, He.valD fn)
  says := fun _ h => ∃ K : PySem.W.Frag, K.In h ∧ SaysX fs fa fn K
  of := fun _ _ e => ⟨_, He.frG_in, e⟩
  keeps := fun _ _ _ ⟨K, hK, c⟩ k => ⟨K, PySem.W.Frag.In.keeps hK k, c⟩
theorem obsXG_eq {names : List Str} {depth : Nat} {fs : List (PySem.W.Frag → Bool)} {fa : List He.Fa} {fn : List He.DefD} {g : Addr → Option Obj} {s : Shared} (h : ∀ a, g a = s.heap.get? a) : obsXG names depth fs fa fn g = (hookX names depth fs fa fn).obs s := by
  have e : g = s.heap.get? := funext h
  rw [e] <;> rfl
section
variable {fs : List (PySem.W.Frag → Bool)} {fa : List He.Fa} {fn : List He.DefD} {K : PySem.W.Frag}
theorem SaysX.d (c : SaysX fs fa fn K) : He.SaysD fa fn K := congrArg (fun z : AlX => z.2) c
theorem SaysX.f (c : SaysX fs fa fn K) (i : Nat) {f : PySem.W.Frag → Bool} (h : fs[i]? = some f := by rfl) : f K = true := by
  have c1 := (Bool.and_eq_true_iff.mp (show (noLst K && fs.all fun f => f K) = true from congrArg (fun z : AlX => z.1) c)).2
  exact List.all_eq_true.mp c1 f (List.mem_of_getElem? h)
theorem SaysX.noL (c : SaysX fs fa fn K) {a : Addr} {o : Obj} (h : K.lookup a = some o) : o.cls ≠ .type "list" := by
  have c1 := (Bool.and_eq_true_iff.mp (show (noLst K && fs.all fun f => f K) = true from congrArg (fun z : AlX => z.1) c)).1
  have := List.all_eq_true.mp c1 (a, o) (mem_look h)
  intro q
  simp only [q] at this
  simp at this
end
/-- all but the tables -/
def noT (H : Hp) : Hp := fun b => match H b with
  | some (.tbl _) => none
  | x => x
theorem noT_sub {H : Hp} : Same (noT H) H := fun b u e => by
  unfold noT at e
  split at e
  · cases e
  · exact e
theorem noT_of {H : Hp} {b : Addr} {u : HO} (e : H b = some u) (h : ∀ ps, u ≠ .tbl ps) : noT H b = some u := by
  unfold noT
  split
  · rename_i ps q
    rw [e] at q; cases q; exact absurd rfl (h ps)
  · exact e
/-- the law's promise, by its meaning -/
theorem law_sp {K : PySem.W.Frag} {D : Ad} {w : World} {f : MF} {H : Hp} {a : Addr} {ns : List Int} {E : XK} (hD : ∀ p ∈ D.tabs, H p.1 = some (.tbl #[])) (nl : ∀ a o, K.lookup a = some o → o.cls ≠ .type "list") (hS : SqL K H a (ns.map V.int))
    (h : Wp (f [.t (.scr ns)] []) (fun u _ => u = .t (.bl true)) noX) : spF D w 1 f [.ref a] H (fun v _ => v = .bl true) E := by
  have hH : Rd (noT H) a (.lst (ns.map V.int)) := by
    rcases hS with (h | ⟨o, h⟩) | ⟨o, its, n, h, e, _⟩
    · exact .inl (noT_of h fun ps z => nomatch z)
    · exact .inr ⟨o, noT_of h fun ps z => nomatch z⟩
    · exact absurd e (nl a o h)
  refine ⟨noT H, [], [], [.t (.scr ns)], ⟨noT_sub, rfl, List.nodup_nil, fun a h => (by cases h), fun n a o h => by simp at h, fun n a o h => by simp at h, fun b ps e => ?_, fun b ob e h => (by cases h), fun p hp => ⟨by simp, #[], hD p hp, True.intro, fun pos cv hc => ?_⟩⟩, ?_, rfl, ?_⟩
  · unfold noT at e
    split at e
    · cases e
    · rename_i q
      exact q ps e
  · have z : codeAmong pos [] = some cv := hc
    simp [codeAmong] at z
  · simp only [RWs, RW, RT]
    exact ⟨_, _, rfl, ⟨a, rfl, hH⟩, rfl⟩
  · obtain ⟨u, μ, e, rfl⟩ := h.ex
    rw [e]
    intro F' H' as' v X S r
    simpa only [RW, RT] using r
/-- the end of a law whose exceptions hang on the world -/
theorem walk_ofW {l : PySem.W.OpenLaw} {n k : Nat} {q : Program} {loose : List Str} {XP : (Str → Option Value) → Heap → Prop} {YP : World → Heap → Prop} {d : DefRec} {CX : World → CXT} {x : Str}
    (hn : l.most = some n) (hn2 : n ≤ sizeLine) (hdf : d.params.defaults = []) (hr : Room k callerA)
    (F : ∀ (w : World) (mg : Str → Option Value) (fa : Addr) (h : Heap), YP w h → h.Ns mainGlobals mg → mg d.name = some (.ref fa) →
      ∃ (K : PySem.W.Frag) (fd : FuncData) (sp : Sp), K.In h ∧ (∀ (s : Shared) (u : Value), BindsTo s fd ⟨[u], []⟩ [(x, u)]) ∧
        (∀ (H : Hp) (a : Addr) (ns : List Int), ns.length ≤ n → Only H → SqL K H a (ns.map V.int) → sp [.ref a] H (fun v _ => v = .bl true) fun _ _ _ => False) ∧
        ∀ base : Heap, K.In base → base.Ns mainGlobals mg → FnOk l.prog w K mg base (CX w) k fa fd [x] sp)
    (hCX : ∀ (w : World) (H : Hp) (s : Shared) (e : Value) (s' : Shared), CX w [] H s (fun _ _ _ => False) e s' → False) :
    PySem.W.WalkO q loose XP YP l.row.toRowW d [] (fun f vs => PySem.call f vs) := by
  refine Att.attach_call hn hdf fun w s₀ s₁ mg mb fa o pm cd doc a vs ns G Y ho hd hcd hmg hobj hints hlen hg => ?_
  obtain ⟨K, fd, sp, h1, h2, h3, h4⟩ := F w mg fa _ Y G.T.g hmg
  exact law_call h1 G.T.g G.T.b G.T.builtins G.T.nolimit hg hobj hints (Nat.le_trans hlen hn2) hr h4 h2 (fun H hO hS => h3 H a ns hlen hO hS) fun H e s' => hCX w H s₁ e s'
end HQ
/-! HQF: a live object is frozen; calls in general; classes made. -/
namespace HQ
open PySem PySem.Spec PyProof.Rows L2

/-! ### freezing: what lived never changes again -/
def frzL (f : W → Mem → Option (T × Mem)) : List W → Mem → Option (List T × Mem)
  | [], μ => some ([], μ)
  | u :: us, μ => match f u μ with
    | some (t, μ1) => match frzL f us μ1 with
      | some (ts, μ2) => some (t :: ts, μ2)
      | none => none
    | none => none
def frzW : Nat → W → Mem → Option (T × Mem)
  | _, .t t, μ => some (t, μ)
  | 0, .tup _, _ => none
  | 0, .ref _, _ => none
  | k + 1, .tup ws, μ => match frzL (frzW k) ws μ with
    | some (ts, μ1) => some (.tup ts, μ1)
    | none => none
  | k + 1, .ref n, μ => match μ[n]? with
    | some (.lst ws) => match frzL (frzW k) ws (μ.set n .dead) with
      | some (ts, μ1) => some (.lst ts, μ1)
      | none => none
    | some (.dic ks ws) => match frzL (frzW k) ws (μ.set n .dead) with
      | some (ts, μ1) => some (.dic ks ts, μ1)
      | none => none
    | some (.ins c ns ws) => match frzL (frzW k) ws (μ.set n .dead) with
      | some (ts, μ1) => some (.ins c ns ts, μ1)
      | none => none
    | _ => none
section
variable {D : Ad} {w : World}
/-- a step of freezing -/
structure Fz (F F' H : Hp) (as : List Addr) (μ μ' : Mem) : Prop where
  fs : Same F F'
  sim : Sim D w F' H as μ'
  new : ∀ a, F' a ≠ none → F a ≠ none ∨ a ∈ as
  dd : ∀ n : Nat, μ[n]? = some .dead → μ'[n]? = some .dead
  st : ∀ (n : Nat) a, as[n]? = some a → μ[n]? = some .dead → F' a = F a
theorem Fz.trans {F F1 F2 H : Hp} {as : List Addr} {μ μ1 μ2 : Mem} (a : Fz (D := D) (w := w) F F1 H as μ μ1) (b : Fz (D := D) (w := w) F1 F2 H as μ1 μ2) : Fz (D := D) (w := w) F F2 H as μ μ2 :=
  ⟨a.fs.trans b.fs, b.sim, fun x h => (b.new x h).elim (fun h => a.new x h) .inr, fun n h => b.dd n (a.dd n h), fun n x h1 h2 => (b.st n x h1 (a.dd n h2)).trans (a.st n x h1 h2)⟩
theorem frzL_ok {f : W → Mem → Option (T × Mem)} (hf : ∀ u μ t μ', f u μ = some (t, μ') → ∀ F H as v, Sim D w F H as μ → RW D w F as u v → ∃ F', Fz (D := D) (w := w) F F' H as μ μ' ∧ RT D w F' t v) :
    ∀ us μ ts μ', frzL f us μ = some (ts, μ') → ∀ F H as vs, Sim D w F H as μ → RWs D w F as us vs → ∃ F', Fz (D := D) (w := w) F F' H as μ μ' ∧ RTs D w F' ts vs
  | [], μ, ts, μ', h, F, H, as, vs, S, r => by
    simp only [frzL, Option.some.injEq, Prod.mk.injEq] at h
    obtain ⟨rfl, rfl⟩ := h
    exact ⟨F, ⟨Same.refl _, S, fun _ h => .inl h, fun _ h => h, fun _ _ _ _ => rfl⟩, by simpa only [RWs, RTs] using r⟩
  | u :: us, μ, ts, μ', h, F, H, as, vs, S, r => by
    simp only [frzL] at h
    split at h
    · rename_i t μ1 h1
      split at h
      · rename_i ts' μ2 h2
        simp only [Option.some.injEq, Prod.mk.injEq] at h
        obtain ⟨rfl, rfl⟩ := h
        simp only [RWs] at r
        obtain ⟨v, vs', rfl, r1, r2⟩ := r
        obtain ⟨F1, z1, q1⟩ := hf u μ t μ1 h1 F H as v S r1
        obtain ⟨F2, z2, q2⟩ := frzL_ok hf us μ1 ts' μ2 h2 F1 H as vs' z1.sim (RWs.mono z1.fs ⟨[], by simp⟩ us vs' r2)
        refine ⟨F2, z1.trans z2, ?_⟩
        simp only [RTs]
        exact ⟨v, vs', rfl, RT.mono z2.fs t v q1, q2⟩
      · cases h
    · cases h
theorem Sim.die {F H : Hp} {as : List Addr} {μ : Mem} (S : Sim D w F H as μ) (n : Nat) : Sim D w F H as (μ.set n .dead) := by
  have ix : ∀ (m : Nat) o, (μ.set n .dead)[m]? = some o → o ≠ .dead → m ≠ n ∧ μ[m]? = some o := fun m o h hd => by
    by_cases e : m = n
    · subst e
      have hl : m < μ.length := by have := (List.getElem?_eq_some_iff.mp h).1; simpa using this
      rw [List.getElem?_set_self hl] at h
      cases h; exact absurd rfl hd
    · rw [List.getElem?_set_ne (Ne.symm e)] at h; exact ⟨e, h⟩
  refine ⟨S.sub, by simp [S.len], S.nd, S.there, fun m a o h1 h2 h3 => S.out m a o h1 (ix m o h2 h3.nd).2 h3, fun m a o h1 h2 => ?_, S.tb⟩
  by_cases hd : o = .dead
  · subst hd; exact True.intro
  · exact S.obj m a o h1 (ix m o h2 hd).2
/-- what was at n, dead now, becomes part of what never changes -/
theorem Fz.put {F F1 H : Hp} {as : List Addr} {μ μ1 : Mem} {n : Nat} {a : Addr} {o : O} {ho : HO} (S : Sim D w F H as μ) (hn : as[n]? = some a) (hx : μ[n]? = some o) (hd : o.Live) (ht : ¬ oddO ho) (hH : H a = some ho) (z : Fz (D := D) (w := w) F F1 H as (μ.set n .dead) μ1) :
    Fz (D := D) (w := w) F (upd F1 a ho) H as μ μ1 ∧ Same F1 (upd F1 a ho) := by
  have ln := (List.getElem?_eq_some_iff.mp hx).1
  have dn : (μ.set n .dead)[n]? = some .dead := List.getElem?_set_self ln
  have Fa : F a = none := S.out n a o hn hx hd
  have F1a : F1 a = none := (z.st n a hn dn).trans Fa
  have sm : Same F1 (upd F1 a ho) := fun b u e => by rw [upd_ne (ne_of_none e F1a)]; exact e
  have d1 : μ1[n]? = some .dead := z.dd n dn
  have keepd : ∀ m : Nat, μ[m]? = some .dead → (μ.set n .dead)[m]? = some .dead := fun m h => by
    by_cases e : n = m
    · subst e; exact dn
    · rw [List.getElem?_set_ne e]; exact h
  refine ⟨⟨z.fs.trans sm, ⟨fun b u e => ?_, z.sim.len, z.sim.nd, z.sim.there, fun m b u h1 h2 h3 => ?_, fun m b u h1 h2 => RO.mono sm ⟨[], by simp⟩ (z.sim.obj m b u h1 h2), z.sim.tb.keep sm (fun b ps _ e => e) (fun b hb => .inl hb) (upd_nt ht)⟩, fun b h => ?_, fun m h => z.dd m (keepd m h), fun m b h1 h2 => ?_⟩, sm⟩
  · by_cases q : b = a
    · subst q; rw [upd_same] at e; cases e; exact hH
    · rw [upd_ne q] at e; exact z.sim.sub b u e
  · have hm : m ≠ n := fun e => by subst e; rw [d1] at h2; cases h2; exact h3
    have hb : b ≠ a := fun e => hm (ix_nd S.nd h1 (by rw [e]; exact hn))
    rw [upd_ne hb]; exact z.sim.out m b u h1 h2 h3
  · by_cases q : b = a
    · subst q; exact .inr (List.mem_of_getElem? hn)
    · rw [upd_ne q] at h; exact z.new b h
  · have hm : m ≠ n := fun e => by subst e; rw [hx] at h2; cases h2; exact hd
    have hb : b ≠ a := fun e => hm (ix_nd S.nd h1 (by rw [e]; exact hn))
    rw [upd_ne hb]; exact z.st m b h1 (keepd m h2)
theorem frzW_ok : ∀ k u μ t μ', frzW k u μ = some (t, μ') → ∀ F H as v, Sim D w F H as μ → RW D w F as u v → ∃ F', Fz (D := D) (w := w) F F' H as μ μ' ∧ RT D w F' t v := by
  have base : ∀ (t : T) μ (t' : T) μ', some (t, μ) = some (t', μ') → ∀ F H as v, Sim D w F H as μ → RW D w F as (.t t) v → ∃ F', Fz (D := D) (w := w) F F' H as μ μ' ∧ RT D w F' t' v := fun t μ t' μ' h F H as v S r => by
    simp only [Option.some.injEq, Prod.mk.injEq] at h
    obtain ⟨rfl, rfl⟩ := h
    exact ⟨F, ⟨Same.refl _, S, fun _ h => .inl h, fun _ h => h, fun _ _ _ _ => rfl⟩, by simpa only [RW] using r⟩
  intro k
  induction k with
  | zero =>
    intro u μ t μ' h F H as v S r
    cases u with
    | t t0 => exact base t0 μ t μ' h F H as v S r
    | ref n => simp [frzW] at h
    | tup ws => simp [frzW] at h
  | succ k ih =>
    intro u μ t μ' h F H as v S r
    cases u with
    | t t0 => exact base t0 μ t μ' h F H as v S r
    | tup ws =>
      simp only [frzW] at h
      split at h
      · rename_i ts μ1 h1
        simp only [Option.some.injEq, Prod.mk.injEq] at h
        obtain ⟨rfl, rfl⟩ := h
        simp only [RW] at r
        obtain ⟨a, vs, rfl, q, r⟩ := r
        obtain ⟨F1, z, r1⟩ := frzL_ok ih ws μ ts μ1 h1 F H as vs S r
        refine ⟨F1, z, ?_⟩
        simp only [RT]
        exact ⟨a, vs, rfl, z.fs _ _ q, r1⟩
      · cases h
    | ref n =>
      simp only [RW] at r
      obtain ⟨a, ha, rfl⟩ := r
      simp only [frzW] at h
      split at h
      · rename_i ws hx
        split at h
        · rename_i ts μ1 h1
          simp only [Option.some.injEq, Prod.mk.injEq] at h
          obtain ⟨rfl, rfl⟩ := h
          obtain ⟨vs, e, r⟩ := S.obj n a _ ha hx
          obtain ⟨F1, z, r1⟩ := frzL_ok ih ws _ ts μ1 h1 F H as vs (S.die n) r
          obtain ⟨z2, sm⟩ := Fz.put S ha hx (by simp) (by rintro (⟨_, z⟩ | ⟨_, z⟩) <;> first | cases z | (unfold dicO at z; cases z)) e z
          refine ⟨_, z2, ?_⟩
          simp only [RT]
          exact ⟨a, vs, rfl, upd_same, RTs.mono sm ts vs r1⟩
        · cases h
      · rename_i ks ws hx
        split at h
        · rename_i ts μ1 h1
          simp only [Option.some.injEq, Prod.mk.injEq] at h
          obtain ⟨rfl, rfl⟩ := h
          obtain ⟨es, e, r0, r, r3, r4⟩ := S.obj n a _ ha hx
          obtain ⟨F1, z, r1⟩ := frzL_ok ih ws _ ts μ1 h1 F H as _ (S.die n) r
          obtain ⟨z2, sm⟩ := Fz.put S ha hx (by simp) (by rintro (⟨_, z⟩ | ⟨_, z⟩) <;> first | cases z | (unfold dicO at z; cases z)) e z
          refine ⟨_, z2, ?_⟩
          simp only [RT]
          exact ⟨a, es, rfl, upd_same, RTs.mono z2.fs ks _ r0, RTs.mono sm ts _ r1, r3, r4⟩
        · cases h
      · rename_i c ns ws hx
        split at h
        · rename_i ts μ1 h1
          simp only [Option.some.injEq, Prod.mk.injEq] at h
          obtain ⟨rfl, rfl⟩ := h
          obtain ⟨dx, fs, e, r0, r⟩ := S.obj n a _ ha hx
          obtain ⟨F1, z, r1⟩ := frzL_ok ih ws _ ts μ1 h1 F H as _ (S.die n) r
          obtain ⟨z2, sm⟩ := Fz.put S ha hx (by simp) (by rintro (⟨_, z⟩ | ⟨_, z⟩) <;> first | cases z | (unfold dicO at z; cases z)) e z
          refine ⟨_, z2, ?_⟩
          simp only [RT]
          exact ⟨a, dx, fs, rfl, upd_same, r0, RTs.mono sm ts _ r1⟩
        · cases h
      · cases h
theorem Fz.ext {F F' H : Hp} {as : List Addr} {μ μ' : Mem} (z : Fz (D := D) (w := w) F F' H as μ μ') : Ext F H as F' H as :=
  ⟨z.fs, ⟨[], by simp, by simp⟩, fun _ _ h _ => .inl h, fun a h => (z.new a h).elim .inl fun h => .inr (.inr h)⟩
/-- a call whose value is frozen -/
def frzF (f : MF) : MF := fun us μ => (f us μ).bind fun u μ1 => match frzW 40 u μ1 with
  | some (t, μ2) => fin μ.length (.t t) μ2
  | none => .stuck
/-- a class made: __init__ at a new instance -/
def mkF (c : Nat) (f : MF) : MF := fun us μ => match f (.ref μ.length :: us) (μ ++ [.ins c [] []]) with
  | .ok (.t .non) μ' => .ok (.ref μ.length) μ'
  | .exc x μ' => .exc x μ'
  | _ => .stuck
end
/-! ### calls of values -/
section
variable {X : Cx} {D : Ad} {w : World} {Wx : WX}
/-- a call of v does f -/
def CallsTo (X : Cx) (D : Ad) (w : World) (Wx : WX) (v : Value) (f : MF) : Prop := ∀ pins (σ : Sg) (H : Hp) (s : Shared) (us : List Value) (vs : List V) (Q : VK), Inv X pins σ H s → Vals vs us →
  (∃ F as μ ws, Sim D w F H as μ ∧ RWs D w F as ws vs ∧ Po D w Wx σ F H as (relW D w) (f ws μ) Q) → wpAny (model X.prog X.w) X.A (call v us) (EP X pins σ Q) X.xe s
theorem CallsTo.fn {k n : Nat} {fA : Addr} {fd : FuncData} {ps : List Str} {f : MF} {dts : List T} {dvs : List V} {ds : List Value} (FO : FnOk X.prog X.w X.K X.mg X.base (L2.CX X.prog X.w) k fA fd ps (spF D w n f)) (hr : Room k X.A) (hb : Binds X.K fd ps ds) (hd : Vals dvs ds) (hdt : ∀ F, RTs D w F dts dvs) (tk : Takes X Wx) :
    CallsTo X D w Wx (.ref fA) (callF f n dts false) := fun pins σ H s us vs Q I r ⟨F, as, μ, ws, S, R, P⟩ => run_fnSD FO hr hb hd (passAt tk σ) I r (callF_ok S R hdt P)
theorem CallsTo.pure {v : Value} {f : MF} (h : CallsTo X D w Wx v f) : CallsTo X D w Wx v (pureF f) := fun pins σ H s us vs Q I r ⟨F, as, μ, ws, S, R, P⟩ => by
  unfold pureF at P
  split at P
  · rename_i ts q
    refine h pins σ H s us vs Q I r ⟨F, [], [], ws, S.none, toTs_rw q R, ?_⟩
    split at P
    · rename_i t μ' q2
      rw [q2]
      intro F' H' as' v X' S' r'
      obtain ⟨S2, X2⟩ := S.back X' S'
      exact P F' H' as v X2 S2 (by simpa only [relW, RW] using r')
    · rename_i x μ' q2
      rw [q2]
      split at P
      · rename_i xs q3
        intro F' H' as' d X' S' r'
        obtain ⟨S2, X2⟩ := S.back X' S'
        refine P F' H' as d X2 S2 ?_
        obtain ⟨fs, h1, h2, h3⟩ := r'
        exact ⟨fs, h1, h2, toTs_rw q3 h3⟩
      · exact P.elim
    · exact P.elim
  · exact P.elim
theorem Po.frz {σ : Sg} {F H : Hp} {as : List Addr} {μ : Mem} {r : R W} {Q : VK} (S : Sim D w F H as μ) (P : Po D w Wx σ F H as (relW D w) (r.bind fun u μ1 => match frzW 40 u μ1 with
  | some (t, μ2) => fin μ.length (.t t) μ2
  | none => .stuck) Q) : Po D w Wx σ F H as (relW D w) r Q := by
  cases r with
  | stuck => exact P
  | exc x μ1 => exact P
  | ok u μ1 =>
    intro F1 H1 as1 v X1 S1 R1
    rw [R.ok_bind] at P
    split at P
    · rename_i t μ2 hz
      obtain ⟨F2, z, rt⟩ := frzW_ok 40 u μ1 t μ2 hz F1 H1 as1 v S1 R1
      rw [← S.len] at P
      exact PoC.fin P.toC (X1.trans z.ext S1.there) z.sim (by simpa only [RW] using rt)
    · exact P.elim
theorem CallsTo.frz {v : Value} {f : MF} (h : CallsTo X D w Wx v f) : CallsTo X D w Wx v (frzF f) := fun pins σ H s us vs Q I r ⟨F, as, μ, ws, S, R, P⟩ => h pins σ H s us vs Q I r ⟨F, as, μ, ws, S, R, Po.frz S P⟩
theorem run_makeS {CX : CXT} {k : Nat} {f C : Addr} {fd : FuncData} {ps : List Str} {sp : Sp} {dvs : List V} {ds : List Value} {E : XK} {pins : List (Addr × Obj)} {σ : L2.St} {H : Hp} {s : Shared} {Q : VK} {us : List Value} {vs : List V} (M : Mk X.K C f) (F : FnOk X.prog X.w X.K X.mg X.base CX k f fd ps sp) (hr : Room (k + 1) X.A) (hb : Binds X.K fd ps ds) (hd : Vals dvs ds)
    (hx : ∀ pins H s e s', Inv X pins σ H s → CX X.stack H s E e s' → X.xe e s') (I : Inv X pins σ H s) (r : Vals vs us)
    (h : ∀ x dx, H x = none → H dx = none → dx ≠ x → sp (.ref x :: (vs ++ dvs)) (upd (upd H dx (.own x)) x (.ins C dx [])) (fun v H2 => v = .non ∧ Q (.ref x) H2) E) :
    wpAny (model X.prog X.w) X.A (call (.ref C) us) (EP X pins σ Q) X.xe s := by
  have hq := h (s.heap.objs.size + 1) s.heap.objs.size (I.hok.fresh (Nat.le_succ _)) (I.hok.fresh (Nat.le_refl _)) (Nat.ne_of_lt (Nat.lt_succ_self _))
  have I2 := Inv.made (C := C) I
  have r2 : Vals (V.ref (s.heap.objs.size + 1) :: (vs ++ dvs)) (Value.ref (s.heap.objs.size + 1) :: (us ++ ds)) := .cons rfl (r.append hd)
  have hl : (Value.ref (s.heap.objs.size + 1) :: us ++ ds).length = ps.length := by
    have e := r2.length
    rw [F.len _ _ _ _ hq] at e
    exact e.symm
  refine wpAny_call (make_map (f := f) I.kIn M.makes M.init (beq_iff_eq.mp M.fn) (codeAny_mono (F.run _ X.stack _ _ ⟨Value.ref (s.heap.objs.size + 1) :: us, []⟩ (Value.ref (s.heap.objs.size + 1) :: (us ++ ds)) _ _ E (hr.make C us []) (I2.env0.make C us []) (hb _ (Value.ref (s.heap.objs.size + 1) :: us) I2.kIn hl) r2 hq) fun res s' hq' => ?_))
  cases res with
  | error e => exact hx pins _ _ e s' I2 hq'
  | ok fl =>
    cases fl with
    | ret u =>
      obtain ⟨v, H', I3, rv, ev, q3⟩ := I2.after hq'
      subst ev
      exact ⟨rv, ⟨V.ref (s.heap.objs.size + 1), H', I3, rfl, q3⟩⟩
    | next => exact False.elim hq'
    | brk => exact False.elim hq'
    | cont => exact False.elim hq'
theorem CallsTo.make {k n c : Nat} {fA : Addr} {fd : FuncData} {ps : List Str} {f : MF} {dts : List T} {dvs : List V} {ds : List Value} (M : Mk X.K (D.ca c) fA) (FO : FnOk X.prog X.w X.K X.mg X.base (L2.CX X.prog X.w) k fA fd ps (spF D w n f)) (hr : Room (k + 1) X.A) (hb : Binds X.K fd ps ds) (hd : Vals dvs ds) (hdt : ∀ F, RTs D w F dts dvs) (tk : Takes X Wx) :
    CallsTo X D w Wx (.ref (D.ca c)) (mkF c (callF f n dts false)) := fun pins σ H s us vs Q I r ⟨F, as, μ, ws, S, R, P⟩ => by
  refine run_makeS (E := WE Wx σ) M FO hr hb hd (passAt tk σ) I r fun x dx hx hdx hne => ?_
  have Fx := S.freeF hx
  have Fdx := S.freeF hdx
  have S1 : Sim D w F (upd H dx (.own x)) as μ := S.side (.own x) (S.notIn hdx) Fdx (fun ps => by rw [hdx]; simp)
  have X1 : Ext F H as F (upd H dx (.own x)) as := Ext.refl.side (.own x) hdx
  have hx1 : upd H dx (.own x) x = none := by rw [upd_ne (Ne.symm hne)]; exact hx
  obtain ⟨S2, X2⟩ := S1.newL (x := .ins c [] []) (o := .ins (D.ca c) dx []) hx1 ⟨dx, [], rfl, rfl, by simp only [RWs, List.map_nil]⟩
  have X12 := X1.trans X2 S1.there
  have R2 : RWs D w F (as ++ [x]) (.ref μ.length :: ws) (.ref x :: vs) := by
    simp only [RWs, RW]
    exact ⟨_, _, rfl, ⟨x, by rw [← S.len]; simp, rfl⟩, RWs.mono (Same.refl _) ⟨[x], rfl⟩ ws vs R⟩
  refine callF_ok (pu := false) (vs := .ref x :: vs) (Wx := Wx) (σ := σ) S2 R2 hdt ?_
  unfold mkF at P
  cases q : callF f n dts false (.ref μ.length :: ws) (μ ++ [.ins c [] []]) with
  | stuck => rw [q] at P; exact P.elim
  | exc y μ' =>
    rw [q] at P
    exact fun F' H' as' d X' S' r' => P F' H' as' d (X12.trans X' S2.there) S' r'
  | ok u μ' =>
    rw [q] at P
    cases u with
    | ref m => exact P.elim
    | tup us => exact P.elim
    | t t =>
      cases t <;> first | exact P.elim | skip
      intro F' H' as' v X' S' r'
      refine ⟨by simpa only [relW, RW, RT] using r', P F' H' as' (.ref x) (X12.trans X' S2.there) S' ?_⟩
      simp only [relW, RW]
      obtain ⟨z, e⟩ := X'.pre
      exact ⟨x, by rw [e, ← S.len, List.getElem?_append_left (by simp)]; simp, rfl⟩
theorem CallsTo.of_eq {v : Value} {f g : MF} (h : CallsTo X D w Wx v f) (e : ∀ ws μ, g ws μ = .stuck ∨ g ws μ = f ws μ) : CallsTo X D w Wx v g := fun pins σ H s us vs Q I r ⟨F, as, μ, ws, S, R, P⟩ => by
  rcases e ws μ with q | q
  · rw [q] at P; exact P.elim
  · rw [q] at P; exact h pins σ H s us vs Q I r ⟨F, as, μ, ws, S, R, P⟩
/-- x(e, ..), x a name of the module -/
theorem xe_callV {v : Value} {f : MF} {x : Str} {p pos : Pos} {e : Expr} {es : List Expr} {ms : MA} (hf : CallsTo X D w Wx v f) (hg : Gl X x) (hm : X.mg x = some v) (hk : PySem.W.keepIn X.K v = true) (ha : PA X (e :: es) (RdA D w Wx ms)) (hdb : (x == ("__debug__" : Str)) = false) (he : starEach (e :: es) X.env = (false, eval e X.env) :: starEach es X.env) (hpl : (backTo pos (starEach es X.env)).any (·.1) = false) :
    PE X (.Call (.Name x p) (e :: es) [] pos) (RdE D w Wx (mA f ms)) := by
  refine ⟨fun pins s σ H Q I ⟨F, as, μ, en, S, E, P⟩ => ?_⟩
  refine wpAny_Call_Name_kw (ld_glob I hg hm ?_ hdb)
  refine PySem.W.callWith_K (h₀ := X.base) I.ok.mod.kin hk (thn (ha.run pos pins s σ H _ I ⟨F, as, μ, en, S, E, Po.bind P fun us μ1 F1 H1 as1 vs X1 S1 R1 P1 => (⟨F1, as1, μ1, us, S1, R1, P1⟩ : ∃ F as μ ws, Sim D w F H1 as μ ∧ RWs D w F as ws vs ∧ Po D w Wx σ F H1 as (relW D w) (f ws μ) Q)⟩) fun us s1 ⟨vs, H1, I1, r, q⟩ => ⟨I1.kIn, ?_⟩) he hpl
  exact hf pins σ H1 s1 us vs Q I1 r q
theorem xe_callV0 {v : Value} {f : MF} {x : Str} {p pos : Pos} (hf : CallsTo X D w Wx v f) (hg : Gl X x) (hm : X.mg x = some v) (hk : PySem.W.keepIn X.K v = true) (hdb : (x == ("__debug__" : Str)) = false) :
    PE X (.Call (.Name x p) [] [] pos) (RdE D w Wx (mA f aNil)) := by
  refine ⟨fun pins s σ H Q I ⟨F, as, μ, en, S, E, P⟩ => ?_⟩
  refine wpAny_Call_Name_kw (ld_glob I hg hm ?_ hdb)
  exact PySem.W.callWith_K0 I.kIn hk (hf pins σ H s [] [] Q I .nil ⟨F, as, μ, [], S, by simp only [RWs], P⟩)
end
end HQ
/-! HQG: fields, methods. -/
namespace HQ
open PySem PySem.Spec PyProof.Rows L2

/-! ### instances -/
def insAt (u : W) (μ : Mem) : Option (Nat × List Str × List W) := match u with
  | .t (.ins c ns ts) => some (c, ns, ts.map .t)
  | .ref n => match μ[n]? with
    | some (.ins c ns ws) => some (c, ns, ws)
    | _ => none
  | _ => none
/-- a field, by its name -/
def lookW : List Str → List W → Str → Option W
  | n :: ns, u :: us, x => if x = n then some u else lookW ns us x
  | _, _, _ => none
def putW (x : Str) (v : W) : List Str → List W → List Str × List W
  | n :: ns, u :: us => if n = x then (n :: ns, v :: us) else ((n :: (putW x v ns us).1), u :: (putW x v ns us).2)
  | _, _ => ([x], [v])
section
variable {D : Ad} {w : World} {F H : Hp} {as : List Addr} {μ : Mem}
theorem insAt_ok {u : W} {v : V} {c : Nat} {ns : List Str} {ws : List W} (S : Sim D w F H as μ) (h : insAt u μ = some (c, ns, ws)) (r : RW D w F as u v) :
    ∃ a dx fs, v = .ref a ∧ H a = some (.ins (D.ca c) dx fs) ∧ fs.map (·.1) = ns ∧ RWs D w F as ws (fs.map (·.2)) := by
  cases u with
  | t t =>
    cases t <;> simp only [insAt, Option.some.injEq, Prod.mk.injEq, reduceCtorEq] at h
    obtain ⟨rfl, rfl, rfl⟩ := h
    simp only [RW, RT] at r
    obtain ⟨a, dx, fs, rfl, e, e1, r⟩ := r
    exact ⟨a, dx, fs, rfl, S.sub _ _ e, e1, r.toW⟩
  | ref n =>
    simp only [RW] at r
    obtain ⟨a, e, rfl⟩ := r
    simp only [insAt] at h
    cases q : μ[n]? with
    | none => rw [q] at h; cases h
    | some o =>
      rw [q] at h
      cases o <;> simp only [Option.some.injEq, Prod.mk.injEq, reduceCtorEq] at h
      obtain ⟨rfl, rfl, rfl⟩ := h
      obtain ⟨dx, fs, e1, e2, r⟩ := S.obj n a _ e q
      exact ⟨a, dx, fs, rfl, e1, e2, r⟩
  | tup ws => simp [insAt] at h
theorem lookW_ok : ∀ {fs : List (Str × V)} {ns : List Str} {ws : List W} {x : Str} {u : W}, fs.map (·.1) = ns → RWs D w F as ws (fs.map (·.2)) → lookW ns ws x = some u → ∃ v, fs.lookup x = some v ∧ RW D w F as u v
  | [], ns, ws, x, u, e, r, h => by
    simp only [List.map_nil] at e; subst e
    simp [lookW] at h
  | (n, v) :: fs, ns, ws, x, u, e, r, h => by
    simp only [List.map_cons] at e; subst e
    cases ws with
    | nil => simp [lookW] at h
    | cons y ws =>
      simp only [List.map_cons, RWs] at r
      obtain ⟨v', r', e, r1, r2⟩ := r
      cases e
      simp only [lookW] at h
      rw [List.lookup_cons]
      by_cases q : x = n
      · rw [if_pos q] at h
        cases h
        rw [show (x == n) = true from beq_iff_eq.mpr q]
        exact ⟨v, rfl, r1⟩
      · rw [if_neg q] at h
        rw [show (x == n) = false from beq_eq_false_iff_ne.mpr q]
        exact lookW_ok rfl r2 h
theorem look_none : ∀ {fs : List (Str × V)} {ns : List Str} {x : Str}, fs.map (·.1) = ns → ns.elem x = false → fs.lookup x = none
  | [], ns, x, e, h => rfl
  | (n, v) :: fs, ns, x, e, h => by
    simp only [List.map_cons] at e; subst e
    rw [List.elem_cons] at h
    rw [List.lookup_cons]
    cases q : x == n with
    | true => rw [q] at h; cases h
    | false => rw [q] at h; exact look_none (ns := fs.map (·.1)) rfl h
theorem putW_ok {x : Str} {u : W} {v : V} (rv : RW D w F as u v) : ∀ {fs : List (Str × V)} {ns : List Str} {ws : List W}, fs.map (·.1) = ns → RWs D w F as ws (fs.map (·.2)) →
    (putF x v fs).map (·.1) = (putW x u ns ws).1 ∧ RWs D w F as (putW x u ns ws).2 ((putF x v fs).map (·.2))
  | [], ns, ws, e, r => by
    simp only [List.map_nil] at e; subst e
    cases ws with
    | nil => exact ⟨rfl, by simp only [putW, putF, List.map_cons, List.map_nil, RWs]; exact ⟨_, _, rfl, rv, rfl⟩⟩
    | cons y ws => simp [RWs] at r
  | (n, y) :: fs, ns, ws, e, r => by
    simp only [List.map_cons] at e; subst e
    cases ws with
    | nil => simp [RWs] at r
    | cons z ws =>
      simp only [List.map_cons, RWs] at r
      obtain ⟨v', r', e, r1, r2⟩ := r
      cases e
      simp only [putF, putW]
      by_cases q : n = x
      · rw [if_pos q, if_pos q]
        refine ⟨by simp, ?_⟩
        simp only [List.map_cons, RWs]
        exact ⟨_, _, rfl, rv, r2⟩
      · rw [if_neg q, if_neg q]
        obtain ⟨h1, h2⟩ := putW_ok (x := x) rv (fs := fs) (ns := fs.map (·.1)) rfl r2
        refine ⟨by simp [h1], ?_⟩
        simp only [List.map_cons, RWs]
        exact ⟨_, _, rfl, r1, h2⟩
end
/-- fields that may be read and stored: ok c f: the class c has no f of its own -/
def ClsF (K : PySem.W.Frag) (D : Ad) (ok : Nat → Str → Bool) : Prop := ∀ c f, ok c f = true → Cls K (D.ca c) ∧ NoAttr K (D.ca c) f
def mFld (ok : Nat → Str → Bool) (m : ME) (f : Str) : ME := fun e μ => (m e μ).bind fun u μ1 => match insAt u μ1 with
  | some (c, ns, ws) => if ok c f = true then (match lookW ns ws f with
    | some v => .ok v μ1
    | none => .stuck) else .stuck
  | none => .stuck
def sFldS (ok : Nat → Str → Bool) (mv mo : ME) (f : Str) : MS := fun e μ => (mv e μ).st e fun v μ1 => (mo e μ1).st e fun o μ2 => match o with
  | .ref n => match μ2[n]? with
    | some (.ins c ns ws) => if ok c f = true ∧ ns.length < 1000 then .nx e (μ2.set n (.ins c (putW f v ns ws).1 (putW f v ns ws).2)) else .stuck
    | _ => .stuck
  | _ => .stuck
section
variable {X : Cx} {D : Ad} {w : World} {Wx : WX} {ok : Nat → Str → Bool}
theorem xe_fld {e : Expr} {m : ME} {f : Str} {pos : Pos} (hk : ClsF X.K D ok) (he : PE X e (RdE D w Wx m)) (hb : attributeBase e f X.env (eval e X.env) = eval e X.env) : PE X (.Attribute e f pos) (RdE D w Wx (mFld ok m f)) :=
  PE.weak (pe_fld he hb) fun σ H Q ⟨F, as, μ, e, S, E, P⟩ => ⟨F, as, μ, e, S, E, Po.bind P fun u μ1 F1 H1 as1 v X1 S1 R1 P1 => by
    split at P1
    · rename_i c ns ws q
      split at P1
      · rename_i qo
        split at P1
        · rename_i y qy
          obtain ⟨a, dx, fs, rfl, hH, hn, r⟩ := insAt_ok S1 q R1
          obtain ⟨v, hv, rv⟩ := lookW_ok hn r qy
          exact ⟨a, _, dx, fs, v, rfl, hH, (hk c f qo).1, (hk c f qo).2, hv, Po.now P1 S1 rv⟩
        · exact P1.elim
      · exact P1.elim
    · exact P1.elim⟩
theorem xs_fld {o value : Expr} {mo mv : ME} {f : Str} {pos pos' : Pos} (hk : ClsF X.K D ok) (hv : PE X value (RdE D w Wx mv)) (ho : PE X o (RdE D w Wx mo)) (hs : swapsWith value (some (.Attribute o f pos')) pos.line X.env = pure false) : PS X (.Assign [.Attribute o f pos'] value pos) (RdS D w Wx (sFldS ok mv mo f)) :=
  PS.weak (ps_fld ho hv hs) fun N σ H ⟨F, as, μ, e, S, E, P⟩ => ⟨F, as, μ, e, S, E, PoS.ex P E fun y μ1 F1 H1 as1 vy X1 S1 E1 Ry P1 => ⟨F1, as1, μ1, e, S1, E1, PoS.ex P1 E1 fun u μ2 F2 H2 as2 vu X2 S2 E2 Ru P2 => by
    split at P2
    · rename_i n
      split at P2
      · rename_i c ns ws q
        split at P2
        · rename_i qo
          have q' : insAt (.ref n) μ2 = some (c, ns, ws) := by simp only [insAt, q]
          obtain ⟨a, dx, fs, rfl, hH, hn, r⟩ := insAt_ok S2 q' Ru
          simp only [relW, RW] at Ru
          obtain ⟨a', ha, e'⟩ := Ru
          cases e'
          have Ry2 := RW.mono X2.fs X2.pre y vy Ry
          obtain ⟨h1, h2⟩ := putW_ok (x := f) Ry2 hn r
          have hl : fs.length < 1000 := by have := congrArg List.length hn; rw [List.length_map] at this; omega
          obtain ⟨S3, X3⟩ := S2.wrt (y := .ins c (putW f y ns ws).1 (putW f y ns ws).2) (o := .ins (D.ca c) dx (putF f vy fs)) ha q (by simp) ⟨dx, _, rfl, h1, h2⟩
          exact ⟨a, _, dx, fs, rfl, hH, (hk c f qo.1).1, (hk c f qo.1).2, hl, P2 F2 _ as2 σ X3 S3 (E2.mono X3.fs X3.pre)⟩
        · exact P2.elim
      · exact P2.elim
    · exact P2.elim⟩⟩
/-! ### methods of own classes -/
/-- the method m of each class -/
def MethTo (X : Cx) (D : Ad) (w : World) (Wx : WX) (m : Str) (tb : Nat → Option MF) : Prop := ∀ c f, tb c = some f → Cls X.K (D.ca c) ∧ ∃ g, Meth X.K (D.ca c) m g ∧ CallsTo X D w Wx (.ref g) f
def mMe (m : Str) (tb : Nat → Option MF) (mo : ME) (ms : MA) : ME := fun e μ => (mo e μ).bind fun u μ1 => match insAt u μ1 with
  | some (c, ns, _) => if ns.elem m = false then (match tb c with
    | some f => (ms e μ1).bind fun us μ2 => f (u :: us) μ2
    | none => .stuck) else .stuck
  | none => .stuck
theorem xe_meth {pl : Sem Bool} {o e : Expr} {es : List Expr} {m : Str} {apos pos : Pos} {tb : Nat → Option MF} {mo : ME} {ms : MA} (hm : MethTo X D w Wx m tb) (ho : PE X o (RdE D w Wx mo)) (ha : PA X (e :: es) (RdA D w Wx ms))
    (hst : starEach (e :: es) X.env = (false, eval e X.env) :: starEach es X.env) (hpl : (backTo pos (starEach es X.env)).any (·.1) = false)
    (ht : eval (.Call (.Attribute o m apos) (e :: es) [] pos) X.env = (do
      let ov ← eval o X.env
      standAt apos.atName
      let (f, first) ← holding [ov] (getMethod ov m pl)
      callWith pos f first (backTo pos (starEach (e :: es) X.env)) (backToKw pos (keywordEach [] X.env)))) :
    PE X (.Call (.Attribute o m apos) (e :: es) [] pos) (RdE D w Wx (mMe m tb mo ms)) := by
  refine ⟨fun pins s σ H Q I ⟨F, as, μ, en, S, E, P⟩ => ?_⟩
  refine PySem.W.methodCall_KW (pl := pl) (thn (ho.run pins s σ H (fun v H1 => ∃ F1 as1 μ1 u, Sim D w F1 H1 as1 μ1 ∧ ER D w F1 as1 en σ ∧ RW D w F1 as1 u v ∧ Po D w Wx σ F1 H1 as1 (relW D w) (match insAt u μ1 with
    | some (c, ns, _) => if ns.elem m = false then (match tb c with
      | some f => (ms en μ1).bind fun us μ2 => f (u :: us) μ2
      | none => .stuck) else .stuck
    | none => .stuck) Q) I ⟨F, as, μ, en, S, E, Po.bind P fun u μ1 F1 H1 as1 v X1 S1 R1 P1 => ⟨F1, as1, μ1, u, S1, E.mono X1.fs X1.pre, R1, P1⟩⟩) fun u s1 ⟨x, H1, I1, rx, F1, as1, μ1, uw, S1, E1, R1, P1⟩ => ?_) ht
  split at P1
  · rename_i c ns ws q
    split at P1
    · rename_i qn
      split at P1
      · rename_i f qf
        obtain ⟨a, dx, fs, rfl, hH, hn, r⟩ := insAt_ok S1 q R1
        obtain rfl : u = Value.ref a := rx
        obtain ⟨hc, g, hg, hf⟩ := hm c f qf
        refine getmeth_ok I1 hH hc hg (look_none hn qn) ?_
        refine PySem.W.callWith_K (first := [.ref a]) (h₀ := X.base) I.ok.mod.kin hg.kp (thn (ha.run pos pins s1 σ H1 (fun vs H2 => ∃ F2 as2 μ2 us, Sim D w F2 H2 as2 μ2 ∧ RWs D w F2 as2 (uw :: us) (.ref a :: vs) ∧ Po D w Wx σ F2 H2 as2 (relW D w) (f (uw :: us) μ2) Q) I1 ⟨F1, as1, μ1, en, S1, E1, Po.bind P1 fun us μ2 F2 H2 as2 vs X2 S2 R2 P2 => ⟨F2, as2, μ2, us, S2, ?_, P2⟩⟩) fun us s2 ⟨vs, H2, I2, r2, q2⟩ => ⟨I2.kIn, ?_⟩) hst hpl
        · simp only [RWs]; exact ⟨_, _, rfl, RW.mono X2.fs X2.pre uw _ R1, R2⟩
        · obtain ⟨F2, as2, μ2, us', S2, R2, P2⟩ := q2
          exact hf pins σ H2 s2 (.ref a :: us) (.ref a :: vs) Q I2 (.cons rfl r2) ⟨F2, as2, μ2, _, S2, R2, P2⟩
      · exact P1.elim
    · exact P1.elim
  · exact P1.elim
theorem xe_meth0 {pl : Sem Bool} {o : Expr} {m : Str} {apos pos : Pos} {tb : Nat → Option MF} {mo : ME} (hm : MethTo X D w Wx m tb) (ho : PE X o (RdE D w Wx mo))
    (ht : eval (.Call (.Attribute o m apos) [] [] pos) X.env = (do
      let ov ← eval o X.env
      standAt apos.atName
      let (f, first) ← holding [ov] (getMethod ov m pl)
      callWith pos f first (backTo pos (starEach [] X.env)) (backToKw pos (keywordEach [] X.env)))) :
    PE X (.Call (.Attribute o m apos) [] [] pos) (RdE D w Wx (mMe m tb mo aNil)) := by
  refine ⟨fun pins s σ H Q I ⟨F, as, μ, en, S, E, P⟩ => ?_⟩
  refine PySem.W.methodCall_KW (pl := pl) (thn (ho.run pins s σ H (fun v H1 => ∃ F1 as1 μ1 u, Sim D w F1 H1 as1 μ1 ∧ RW D w F1 as1 u v ∧ Po D w Wx σ F1 H1 as1 (relW D w) (match insAt u μ1 with
    | some (c, ns, _) => if ns.elem m = false then (match tb c with
      | some f => (aNil en μ1).bind fun us μ2 => f (u :: us) μ2
      | none => .stuck) else .stuck
    | none => .stuck) Q) I ⟨F, as, μ, en, S, E, Po.bind P fun u μ1 F1 H1 as1 v X1 S1 R1 P1 => ⟨F1, as1, μ1, u, S1, R1, P1⟩⟩) fun u s1 ⟨x, H1, I1, rx, F1, as1, μ1, uw, S1, R1, P1⟩ => ?_) ht
  split at P1
  · rename_i c ns ws q
    split at P1
    · rename_i qn
      split at P1
      · rename_i f qf
        obtain ⟨a, dx, fs, rfl, hH, hn, r⟩ := insAt_ok S1 q R1
        obtain rfl : u = Value.ref a := rx
        obtain ⟨hc, g, hg, hf⟩ := hm c f qf
        refine getmeth_ok I1 hH hc hg (look_none hn qn) ?_
        exact PySem.W.callWith_K0 (first := [.ref a]) I1.kIn hg.kp (hf pins σ H1 s1 [.ref a] [.ref a] Q I1 (.cons rfl .nil) ⟨F1, as1, μ1, [uw], S1, by simp only [RWs]; exact ⟨_, _, rfl, R1, rfl⟩, P1⟩)
      · exact P1.elim
    · exact P1.elim
  · exact P1.elim
/-! ### methods of built-in classes -/
/-- a thing of the built-in type T -/
def tyZ (K : PySem.W.Frag) (w : World) (T : String) (x : V) (H : Hp) : Prop := tyV K T x H ∨ (T = "dict" ∧ ∃ a es, x = .ref a ∧ H a = some (dicO w a es))
theorem tyZ_is {pins : List (Addr × Obj)} {σ : L2.St} {H : Hp} {s : Shared} {T : String} {x : V} {v : Value} (I : Inv X pins σ H s) (r : RelV x v) (ty : tyZ X.K w T x H) :
    s.TypeIs v T ∧ ∀ a, v = .ref a → ∃ ob, s.heap.get? a = some ob ∧ ob.dict = none := by
  rcases ty with ty | ⟨rfl, a, es, rfl, e⟩
  · exact tyV_is I r ty
  · cases r
    obtain ⟨_, _, o, xs, ep, h1, h2, _⟩ := dic_at I.hok e
    exact ⟨⟨o, h1, h2.1⟩, fun b q => by cases q; exact ⟨o, h1, h2.2.1⟩⟩
def tBMz (K : PySem.W.Frag) (w : World) (T : String) (r : V → List V → Hp → VK → Prop) (to : TE) (t : TA) : TE := fun σ H Q => to σ H fun x H1 => tyZ K w T x H1 ∧ t σ H1 fun xs H2 => r x xs H2 Q
theorem pe_bmz {T id : String} {name : Str} {r : V → List V → Hp → VK → Prop} {o e : Expr} {es : List Expr} {to : TE} {t : TA} {apos cpos : Pos} (pa : PlainAttrs T) (slot : Slot T name id) (hty : typeOf (.builtin id) = pure (.type "method_descriptor")) (hm : MtR X id r) (ho : PE X o to) (ha : PA X (e :: es) t)
    (hbase : attributeBase o name X.env (eval o X.env) = eval o X.env)
    (hfew : ((backTo cpos (starEach (e :: es) X.env)).all (fun x => !x.1) && (backToKw cpos (keywordEach [] X.env)).all (fun x => x.1.isSome)
      && decide ((e :: es).length + ([] : List Keyword).length + (if ([] : List Keyword).isEmpty then 0 else 1) < 30)) = true)
    (hline : (apos.endLine == cpos.line) = true) (hs : starEach (e :: es) X.env = (false, eval e X.env) :: starEach es X.env) (hplain : (backTo cpos (starEach es X.env)).any (·.1) = false) :
    PE X (.Call (.Attribute o name apos) (e :: es) [] cpos) (tBMz X.K w T r to t) := by
  refine ⟨fun pins s σ H Q I h => ?_⟩
  refine wpAny_Call_method_late hbase hfew hline rfl (thn (ho.run pins s σ H _ I h) fun v s1 ⟨x, H1, I1, r1, ty, q1⟩ => ?_)
  obtain ⟨h1, h2⟩ := tyZ_is I1 r1 ty
  refine ⟨T, id, pa, slot, hty, h1, h2, ?_⟩
  have hA := ha.run cpos pins s1 σ H1 _ I1 q1
  rw [hs] at hA ⊢
  refine Calls.callWith_builtin (by show (false || (backTo cpos (starEach es X.env)).any (·.1)) = false; rw [hplain] <;> rfl) (Calls.evalArgs_plain ?_)
  exact thn hA fun us s2 ⟨vs, H2, I2, r2, q2⟩ => hm pins s2 σ H2 x vs v us Q I2 r1 r2 q2
theorem pe_bmz0 {T id : String} {name : Str} {r : V → List V → Hp → VK → Prop} {o : Expr} {to : TE} {apos cpos : Pos} (pa : PlainAttrs T) (slot : Slot T name id) (hty : typeOf (.builtin id) = pure (.type "method_descriptor")) (hm : MtR X id r) (ho : PE X o to)
    (hbase : attributeBase o name X.env (eval o X.env) = eval o X.env) (hline : (apos.endLine == cpos.line) = true) : PE X (.Call (.Attribute o name apos) [] [] cpos) (fun σ H Q => to σ H fun x H1 => tyZ X.K w T x H1 ∧ r x [] H1 Q) := by
  refine ⟨fun pins s σ H Q I h => ?_⟩
  refine wpAny_Call_method0_late hbase hline (thn (ho.run pins s σ H _ I h) fun v s1 ⟨x, H1, I1, r1, ty, q1⟩ => ?_)
  obtain ⟨h1, h2⟩ := tyZ_is I1 r1 ty
  exact ⟨T, id, pa, slot, hty, h1, h2, Calls.callWith_builtin rfl (PySem.evalArgs_none (hm pins s1 σ H1 x [] v [] Q I1 r1 .nil q1))⟩
/-- a method by values: T the receiver's type, told ahead of the arguments -/
def OpMe (D : Ad) (w : World) (Wx : WX) (K : PySem.W.Frag) (T : String) (r : V → List V → Hp → VK → Prop) (ty : W → Mem → Bool) (f : W → List W → Mem → R W) : Prop :=
  (∀ F H as μ u v, Sim D w F H as μ → RW D w F as u v → ty u μ = true → tyZ K w T v H) ∧ ∀ σ F H as μ u us v vs (Q : VK), Sim D w F H as μ → RW D w F as u v → RWs D w F as us vs → Po D w Wx σ F H as (relW D w) (f u us μ) Q → r v vs H Q
def mBm (ty : W → Mem → Bool) (f : W → List W → Mem → R W) (mo : ME) (ms : MA) : ME := fun e μ => (mo e μ).bind fun u μ1 => if ty u μ1 = true then (ms e μ1).bind fun us μ2 => f u us μ2 else .stuck
theorem xe_bm {T id : String} {name : Str} {r : V → List V → Hp → VK → Prop} {ty : W → Mem → Bool} {f : W → List W → Mem → R W} {o e : Expr} {es : List Expr} {mo : ME} {ms : MA} {apos cpos : Pos} (pa : PlainAttrs T) (slot : Slot T name id) (hty : typeOf (.builtin id) = pure (.type "method_descriptor")) (hm : MtR X id r) (hf : OpMe D w Wx X.K T r ty f) (ho : PE X o (RdE D w Wx mo)) (ha : PA X (e :: es) (RdA D w Wx ms))
    (hbase : attributeBase o name X.env (eval o X.env) = eval o X.env)
    (hfew : ((backTo cpos (starEach (e :: es) X.env)).all (fun x => !x.1) && (backToKw cpos (keywordEach [] X.env)).all (fun x => x.1.isSome)
      && decide ((e :: es).length + ([] : List Keyword).length + (if ([] : List Keyword).isEmpty then 0 else 1) < 30)) = true)
    (hline : (apos.endLine == cpos.line) = true) (hs : starEach (e :: es) X.env = (false, eval e X.env) :: starEach es X.env) (hplain : (backTo cpos (starEach es X.env)).any (·.1) = false) :
    PE X (.Call (.Attribute o name apos) (e :: es) [] cpos) (RdE D w Wx (mBm ty f mo ms)) :=
  PE.weak (pe_bmz (w := w) pa slot hty hm ho ha hbase hfew hline hs hplain) fun σ H Q ⟨F, as, μ, e, S, E, P⟩ => ⟨F, as, μ, e, S, E, Po.bind P fun u μ1 F1 H1 as1 v X1 S1 R1 P1 => by
    by_cases q : ty u μ1 = true
    · rw [if_pos q] at P1
      refine ⟨hf.1 F1 H1 as1 μ1 u v S1 R1 q, F1, as1, μ1, e, S1, E.mono X1.fs X1.pre, Po.bind P1 fun us μ2 F2 H2 as2 vs X2 S2 R2 P2 => ?_⟩
      exact hf.2 σ F2 H2 as2 μ2 u us v vs Q S2 (RW.mono X2.fs X2.pre u v R1) R2 P2
    · rw [if_neg q] at P1; exact P1.elim⟩
theorem xe_bm0 {T id : String} {name : Str} {r : V → List V → Hp → VK → Prop} {ty : W → Mem → Bool} {f : W → List W → Mem → R W} {o : Expr} {mo : ME} {apos cpos : Pos} (pa : PlainAttrs T) (slot : Slot T name id) (hty : typeOf (.builtin id) = pure (.type "method_descriptor")) (hm : MtR X id r) (hf : OpMe D w Wx X.K T r ty f) (ho : PE X o (RdE D w Wx mo))
    (hbase : attributeBase o name X.env (eval o X.env) = eval o X.env) (hline : (apos.endLine == cpos.line) = true) : PE X (.Call (.Attribute o name apos) [] [] cpos) (RdE D w Wx (mBm ty f mo aNil)) :=
  PE.weak (pe_bmz0 (w := w) pa slot hty hm ho hbase hline) fun σ H Q ⟨F, as, μ, e, S, E, P⟩ => ⟨F, as, μ, e, S, E, Po.bind P fun u μ1 F1 H1 as1 v X1 S1 R1 P1 => by
    by_cases q : ty u μ1 = true
    · rw [if_pos q] at P1
      exact ⟨hf.1 F1 H1 as1 μ1 u v S1 R1 q, hf.2 σ F1 H1 as1 μ1 u [] v [] Q S1 R1 (by simp only [RWs]) P1⟩
    · rw [if_neg q] at P1; exact P1.elim⟩
end
/-! ### lists that change -/
def lsAt (u : W) (μ : Mem) : Option (List W) := match u with
  | .ref n => match μ[n]? with
    | some (.lst ws) => some ws
    | _ => none
  | _ => none
def isLs (u : W) (μ : Mem) : Bool := (getL u μ).isSome
/-- the list at u becomes these -/
def lsSet (u : W) (ws : List W) (μ : Mem) : Mem := match u with
  | .ref n => μ.set n (.lst ws)
  | _ => μ
section
variable {X : Cx} {D : Ad} {w : World} {Wx : WX} {K : PySem.W.Frag}
theorem isLs_ok {F H : Hp} {as : List Addr} {μ : Mem} {u : W} {v : V} (S : Sim D w F H as μ) (r : RW D w F as u v) (h : isLs u μ = true) : tyZ K w "list" v H := by
  obtain ⟨ws, e⟩ := Option.isSome_iff_exists.mp h
  obtain ⟨a, vs, rfl, q, _⟩ := getL_ok S e r
  exact .inl (.inl ⟨rfl, vs, .inl q⟩)
theorem lsAt_ok {F H : Hp} {as : List Addr} {μ : Mem} {u : W} {v : V} {ws : List W} (S : Sim D w F H as μ) (h : lsAt u μ = some ws) (r : RW D w F as u v) : ∃ a vs, v = .ref a ∧ H a = some (.lst vs) ∧ RWs D w F as ws vs ∧ ∀ (us : List W) (xs : List V), RWs D w F as us xs → Sim D w F (upd H a (.lst xs)) as (lsSet u us μ) ∧ Ext F H as F (upd H a (.lst xs)) as := by
  cases u with
  | t t => simp [lsAt] at h
  | tup us => simp [lsAt] at h
  | ref n =>
    simp only [lsAt] at h
    cases q : μ[n]? with
    | none => rw [q] at h; cases h
    | some o =>
      rw [q] at h
      cases o <;> simp only [Option.some.injEq, reduceCtorEq] at h
      subst h
      simp only [RW] at r
      obtain ⟨a, ha, rfl⟩ := r
      obtain ⟨vs, e, r⟩ := S.obj n a _ ha q
      exact ⟨a, vs, rfl, e, r, fun us xs r2 => S.wrt (y := .lst us) (o := .lst xs) ha q (by simp) ⟨xs, rfl, r2⟩⟩
def fApp (u : W) (us : List W) (μ : Mem) : R W := match lsAt u μ, us with
  | some ws, [y] => if ws.length < bigL then .ok (.t .non) (lsSet u (ws ++ [y]) μ) else .stuck
  | _, _ => .stuck
theorem app_ok : OpMe D w Wx K "list" rAppend isLs fApp := ⟨fun F H as μ u v S r h => isLs_ok S r h, fun σ F H as μ u us v vs Q S r rs P => by
  unfold fApp at P
  split at P
  · rename_i ws y q
    split at P
    · rename_i hl
      obtain ⟨a, xs, rfl, e, r1, k⟩ := lsAt_ok S q r
      obtain ⟨y', rfl, ry⟩ := rw1 rs
      obtain ⟨S2, X2⟩ := k (ws ++ [y]) (xs ++ [y']) (r1.app (by simp only [RWs]; exact ⟨_, _, rfl, ry, rfl⟩))
      exact ⟨a, xs, y', rfl, rfl, e, by rw [← r1.len]; exact Nat.lt_of_lt_of_le hl bigL_le, P F _ as .non X2 S2 (by simp only [relW, RW, RT])⟩
    · exact P.elim
  · exact P.elim⟩
def fExt (u : W) (us : List W) (μ : Mem) : R W := match lsAt u μ, us with
  | some ws, [y] => match getLT y μ with
    | some zs => if ws.length + zs.length ≤ bigL then .ok (.t .non) (lsSet u (ws ++ zs) μ) else .stuck
    | none => .stuck
  | _, _ => .stuck
def fPop (u : W) (us : List W) (μ : Mem) : R W := match lsAt u μ, us with
  | some ws, [] => match ws.getLast? with
    | some y => .ok y (lsSet u ws.dropLast μ)
    | none => .stuck
  | _, _ => .stuck
theorem ext_ok : OpMe D w Wx K "list" rExtend isLs fExt := ⟨fun F H as μ u v S r h => isLs_ok S r h, fun σ F H as μ u us v vs Q S r rs P => by
  unfold fExt at P
  split at P
  · rename_i ws y q
    split at P
    · rename_i zs q2
      split at P
      · rename_i hl
        obtain ⟨a, xs, rfl, e, r1, k⟩ := lsAt_ok S q r
        obtain ⟨y', rfl, ry⟩ := rw1 rs
        obtain ⟨b, ys, rfl, e2, r2⟩ := getLT_ok S q2 ry
        obtain ⟨S2, X2⟩ := k (ws ++ zs) (xs ++ ys) (r1.app r2)
        exact ⟨a, b, xs, ys, rfl, rfl, e, e2, by rw [← r1.len, ← r2.len]; exact Nat.le_trans hl bigL_le, P F _ as .non X2 S2 (by simp only [relW, RW, RT])⟩
      · exact P.elim
    · exact P.elim
  · exact P.elim⟩
theorem pop_ok : OpMe D w Wx K "list" rPop isLs fPop := ⟨fun F H as μ u v S r h => isLs_ok S r h, fun σ F H as μ u us v vs Q S r rs P => by
  unfold fPop at P
  split at P
  · rename_i ws q
    split at P
    · rename_i y q2
      obtain ⟨a, xs, rfl, e, r1, k⟩ := lsAt_ok S q r
      simp only [RWs] at rs
      subst rs
      rw [List.getLast?_eq_getElem?] at q2
      obtain ⟨y', e2, ry⟩ := r1.at_ q2
      rw [r1.len] at e2
      have r2 : RWs D w F as ws.dropLast xs.dropLast := by rw [List.dropLast_eq_take, List.dropLast_eq_take, r1.len]; exact RWs.take _ r1
      obtain ⟨S2, X2⟩ := k ws.dropLast xs.dropLast r2
      exact ⟨a, xs, y', rfl, rfl, e, e2, P F _ as y' X2 S2 ry⟩
    · exact P.elim
  · exact P.elim⟩
def fPopAt (u : W) (us : List W) (μ : Mem) : R W := match lsAt u μ, us with
  | some ws, [.t (.int i)] => if -(2 ^ 63) ≤ i ∧ i < 2 ^ 63 then (match seqIndex? i ws.length with
    | some k => match ws[k]? with
      | some y => .ok y (lsSet u (ws.eraseIdx k) μ)
      | none => .stuck
    | none => .stuck) else .stuck
  | _, _ => .stuck
theorem rws_erase {F : Hp} {as : List Addr} : ∀ {ws : List W} {vs : List V} (k : Nat), RWs D w F as ws vs → RWs D w F as (ws.eraseIdx k) (vs.eraseIdx k)
  | [], vs, k, r => by simp only [RWs] at r; subst r; simp [RWs]
  | x :: ws, vs, 0, r => by
    simp only [RWs] at r
    obtain ⟨v, vs', rfl, _, r2⟩ := r
    simpa using r2
  | x :: ws, vs, k + 1, r => by
    simp only [RWs] at r
    obtain ⟨v, vs', rfl, r1, r2⟩ := r
    simp only [List.eraseIdx_cons_succ, RWs]
    exact ⟨_, _, rfl, r1, rws_erase k r2⟩
theorem popAt_ok : OpMe D w Wx K "list" rPopAt isLs fPopAt := ⟨fun F H as μ u v S r h => isLs_ok S r h, fun σ F H as μ u us v vs Q S r rs P => by
  unfold fPopAt at P
  split at P
  · rename_i ws i q
    split at P
    · rename_i hb
      split at P
      · rename_i k q2
        split at P
        · rename_i y q3
          obtain ⟨a, xs, rfl, e, r1, kk⟩ := lsAt_ok S q r
          obtain ⟨i', rfl, ri⟩ := rw1 rs
          simp only [RW, RT] at ri
          subst ri
          obtain ⟨y', e2, ry⟩ := r1.at_ q3
          obtain ⟨S2, X2⟩ := kk (ws.eraseIdx k) (xs.eraseIdx k) (rws_erase k r1)
          exact ⟨a, xs, i, k, y', rfl, rfl, e, hb.1, hb.2, by rw [← r1.len]; exact q2, e2, P F _ as y' X2 S2 ry⟩
        · exact P.elim
      · exact P.elim
    · exact P.elim
  · exact P.elim⟩
def fRev (u : W) (us : List W) (μ : Mem) : R W := match lsAt u μ, us with
  | some ws, [] => .ok (.t .non) (lsSet u ws.reverse μ)
  | _, _ => .stuck
theorem rws_rev {F : Hp} {as : List Addr} : ∀ {ws : List W} {vs : List V}, RWs D w F as ws vs → RWs D w F as ws.reverse vs.reverse
  | [], vs, r => by simp only [RWs] at r; subst r; simp [RWs]
  | x :: ws, vs, r => by
    simp only [RWs] at r
    obtain ⟨v, vs', rfl, r1, r2⟩ := r
    rw [List.reverse_cons, List.reverse_cons]
    exact (rws_rev r2).app (by simp only [RWs]; exact ⟨_, _, rfl, r1, rfl⟩)
theorem rev_ok : OpMe D w Wx K "list" rReverse isLs fRev := ⟨fun F H as μ u v S r h => isLs_ok S r h, fun σ F H as μ u us v vs Q S r rs P => by
  unfold fRev at P
  split at P
  · rename_i ws q
    obtain ⟨a, xs, rfl, e, r1, kk⟩ := lsAt_ok S q r
    simp only [RWs] at rs
    subst rs
    obtain ⟨S2, X2⟩ := kk ws.reverse xs.reverse (rws_rev r1)
    exact ⟨a, xs, rfl, rfl, e, P F _ as .non X2 S2 (by simp only [relW, RW, RT])⟩
  · exact P.elim⟩
def fClr (u : W) (us : List W) (μ : Mem) : R W := match lsAt u μ, us with
  | some _, [] => .ok (.t .non) (lsSet u [] μ)
  | _, _ => .stuck
theorem clr_ok : OpMe D w Wx K "list" rClear isLs fClr := ⟨fun F H as μ u v S r h => isLs_ok S r h, fun σ F H as μ u us v vs Q S r rs P => by
  unfold fClr at P
  split at P
  · rename_i ws q
    obtain ⟨a, xs, rfl, e, r1, kk⟩ := lsAt_ok S q r
    simp only [RWs] at rs
    subst rs
    obtain ⟨S2, X2⟩ := kk [] [] (by simp only [RWs])
    exact ⟨a, xs, rfl, rfl, e, P F _ as .non X2 S2 (by simp only [relW, RW, RT])⟩
  · exact P.elim⟩
end
/-! the node of a method of lists -/
section
variable {X : Cx} {D : Ad} {w : World} {Wx : WX} {k : Nat} {is ls : List Nat} {gs bs : List Str} (c : Sc X D w Wx k is ls gs bs) {o e : Expr} {mo me : ME} {apos pos : Pos}
include c
theorem nAppend (ho : PE X o (RdE D w Wx mo)) (he : PE X e (RdE D w Wx me)) (hbase : attributeBase o "append" X.env (eval o X.env) = eval o X.env) (hline : (apos.endLine == pos.line) = true)
    (hs : starEach [e] X.env = (false, eval e X.env) :: starEach [] X.env) (hfew : ((backTo pos (starEach [e] X.env)).all (fun x => !x.1) && (backToKw pos (keywordEach [] X.env)).all (fun x => x.1.isSome)
      && decide ([e].length + ([] : List Keyword).length + (if ([] : List Keyword).isEmpty then 0 else 1) < 30)) = true) :
    PE X (.Call (.Attribute o "append" apos) [e] [] pos) (RdE D w Wx (mBm isLs fApp mo (aCons me aNil))) := xe_bm PySem.F.plainAttrs_list PySem.F.slot_list_append PySem.F.type_list_append mt_append app_ok ho (xa_cons he xa_nil hs) hbase hfew hline hs rfl
theorem nExtend (ho : PE X o (RdE D w Wx mo)) (he : PE X e (RdE D w Wx me)) (hbase : attributeBase o "extend" X.env (eval o X.env) = eval o X.env) (hline : (apos.endLine == pos.line) = true)
    (hs : starEach [e] X.env = (false, eval e X.env) :: starEach [] X.env) (hfew : ((backTo pos (starEach [e] X.env)).all (fun x => !x.1) && (backToKw pos (keywordEach [] X.env)).all (fun x => x.1.isSome)
      && decide ([e].length + ([] : List Keyword).length + (if ([] : List Keyword).isEmpty then 0 else 1) < 30)) = true) :
    PE X (.Call (.Attribute o "extend" apos) [e] [] pos) (RdE D w Wx (mBm isLs fExt mo (aCons me aNil))) := xe_bm PySem.F.plainAttrs_list PySem.F.slot_list_extend PySem.F.type_list_extend mt_extend ext_ok ho (xa_cons he xa_nil hs) hbase hfew hline hs rfl
theorem nPopAt (ho : PE X o (RdE D w Wx mo)) (he : PE X e (RdE D w Wx me)) (hbase : attributeBase o "pop" X.env (eval o X.env) = eval o X.env) (hline : (apos.endLine == pos.line) = true)
    (hs : starEach [e] X.env = (false, eval e X.env) :: starEach [] X.env) (hfew : ((backTo pos (starEach [e] X.env)).all (fun x => !x.1) && (backToKw pos (keywordEach [] X.env)).all (fun x => x.1.isSome)
      && decide ([e].length + ([] : List Keyword).length + (if ([] : List Keyword).isEmpty then 0 else 1) < 30)) = true) :
    PE X (.Call (.Attribute o "pop" apos) [e] [] pos) (RdE D w Wx (mBm isLs fPopAt mo (aCons me aNil))) := xe_bm PySem.F.plainAttrs_list PySem.F.slot_list_pop PySem.F.type_list_pop mt_popAt popAt_ok ho (xa_cons he xa_nil hs) hbase hfew hline hs rfl
theorem nPop (ho : PE X o (RdE D w Wx mo)) (hbase : attributeBase o "pop" X.env (eval o X.env) = eval o X.env) (hline : (apos.endLine == pos.line) = true) : PE X (.Call (.Attribute o "pop" apos) [] [] pos) (RdE D w Wx (mBm isLs fPop mo aNil)) :=
  xe_bm0 PySem.F.plainAttrs_list PySem.F.slot_list_pop PySem.F.type_list_pop mt_pop pop_ok ho hbase hline
theorem nReverse (ho : PE X o (RdE D w Wx mo)) (hbase : attributeBase o "reverse" X.env (eval o X.env) = eval o X.env) (hline : (apos.endLine == pos.line) = true) : PE X (.Call (.Attribute o "reverse" apos) [] [] pos) (RdE D w Wx (mBm isLs fRev mo aNil)) :=
  xe_bm0 PySem.F.plainAttrs_list PySem.F.slot_list_reverse PySem.F.type_list_reverse mt_reverse rev_ok ho hbase hline
theorem nClear (ho : PE X o (RdE D w Wx mo)) (hbase : attributeBase o "clear" X.env (eval o X.env) = eval o X.env) (hline : (apos.endLine == pos.line) = true) : PE X (.Call (.Attribute o "clear" apos) [] [] pos) (RdE D w Wx (mBm isLs fClr mo aNil)) :=
  xe_bm0 PySem.F.plainAttrs_list PySem.F.slot_list_clear PySem.F.type_list_clear mt_clear clr_ok ho hbase hline
end
end HQ
/-! HQI: errors of own classes: their __init__, raise. -/
namespace HQ
open PySem PySem.Spec PyProof.Rows L2

/-! ### what the written part says, by a look -/
/-- the class at C is an exception's, with dict, its forebears own ones over ValueError -/
def oexB (K : PySem.W.Frag) (C : Addr) : Bool := (match K.lookup C with
  | some ⟨.type "type", _, .cls cd, sl⟩ => (match cd.mro, sl.toList with
    | .ref C' :: bm, [_, _, _, _, some (.builtin n), _] => C' == C && n == "ValueError.__new__" && !cd.hasDel && cd.hasDict && PySem.HandSPX.refsVE bm
    | _, _ => false)
  | _ => false) && decide (PySem.W.findIn K (.ref C) "__setattr__" = some (some (.builtin "object.__setattr__"))) && decide (PySem.W.subIn K (.ref C) (.type "BaseException") = some true) && decide (PySem.W.typeIn K (.ref C) = some (.type "type")) && PySem.W.keepIn K (.ref C)
theorem oexB_ok {K : PySem.W.Frag} {C : Addr} (h : oexB K C = true) : OexC K C := by
  unfold oexB at h
  simp only [Bool.and_eq_true, decide_eq_true_eq] at h
  obtain ⟨⟨⟨⟨h, h1⟩, h2⟩, h3⟩, h4⟩ := h
  refine ⟨?_, h1, h2, h3, h4⟩
  split at h
  · rename_i dd cd sl ho
    split at h
    · rename_i C' bm k0 k1 k2 k3 n k5 hm hs
      simp only [Bool.and_eq_true, beq_iff_eq, Bool.not_eq_true'] at h
      obtain ⟨⟨⟨⟨rfl, rfl⟩, hdel⟩, hdi⟩, ht⟩ := h
      obtain ⟨nm, bs, mro, ns, qn, hd, sn, sub, ab, col, del⟩ := cd
      dsimp only at hm hdel hdi
      subst hm hdel hdi
      have hsl : sl = #[k0, k1, k2, k3, some (.builtin "ValueError.__new__"), k5] := by
        obtain ⟨l⟩ := sl
        simp only at hs
        rw [hs]
      subst hsl
      exact ⟨nm, qn, ns, bs, bm, sn, sub, ab, col, dd, k0, k1, k2, k3, k5, ho, ht⟩
    · cases h
  · cases h
/-- an own class read for its forebear's __init__ -/
def qinB (K : PySem.W.Frag) (C : Addr) : Bool := PySem.W.readsIn K C (.type "type") && decide (PySem.W.specialIn K (.ref C) "__getattribute__" = some (some (.builtin "type.__getattribute__"))) && (match PySem.W.findCls K (.ref C) (.type "type") "__init__" with
  | some (.val (.builtin n)) => n == "ValueError.__init__"
  | _ => false)
structure Qin (K : PySem.W.Frag) (C : Addr) : Prop where
  rd : PySem.W.readsIn K C (.type "type") = true
  ga : PySem.W.specialIn K (.ref C) "__getattribute__" = some (some (.builtin "type.__getattribute__"))
  at_ : PySem.W.findCls K (.ref C) (.type "type") "__init__" = some (.val (.builtin "ValueError.__init__"))
theorem qinB_ok {K : PySem.W.Frag} {C : Addr} (h : qinB K C = true) : Qin K C := by
  unfold qinB at h
  simp only [Bool.and_eq_true, decide_eq_true_eq] at h
  obtain ⟨⟨h1, h2⟩, h3⟩ := h
  refine ⟨h1, h2, ?_⟩
  split at h3
  · rename_i n e
    rw [e, beq_iff_eq.mp h3]
  · cases h3
section
variable {X : Cx} {D : Ad} {w : World} {Wx : WX}
theorem ld_glob' {x : Str} {v : Value} {pins : List (Addr × Obj)} {σ : L2.St} {H : Hp} {s : Shared} {p : Pos} {Q : Value → Shared → Prop} (I : Inv X pins σ H s) (hg : Gl X x) (hm : X.mg x = some v) (h : Q v s) (hdb : (x == ("__debug__" : Str)) = false) : wpAny (model X.prog X.w) X.A (eval (.Name x p) X.env) Q X.xe s := ld_glob I hg hm h hdb
/-- Base.__init__(self, ..), Base an own class without one -/
theorem pe_quinit {C : Addr} {x : Str} {e : Expr} {es : List Expr} {ta : TA} {p1 p2 pos : Pos} {pl : Sem Bool} (hg : Gl X x) (hm : X.mg x = some (.ref C)) (T : Qin X.K C) (ha : PA X (e :: es) ta)
    (hc : eval (.Call (.Attribute (.Name x p1) "__init__" p2) (e :: es) [] pos) X.env = (do
      let ov ← eval (.Name x p1) X.env
      standAt p2.atName
      let (f, first) ← holding [ov] (getMethod ov "__init__" pl)
      callWith pos f first (backTo pos (starEach (e :: es) X.env)) (backToKw pos (keywordEach [] X.env))))
    (hdb : (x == ("__debug__" : Str)) = false) (he : starEach (e :: es) X.env = (false, eval e X.env) :: starEach es X.env) (hpl : (backTo pos (starEach es X.env)).any (·.1) = false) :
    PE X (.Call (.Attribute (.Name x p1) "__init__" p2) (e :: es) [] pos) (tVeI X.K ta) := by
  refine ⟨fun pins s σ H Q I h => ?_⟩
  refine PySem.W.methodCall_KW (ld_glob I hg hm ?_ hdb) hc
  refine PySem.W.method_cls I.kIn T.ga (PySem.W.cls_value I.kIn T.rd T.at_ (by decide +kernel) ?_)
  show wpAny _ _ (callWith pos (Value.builtin "ValueError.__init__") [] (backTo pos (starEach (e :: es) X.env)) []) _ _ _
  refine PyProof.Rows.callWith_method1 (thn (ha.run pos pins _ σ H _ (I.tok _) h) fun us s1 ⟨vs, H1, I1, r1, a, C, ws, ev, hl, T, ea, q⟩ => ?_) he hpl
  subst ev
  cases r1 with
  | @cons _ u0 _ ur ra rw' =>
    obtain rfl : u0 = Value.ref a := ra
    have hlen : ur.length ≤ sizeLine := by
      rw [← Paired.length rw', sizeLine_eq]
      omega
    exact oinit_ok T I1 ea hlen fun s' J => ⟨.non, H1, J, rfl, q⟩
/-- what the __init__ of an error promises: fs its fields, in the order in which they are stored -/
def spX (K : PySem.W.Frag) (C : Addr) (fs : List Str) : Sp := fun vs H Q _ => ∃ (a : Addr) (ws : List V), vs = .ref a :: ws ∧ ws.length = fs.length ∧ H a = some (exo a C none) ∧ OexC K C ∧ (∀ f ∈ fs, PySem.W.findIn K (.ref C) f = some none) ∧
  ∀ dx H', H dx = none → dx ≠ a → H' a = some (exo a C (some dx)) → H' dx = some (exd dx (fs.zip ws).reverse) → (∀ b, b ≠ a → b ≠ dx → H' b = H b) → Q .non H'
theorem spX_len {K : PySem.W.Frag} {C : Addr} {fs : List Str} {vs : List V} {H : Hp} {Q : VK} {E : XK} (h : spX K C fs vs H Q E) : vs.length = fs.length + 1 := by
  obtain ⟨a, ws, rfl, e, _⟩ := h
  simp [e]
/-! the readings of such bodies -/
def rX1 (K : PySem.W.Frag) (f : Str) : TS := tSeq (tDrop (tVeI K (tCons (tVar 0) (tCons (tVar 1) tNil)))) (tSeq (tOst K f (tVar 0) (tVar 1)) tNext)
def rX2 (K : PySem.W.Frag) (f g : Str) : TS := tSeq (tDrop (tVeI K (tCons (tVar 0) (tCons (tVar 1) (tCons (tVar 2) tNil))))) (tSeq (tOst K f (tVar 0) (tVar 1)) (tSeq (tOst K g (tVar 0) (tVar 2)) tNext))
def rX3 (K : PySem.W.Frag) (f g h : Str) : TS := tSeq (tDrop (tVeI K (tCons (tVar 0) (tCons (tVar 1) (tCons (tVar 2) (tCons (tVar 3) tNil)))))) (tSeq (tOst K f (tVar 0) (tVar 1)) (tSeq (tOst K g (tVar 0) (tVar 2)) (tSeq (tOst K h (tVar 0) (tVar 3)) tNext)))
theorem rX1_ok {K : PySem.W.Frag} {C : Addr} {f : Str} {N : List Str} {vs : List V} {H : Hp} {Q : VK} {E : XK} (h : spX K C [f] vs H Q E) : rX1 K f { nx := fun _ H' => Q .non H', rt := Q } (L2.start N vs) H := by
  obtain ⟨a, ws, rfl, e, ha, T, hn, k⟩ := h
  match ws, e with
  | [x], _ =>
    refine ⟨_, rfl, _, rfl, a, C, [x], rfl, by simp, T, ha, ?_⟩
    refine ⟨_, rfl, _, rfl, a, C, rfl, T, hn f (by simp), .inl ⟨ha, fun dx hd ne => ?_⟩⟩
    exact k dx _ hd ne upd_same (by rw [upd_ne ne, upd_same]; rfl) fun b h1 h2 => by rw [upd_ne h1, upd_ne h2]
theorem rX2_ok {K : PySem.W.Frag} {C : Addr} {f g : Str} {N : List Str} {vs : List V} {H : Hp} {Q : VK} {E : XK} (h : spX K C [f, g] vs H Q E) : rX2 K f g { nx := fun _ H' => Q .non H', rt := Q } (L2.start N vs) H := by
  obtain ⟨a, ws, rfl, e, ha, T, hn, k⟩ := h
  match ws, e with
  | [x, y], _ =>
    refine ⟨_, rfl, _, rfl, _, rfl, a, C, [x, y], rfl, by simp, T, ha, ?_⟩
    refine ⟨_, rfl, _, rfl, a, C, rfl, T, hn f (by simp), .inl ⟨ha, fun dx hd ne => ?_⟩⟩
    refine ⟨_, rfl, _, rfl, a, C, rfl, T, hn g (by simp), .inr ⟨dx, _, upd_same, by rw [upd_ne ne, upd_same], by simp, ?_⟩⟩
    exact k dx _ hd ne (by rw [upd_ne (Ne.symm ne), upd_same]) (by rw [upd_same]; rfl) fun b h1 h2 => by rw [upd_ne h2, upd_ne h1, upd_ne h2]
theorem rX3_ok {K : PySem.W.Frag} {C : Addr} {f g h : Str} {N : List Str} {vs : List V} {H : Hp} {Q : VK} {E : XK} (hh : spX K C [f, g, h] vs H Q E) : rX3 K f g h { nx := fun _ H' => Q .non H', rt := Q } (L2.start N vs) H := by
  obtain ⟨a, ws, rfl, e, ha, T, hn, k⟩ := hh
  match ws, e with
  | [x, y, z], _ =>
    refine ⟨_, rfl, _, rfl, _, rfl, _, rfl, a, C, [x, y, z], rfl, by simp, T, ha, ?_⟩
    refine ⟨_, rfl, _, rfl, a, C, rfl, T, hn f (by simp), .inl ⟨ha, fun dx hd ne => ?_⟩⟩
    refine ⟨_, rfl, _, rfl, a, C, rfl, T, hn g (by simp), .inr ⟨dx, _, upd_same, by rw [upd_ne ne, upd_same], by simp, ?_⟩⟩
    refine ⟨_, rfl, _, rfl, a, C, rfl, T, hn h (by simp), .inr ⟨dx, _, by rw [upd_ne (Ne.symm ne), upd_same], upd_same, by simp, ?_⟩⟩
    exact k dx _ hd ne (by rw [upd_ne (Ne.symm ne), upd_ne (Ne.symm ne), upd_same]) (by rw [upd_same]; rfl) fun b h1 h2 => by rw [upd_ne h2, upd_ne h2, upd_ne h1, upd_ne h2]
/-- an error's class, ready to be raised: c its number, fs its fields -/
structure ErrC (X : Cx) (D : Ad) (k : Nat) (x : Str) (c : Nat) (fs : List Str) : Prop where
  mg : X.mg x = some (.ref (D.ca c))
  T : OexC X.K (D.ca c)
  no : ∀ f ∈ fs, PySem.W.findIn X.K (.ref (D.ca c)) f = some none
  ex : ∃ fI fd ps, PySem.W.findIn X.K (.ref (D.ca c)) "__init__" = some (some (.ref fI)) ∧ PySem.W.typeIn X.K (.ref fI) = some (.type "function") ∧ FnOk X.prog X.w X.K X.mg X.base (L2.CX X.prog X.w) k fI fd ps (spX X.K (D.ca c) fs) ∧ Binds X.K fd ps []
/-- raise x(..) -/
def sRaise (c : Nat) (fs : List Str) (ms : MA) : MS := fun e μ => (ms e μ).st e fun us μ1 => if us.length = fs.length then .exc ⟨c, fs.reverse, us.reverse⟩ e μ1 else .stuck
theorem noPass {X : Cx} : Passes (L2.CX X.prog X.w) X (fun _ _ _ => False) := fun _ _ _ _ _ _ _ ⟨_, _, _, _, _, _, _, _, _, _, _, _, h⟩ => h.elim
theorem xs_raise {k c : Nat} {x : Str} {fs : List Str} {e : Expr} {es : List Expr} {ms : MA} {p pos ppos : Pos} (hc : X.calm = true) (tk : Takes X Wx) (hr : Room (k + 1) X.A) (R : ErrC X D k x c fs) (hl : fs.length ≤ 1000) (hg : Gl X x) (ha : PA X (e :: es) (RdA D w Wx ms)) (hdb : (x == ("__debug__" : Str)) = false) (he : starEach (e :: es) X.env = (false, eval e X.env) :: starEach es X.env) (hpl : (backTo pos (starEach es X.env)).any (·.1) = false) :
    PS X (.Raise (some (.Call (.Name x p) (e :: es) [] pos)) none ppos) (RdS D w Wx (sRaise c fs ms)) := by
  obtain ⟨fI, fd, ps, h1, h2, h3, h4⟩ := R.ex
  refine PS.weak (ps_raise hc tk (pmk_oex R.T h1 h2 h3 hr h4 .nil noPass hg R.mg ha hdb he hpl)) fun N σ H ⟨F, as, μ, e, S, E, P⟩ => ⟨F, as, μ, e, S, E, PoS.ex P E fun us μ1 F1 H1 as1 vs X1 S1 E1 R1 P1 => ?_⟩
  by_cases hn : us.length = fs.length
  · rw [if_pos hn] at P1
    have hvl : vs.length = fs.length := by rw [← R1.len]; exact hn
    refine ⟨by omega, fun a ha => ⟨a, vs, by simp, hvl, upd_same, R.T, R.no, fun dx H' hd ne e1 e2 e3 => ⟨rfl, dx, _, e1, e2, ?_, ?_⟩⟩⟩
    · rw [upd_ne ne] at hd; exact hd
    · have hdx : H1 dx = none := by rw [upd_ne ne] at hd; exact hd
      have eH : upd (del H' a) dx (.xd (fs.zip vs).reverse) = upd H1 dx (.xd (fs.zip vs).reverse) := by
        funext b
        by_cases hb : b = dx
        · subst hb; rw [upd_same, upd_same]
        · rw [upd_ne hb, upd_ne hb]
          by_cases hba : b = a
          · subst hba; rw [del_same, ha]
          · rw [del_ne hba, e3 b hba hb, upd_ne hba]
      rw [eH]
      have Fdx := S1.freeF hdx
      have S2 := S1.side (.xd (fs.zip vs).reverse) (S1.notIn hdx) Fdx (fun ps => by rw [hdx]; simp)
      have X2 : Ext F1 H1 as1 F1 (upd H1 dx (.xd (fs.zip vs).reverse)) as1 := Ext.refl.side _ hdx
      refine P1 F1 _ as1 σ (some dx) X2 S2 (E1.mono X2.fs X2.pre) ⟨_, upd_same, ?_, ?_⟩
      · rw [List.map_reverse, List.map_fst_zip (by omega)]
      · rw [List.map_reverse, List.map_snd_zip (by omega)]
        exact rws_rev (RWs.mono X2.fs X2.pre us vs R1)
  · rw [if_neg hn] at P1; exact P1.elim
end
end HQ
/-! HQJ: closures: the cells taken out for a call, put in behind it. -/
namespace HQ
open PySem PySem.Spec PyProof.Rows L2

def isC (F : Hp) (b : Addr) : Prop := ∃ ob, F b = some (.frz ob (.own 0))
/-- without the cells of F -/
noncomputable def delC (F G : Hp) : Hp := fun b => open Classical in if isC F b then none else G b
/-- the cells of F, as they stand in H; else H' -/
noncomputable def bakC (F H H' : Hp) : Hp := fun b => open Classical in if isC F b then H b else H' b
def isClo : O → Bool
  | .clo _ _ => true
  | _ => false
def hideC (μ : Mem) : Mem := μ.map fun o => if isClo o = true then .dead else o
def backC : Mem → Mem → Mem
  | [], μ' => μ'
  | _, [] => []
  | o :: μ, o' :: μ' => (if isClo o = true then o else o') :: backC μ μ'
theorem hideC_at {μ : Mem} {n : Nat} {o : O} (h : (hideC μ)[n]? = some o) : o = .dead ∨ (μ[n]? = some o ∧ isClo o = false) := by
  unfold hideC at h
  rw [List.getElem?_map] at h
  cases q : μ[n]? with
  | none => rw [q] at h; cases h
  | some x =>
    rw [q] at h
    simp only [Option.map_some, Option.some.injEq] at h
    cases hx : isClo x with
    | true => rw [hx] at h; exact .inl h.symm
    | false => rw [hx] at h; simp at h; subst h; exact .inr ⟨rfl, hx⟩
theorem backC_len : ∀ {μ μ' : Mem}, μ.length ≤ μ'.length → (backC μ μ').length = μ'.length
  | [], _, _ => rfl
  | _ :: _, [], h => by simp at h
  | _ :: μ, _ :: μ', h => by simp only [backC, List.length_cons]; rw [backC_len (by simpa using h)]
theorem backC_at : ∀ {μ μ' : Mem} {n : Nat} {o : O}, (backC μ μ')[n]? = some o → (isClo o = true ∧ μ[n]? = some o) ∨ (μ'[n]? = some o)
  | [], _, _, _, h => .inr h
  | _ :: _, [], _, _, h => by simp [backC] at h
  | x :: μ, y :: μ', 0, o, h => by
    simp only [backC, List.getElem?_cons_zero, Option.some.injEq] at h ⊢
    cases hx : isClo x with
    | true => rw [hx] at h; simp at h; subst h; exact .inl ⟨hx, rfl⟩
    | false => rw [hx] at h; simp at h; exact .inr h
  | x :: μ, y :: μ', n + 1, o, h => by
    simp only [backC, List.getElem?_cons_succ] at h ⊢
    exact backC_at h
section
variable {D : Ad} {w : World} {F F' H H' : Hp}
theorem delC_of {G : Hp} {b : Addr} (h : ¬ isC F b) : delC F G b = G b := by unfold delC; rw [if_neg h]
theorem delC_c {G : Hp} {b : Addr} (h : isC F b) : delC F G b = none := by unfold delC; rw [if_pos h]
theorem bakC_of {b : Addr} (h : ¬ isC F b) : bakC F H H' b = H' b := by unfold bakC; rw [if_neg h]
theorem bakC_c {b : Addr} (h : isC F b) : bakC F H H' b = H b := by unfold bakC; rw [if_pos h]
theorem delC_sub {G : Hp} : Same (delC F G) G := fun b u e => by
  by_cases h : isC F b
  · rw [delC_c h] at e; cases e
  · rw [delC_of h] at e; exact e
theorem delC_keep {b : Addr} {u : HO} (e : F b = some u) (h : ∀ ob, u ≠ .frz ob (.own 0)) : delC F F b = some u := by
  rw [delC_of]
  · exact e
  · rintro ⟨ob, q⟩
    rw [e] at q; cases q; exact h ob rfl
end
/-- all but the cells stay -/
def SameC (F F' : Hp) : Prop := ∀ b u, F b = some u → (∀ ob, u ≠ .frz ob (.own 0)) → F' b = some u
section
variable {D : Ad} {w : World} {F F' : Hp} (hs : SameC F F')
include hs
mutual
theorem RT.monoC : ∀ (t : T) (v : V), RT D w F t v → RT D w F' t v
  | .non, v, h => by simpa only [RT] using h
  | .bl b, v, h => by simpa only [RT] using h
  | .int i, v, h => by simpa only [RT] using h
  | .str s, v, h => by simpa only [RT] using h
  | .ty n, v, h => by simpa only [RT] using h
  | .fn i, v, h => by simpa only [RT] using h
  | .cls c, v, h => by simpa only [RT] using h
  | .tup ts, v, h => by
    simp only [RT] at h ⊢
    obtain ⟨a, vs, e, q, r⟩ := h
    exact ⟨a, vs, e, hs _ _ q (fun ob z => by cases z), RTs.monoC ts vs r⟩
  | .lst ts, v, h => by
    simp only [RT] at h ⊢
    obtain ⟨a, vs, e, q, r⟩ := h
    exact ⟨a, vs, e, hs _ _ q (fun ob z => by cases z), RTs.monoC ts vs r⟩
  | .scr ns, v, h => by
    simp only [RT] at h ⊢
    obtain ⟨a, e, q⟩ := h
    refine ⟨a, e, ?_⟩
    rcases q with q | ⟨o, q⟩
    · exact .inl (hs _ _ q (fun ob z => by cases z))
    · exact .inr ⟨o, hs _ _ q (fun ob z => by cases z)⟩
  | .ptup ts, v, h => by
    simp only [RT] at h ⊢
    obtain ⟨a, o, vs, e, q, z, r⟩ := h
    exact ⟨a, o, vs, e, hs _ _ q (fun ob z => by cases z), z, RTs.monoC ts vs r⟩
  | .dic ks vs, v, h => by
    simp only [RT] at h ⊢
    obtain ⟨a, es, e, q, r1, r2, r3⟩ := h
    exact ⟨a, es, e, hs _ _ q (fun ob z => by unfold dicO at z; cases z), RTs.monoC ks _ r1, RTs.monoC vs _ r2, r3⟩
  | .ins c ns ts, v, h => by
    simp only [RT] at h ⊢
    obtain ⟨a, dx, fs, e, q, r1, r2⟩ := h
    exact ⟨a, dx, fs, e, hs _ _ q (fun ob z => by cases z), r1, RTs.monoC ts _ r2⟩
theorem RTs.monoC : ∀ (ts : List T) (vs : List V), RTs D w F ts vs → RTs D w F' ts vs
  | [], vs, h => by simpa only [RTs] using h
  | t :: ts, vs, h => by
    simp only [RTs] at h ⊢
    obtain ⟨v, r, e, h1, h2⟩ := h
    exact ⟨v, r, e, RT.monoC t v h1, RTs.monoC ts r h2⟩
end
variable {as : List Addr}
mutual
theorem RW.monoC : ∀ (u : W) (v : V), RW D w F as u v → RW D w F' as u v
  | .t t, v, h => by
    simp only [RW] at h ⊢
    exact RT.monoC hs t v h
  | .ref n, v, h => by simpa only [RW] using h
  | .tup ws, v, h => by
    simp only [RW] at h ⊢
    obtain ⟨a, vs, e, q, r⟩ := h
    exact ⟨a, vs, e, hs _ _ q (fun ob z => by cases z), RWs.monoC ws vs r⟩
theorem RWs.monoC : ∀ (us : List W) (vs : List V), RWs D w F as us vs → RWs D w F' as us vs
  | [], vs, h => by simpa only [RWs] using h
  | t :: ts, vs, h => by
    simp only [RWs] at h ⊢
    obtain ⟨v, r, e, h1, h2⟩ := h
    exact ⟨v, r, e, RW.monoC t v h1, RWs.monoC ts r h2⟩
end
theorem RO.monoC {a : Addr} {o : Option HO} {x : O} (hx : isClo x = false) (h : RO D w F as a o x) : RO D w F' as a o x := by
  cases x with
  | lst ws =>
    obtain ⟨vs, e, r⟩ := h
    exact ⟨vs, e, RWs.monoC hs ws vs r⟩
  | dic ks ws =>
    obtain ⟨es, e, r1, r2, r3⟩ := h
    exact ⟨es, e, RTs.monoC hs ks _ r1, RWs.monoC hs ws _ r2, r3⟩
  | ins c ns ws =>
    obtain ⟨dx, fs, e, r1, r2⟩ := h
    exact ⟨dx, fs, e, r1, RWs.monoC hs ws _ r2⟩
  | clo i ts => cases hx
  | dead => trivial
end
section
variable {D : Ad} {w : World} {F H : Hp} {as : List Addr} {μ : Mem}
theorem delC_same : SameC F (delC F F) := fun b u e h => delC_keep e h
theorem sim_del (S : Sim D w F H as μ) : Sim D w (delC F F) (delC F H) as (hideC μ) := by
  have na : ∀ a ∈ as, ¬ isC F a := fun a ha ⟨ob, q⟩ => S.tb.2.1 a ob q ha
  refine ⟨fun b u e => ?_, by simp [hideC, S.len], S.nd, fun a ha => ?_, fun n a o h1 h2 h3 => ?_, fun n a o h1 h2 => ?_, ⟨fun b ps e => S.tb.1 b ps (delC_sub _ _ e), fun b ob e => S.tb.2.1 b ob (delC_sub _ _ e), fun p hp => ?_⟩⟩
  · by_cases h : isC F b
    · rw [delC_c h] at e; cases e
    · rw [delC_of h] at e ⊢; exact S.sub b u e
  · rw [delC_of (na a ha)]; exact S.there a ha
  · rcases hideC_at h2 with rfl | ⟨q, _⟩
    · exact h3.elim
    · rw [delC_of (na a (List.mem_of_getElem? h1))]
      exact S.out n a o h1 q h3
  · rcases hideC_at h2 with rfl | ⟨q, q2⟩
    · trivial
    · rw [delC_of (na a (List.mem_of_getElem? h1))]
      exact RO.monoC delC_same q2 (S.obj n a o h1 q)
  · obtain ⟨h1, ps, h2, h3, h4⟩ := S.tb.2.2 p hp
    refine ⟨h1, ps, ?_, h3, fun pos cv e => ?_⟩
    · rw [delC_of]
      · exact h2
      · rintro ⟨ob, q⟩
        rw [S.sub _ _ q] at h2; cases h2
    · obtain ⟨c, e1, e2⟩ := h4 pos cv e
      exact ⟨c, e1, delC_keep e2 (fun ob z => by unfold LamX.CodeO at z; cases z)⟩
theorem same_bak {F' H' : Hp} (S' : Same F' H') (hc : ∀ b, isC F b → H' b = none) : Same F' (bakC F F F') := fun b u e => by
  rw [bakC_of]
  · exact e
  · intro h
    have := hc b h
    rw [S' b u e] at this; cases this
theorem sim_bak {F' H' : Hp} {as' : List Addr} {μ' : Mem} (S : Sim D w F H as μ) (X : Ext (delC F F) (delC F H) as F' H' as') (S' : Sim D w F' H' as' μ') (hc : ∀ b, isC F b → H' b = none) :
    Sim D w (bakC F F F') (bakC F H H') as' (backC μ μ') ∧ Ext F H as (bakC F F F') (bakC F H H') as' ∧ Same F' (bakC F F F') := by
  have nF : ∀ b, isC F b → F' b = none := fun b h => by
    cases q : F' b with
    | none => rfl
    | some u => have := hc b h; rw [S'.sub b u q] at this; cases this
  have na : ∀ a ∈ as', ¬ isC F a := fun a ha h => S'.there a ha (hc a h)
  have s1 : Same F' (HQ.bakC F F F') := same_bak S'.sub hc
  have s0 : Same F (HQ.bakC F F F') := fun b u e => by
    by_cases h : isC F b
    · rw [bakC_c h]; exact e
    · rw [bakC_of h]; exact X.fs b u (by rw [delC_of h]; exact e)
  obtain ⟨r, er, hr⟩ := X.more
  have cH : ∀ b, isC F b → ∃ ob, H b = some (.frz ob (.own 0)) := fun b ⟨ob, q⟩ => ⟨ob, S.sub _ _ q⟩
  have le : μ.length ≤ μ'.length := by rw [← S.len, ← S'.len, er]; simp
  refine ⟨⟨fun b u e => ?_, by rw [backC_len le]; exact S'.len, S'.nd, fun a ha => ?_, fun n a o h1 h2 h3 => ?_, fun n a o h1 h2 => ?_, ⟨fun b ps e => ?_, fun b ob e => ?_, fun p hp => ?_⟩⟩, ⟨s0, ⟨r, er, fun a ha => ?_⟩, fun a o e hn => ?_, fun a e => ?_⟩, s1⟩
  · by_cases h : isC F b
    · rw [bakC_c h] at e ⊢; exact S.sub b u e
    · rw [bakC_of h] at e ⊢; exact S'.sub b u e
  · rw [bakC_of (na a ha)]; exact S'.there a ha
  · have ma := List.mem_of_getElem? h1
    rw [bakC_of (na a ma)]
    rcases backC_at h2 with ⟨q, _⟩ | q
    · cases o <;> first | (cases q; done) | exact h3.elim
    · exact S'.out n a o h1 q h3
  · have ma := List.mem_of_getElem? h1
    rcases backC_at h2 with ⟨q, q2⟩ | q
    · have hl : n < as.length := by rw [S.len]; exact (List.getElem?_eq_some_iff.mp q2).1
      have h1' : as[n]? = some a := by rw [er, List.getElem?_append_left hl] at h1; exact h1
      cases o <;> first | (cases q; done) | skip
      obtain ⟨cl, c, vs, e1, e0, e2, e3, e4⟩ := S.obj n a _ h1' q2
      refine ⟨cl, c, vs, ?_, s0 _ _ e0, s0 _ _ e2, RTs.mono s0 _ _ e3, e4.mono s0⟩
      rw [bakC_of (na a ma)]
      exact S'.sub _ _ (X.fs _ _ (by rw [delC_of (na a ma)]; exact e0))
    · rw [bakC_of (na a ma)]
      exact RO.mono s1 ⟨[], by simp⟩ (S'.obj n a o h1 q)
  · by_cases h : isC F b
    · rw [bakC_c h] at e; exact S.tb.1 b ps e
    · rw [bakC_of h] at e; exact S'.tb.1 b ps e
  · by_cases h : isC F b
    · exact fun hm => na b hm h
    · rw [bakC_of h] at e; exact S'.tb.2.1 b ob e
  · obtain ⟨h1, ps, h2, h3, h4⟩ := S'.tb.2.2 p hp
    refine ⟨h1, ps, ?_, h3, fun pos cv e => ?_⟩
    · rw [bakC_of]
      · exact h2
      · intro h
        rw [hc _ h] at h2; cases h2
    · obtain ⟨c, e1, e2⟩ := h4 pos cv e
      exact ⟨c, e1, s1 _ _ e2⟩
  · have ma : a ∈ as' := by rw [er]; exact List.mem_append_right _ ha
    rw [← delC_of (G := H) (na a ma)]
    exact hr a ha
  · by_cases h : isC F a
    · rw [bakC_c h]; exact .inl e
    · rw [bakC_of h]; exact X.keep a o (by rw [delC_of h]; exact e) hn
  · by_cases h : isC F a
    · rw [bakC_c h] at e; exact .inl e
    · rw [bakC_of h] at e
      have q := X.newF a e
      rw [delC_of h, delC_of h] at q
      exact q
end
end HQ
/-! HQK: closures: called, made. -/
namespace HQ
open PySem PySem.Spec PyProof.Rows L2

section
variable {P : Program} {w : World} {F H H' : Hp} {h h' B : Heap} {fs : List Addr}
theorem isC_H (sub : Same F H) {b : Addr} (c : isC F b) : ∃ ob, H b = some (.frz ob (.own 0)) := let ⟨ob, q⟩ := c; ⟨ob, sub _ _ q⟩
theorem cell_get (sub : Same F H) (hok : HOk P w H h) {b : Addr} (c : isC F b) : ∃ ob, H b = some (.frz ob (.own 0)) ∧ h.get? b = some ob := by
  obtain ⟨ob, q⟩ := isC_H sub c
  obtain ⟨e, _⟩ := hok b _ q
  exact ⟨ob, q, e⟩
theorem del_none {b : Addr} (n : H b = none) : delC F H b = none := by
  by_cases c : isC F b
  · exact delC_c c
  · rw [delC_of c]; exact n
theorem hok_del (sub : Same F H) (hok : HOk P w H h) : HOk P w (delC F H) h := fun b u e => by
  have e1 := delC_sub _ _ e
  refine (hok b u e1).stay (fun _ _ _ q => q) (fun d q => ?_) fun d xs q => ?_
  · rw [delC_of]
    · exact q
    · intro c
      obtain ⟨ob, z⟩ := isC_H sub c
      rw [z] at q; cases q
  · rw [delC_of]
    · exact q
    · intro c
      obtain ⟨ob, z⟩ := isC_H sub c
      rw [z] at q; cases q
theorem bak_none (sub : Same F H) {b : Addr} (n : H b = none) (n2 : H' b = none) : bakC F H H' b = none := by
  by_cases c : isC F b
  · rw [bakC_c c]; exact n
  · rw [bakC_of c]; exact n2
theorem hok_bak (sub : Same F H) (nc : ∀ b, isC F b → H' b = none) (kc : ∀ b, isC F b → ∃ ob, H b = some (.frz ob (.own 0)) ∧ h'.get? b = some ob) (hok : HOk P w H' h') : HOk P w (bakC F H H') h' := fun b u e => by
  by_cases c : isC F b
  · rw [bakC_c c] at e
    obtain ⟨ob, e1, e2⟩ := kc b c
    rw [e1] at e; cases e
    exact ⟨e2, ob, e2⟩
  · rw [bakC_of c] at e
    refine (hok b u e).stay (fun _ _ _ q => q) (fun d q => ?_) fun d xs q => ?_
    · rw [bakC_of]
      · exact q
      · intro z; rw [nc d z] at q; cases q
    · rw [bakC_of]
      · exact q
      · intro z; rw [nc d z] at q; cases q
theorem tups_bak {b : Addr} {u : HO} (sub : Same F H) (e : H b = some u) (hu : ∀ ob, u ≠ .frz ob (.own 0)) : delC F H b = some u ∧ bakC F H H' b = H' b := by
  have c : ¬ isC F b := fun c => by
    obtain ⟨ob, z⟩ := isC_H sub c
    rw [e] at z; cases z; exact hu ob rfl
  exact ⟨by rw [delC_of c]; exact e, bakC_of c⟩
theorem un_bak (sub : Same F H) (u : Un fs [] (delC F H) H' h h') : Un fs [] H (bakC F H H') h h' where
  keep := fun b o e n => u.keep b o e (del_none n)
  slot := fun b o e n => u.slot b o e (del_none n)
  free := fun b o e n hx => bak_none sub n (u.free b o e (del_none n) hx)
  there := u.there
  tups := fun b xs e => by
    obtain ⟨h1, h2⟩ := tups_bak (H' := H') sub e (fun ob z => by cases z)
    rw [h2]; exact u.tups b xs h1
  frzs := fun b o x e => by
    by_cases c : isC F b
    · rw [bakC_c c]; exact e
    · rw [bakC_of c]; exact u.frzs b o x (by rw [delC_of c]; exact e)
  tbls := fun b ps e => by
    obtain ⟨h1, h2⟩ := tups_bak (H' := H') sub e (fun ob z => by cases z)
    rw [h2]; exact u.tbls b ps h1
theorem ub_bak (sub : Same F H) (u : UB fs (delC F H) H' h B h') : UB fs H (bakC F H H') h B h' where
  keep := fun b o e n => u.keep b o e (del_none n)
  slot := u.slot
  free := fun b o e n => bak_none sub n (u.free b o e (del_none n))
  there := u.there
  tups := fun b xs e => by
    obtain ⟨h1, h2⟩ := tups_bak (H' := H') sub e (fun ob z => by cases z)
    rw [h2]; exact u.tups b xs h1
  frzs := fun b o x e => by
    by_cases c : isC F b
    · rw [bakC_c c]; exact e
    · rw [bakC_of c]; exact u.frzs b o x (by rw [delC_of c]; exact e)
  tbls := fun b ps e => by
    obtain ⟨h1, h2⟩ := tups_bak (H' := H') sub e (fun ob z => by cases z)
    rw [h2]; exact u.tbls b ps h1
end
/-- a closure's meaning at a call -/
def cloF (f : MF) (ts : List T) : MF := fun ws μ => match f (ws ++ ts.map W.t) (hideC μ) with
  | .ok u μ' => .ok u (backC μ μ')
  | .exc x μ' => .exc x (backC μ μ')
  | .stuck => .stuck
/-- a nested def's promise -/
def spN (D : Ad) (w : World) (n : Nat) (f : MF) : List (Option V) → Sp := fun wo vs H Q E => ∃ F as μ us ts ws, Sim D w F H as μ ∧ RWs D w F as us vs ∧ us.length = n ∧ wo = ws.map some ∧ RTs D w F ts ws ∧ PoC D w F H as (f (us ++ ts.map .t) μ) Q E
section
variable {X : Cx} {D : Ad} {w : World} {Wx : WX}
theorem run_clo {i k n : Nat} {ps : List Str} {f : MF} (FO : ∀ (a c : Addr) (cl : List (Str × Addr)), NdefX.NOk X.prog X.w X.K X.mg X.base (L2.CX X.prog X.w) k a ((D.cd i).nf cl c) ps (D.cd i).fr (spN D w n f)) (hr : Room k X.A) (tk : Takes X Wx)
    {pins : List (Addr × Obj)} {σ : L2.St} {H : Hp} {s : Shared} {us : List Value} {vs : List V} {Q : VK} (I : Inv X pins σ H s) (r : Vals vs us) {F : Hp} {as : List Addr} {μ : Mem} {ws : List W} {m : Nat} {a : Addr} {ts : List T}
    (S : Sim D w F H as μ) (R : RWs D w F as ws vs) (ha : as[m]? = some a) (hm : μ[m]? = some (.clo i ts)) (hl : ws.length = n) (Pp : Po D w Wx σ F H as (relW D w) (cloF f ts ws μ) Q) :
    wpAny (model X.prog X.w) X.A (call (.ref a) us) (EP X pins σ Q) X.xe s := by
  obtain ⟨cl, c, cvs, e1, e0, e2, e3, e4⟩ := S.obj m a _ ha hm
  have na : ∀ b ∈ as, ¬ isC F b := fun b hb ⟨ob, q⟩ => S.tb.2.1 b ob q hb
  have Sd := sim_del S
  have Rd := RWs.monoC (D := D) (w := w) delC_same ws vs R
  have E0 := I.env0
  have nst : ∀ b, isC F b → b ∉ frs X.stack := fun b hb hs => by
    obtain ⟨ob, q⟩ := isC_H S.sub hb
    rw [I.stkFree b hs] at q; cases q
  have ed : Env0 X.prog X.w X.K X.mg X.base X.A X.stack s (delC F H) := ⟨E0.frames, E0.mod, fun b o e => ⟨(E0.bs b o e).1, del_none (E0.bs b o e).2⟩, E0.bsz, E0.funs, fun b hb => del_none (E0.frf b hb), hok_del S.sub E0.hok, E0.bare⟩
  have fa : delC F H a = some (NdefX.FnO a ((D.cd i).nf cl c)) := by rw [delC_of (na a (List.mem_of_getElem? ha))]; exact e1
  have fc : delC F H c = some (LamX.CodeO c (D.cd i).qual) := Sd.sub _ _ (delC_keep e2 fun ob z => by unfold LamX.CodeO at z; cases z)
  have cells : NdefX.CellsAt cl (D.cd i).fr (cvs.map some) s.heap (delC F H) := by
    refine ⟨by rw [List.length_map]; exact e4.len, fun y b e => ?_, e4.inj, fun j y e => ?_⟩
    · obtain ⟨j, v, h1, h2, ob, u, h3, h4, h5⟩ := e4.mem y b e
      refine ⟨delC_c ⟨ob, h3⟩, some u, ob, ?_, h4⟩
      obtain ⟨q, _⟩ := I.hok b _ (S.sub _ _ h3)
      exact q
    · obtain ⟨b, hb⟩ := e4.has j y e
      refine ⟨b, hb, fun v ev => ?_⟩
      obtain ⟨j', v', h1, h2, ob, u, h3, h4, h5⟩ := e4.mem y b hb
      have ej : j = j' := by
        have l1 := (List.getElem?_eq_some_iff.mp e).1
        exact (List.getElem?_inj l1 e4.nd).mp (e.trans h1.symm)
      subst ej
      rw [List.getElem?_map, h2] at ev
      cases ev
      obtain ⟨q, _⟩ := I.hok b _ (S.sub _ _ h3)
      exact ⟨u, h5, ob, q, h4⟩
  have key : spN D w n f (cvs.map some) vs (delC F H) (fun v H' => (∀ b, isC F b → H' b = none) → Q v (bakC F H H')) (fun cls d H' => (∀ b, isC F b → H' b = none) → WE Wx σ cls d (bakC F H H')) := by
    refine ⟨delC F F, as, hideC μ, ws, ts, cvs, Sd, Rd, hl, rfl, RTs.monoC delC_same ts cvs e3, ?_⟩
    unfold cloF at Pp
    cases q : f (ws ++ ts.map W.t) (hideC μ) with
    | stuck => rw [q] at Pp; exact Pp.elim
    | ok u μ' =>
      rw [q] at Pp
      intro F' H' as' v X' S' r' hc
      obtain ⟨S2, X2, s1⟩ := sim_bak S X' S' hc
      exact Pp _ _ as' v X2 S2 (RW.mono s1 ⟨[], by simp⟩ u v r')
    | exc x μ' =>
      rw [q] at Pp
      intro F' H' as' d X' S' r' hc
      obtain ⟨S2, X2, s1⟩ := sim_bak S X' S' hc
      refine Pp _ _ as' d X2 S2 ?_
      obtain ⟨fs, h1, h2, h3⟩ := r'
      refine ⟨fs, ?_, h2, RWs.mono s1 ⟨[], by simp⟩ _ _ h3⟩
      cases d with
      | none => exact h1
      | some d =>
        have h1 : H' d = some (.xd fs) := h1
        show bakC F H H' d = some (.xd fs)
        rw [bakC_of]
        · exact h1
        · intro z; rw [hc d z] at h1; cases h1
  refine wpAny_call (codeAny_mono ((FO a c cl).run X.A X.stack s (delC F H) us vs (cvs.map some) _ _ hr ed fa fc cells r key) fun r s' hq => ?_)
  cases r with
  | error e =>
    refine passAt tk σ pins H s e s' I ?_
    obtain ⟨x, B, H', cls, d, rfl, fl, hok, ub, nx, os, ag, hE⟩ := hq
    have nc : ∀ b, isC F b → H' b = none := fun b hb => by
      obtain ⟨ob, q1, q2⟩ := cell_get S.sub I.hok hb
      exact ub.free b ob q2 (delC_c hb)
    have kc : ∀ b, isC F b → ∃ ob, H b = some (.frz ob (.own 0)) ∧ B.get? b = some ob := fun b hb => by
      obtain ⟨ob, q1, q2⟩ := cell_get S.sub I.hok hb
      exact ⟨ob, q1, ub.keep b ob q2 (delC_c hb) (nst b hb)⟩
    refine ⟨x, B, bakC F H H', cls, d, rfl, fl, hok_bak S.sub nc kc hok, ub_bak S.sub ub, ?_, os, ag, hE nc⟩
    by_cases hx : isC F x
    · obtain ⟨ob, _, q⟩ := kc x hx
      rw [fl.2.1] at q; cases q
    · rw [bakC_of hx]; exact nx
  | ok fl =>
    cases fl with
    | ret u =>
      obtain ⟨v, H', os, bare, un, hok, rv, q⟩ := hq
      have nc : ∀ b, isC F b → H' b = none := fun b hb => by
        obtain ⟨ob, q1, q2⟩ := cell_get S.sub I.hok hb
        exact un.free b ob q2 (delC_c hb) (by simp)
      have kc : ∀ b, isC F b → ∃ ob, H b = some (.frz ob (.own 0)) ∧ s'.heap.get? b = some ob := fun b hb => by
        obtain ⟨ob, q1, q2⟩ := cell_get S.sub I.hok hb
        exact ⟨ob, q1, un.keep b ob q2 (delC_c hb) (nst b hb) (by simp)⟩
      exact I.after ⟨v, bakC F H H', os, bare, un_bak S.sub un, hok_bak S.sub nc kc hok, rv, q nc⟩
    | next => exact False.elim hq
    | brk => exact False.elim hq
    | cont => exact False.elim hq
end
end HQ
/-! HQL: closures: made. -/
namespace HQ
open PySem PySem.Spec PyProof.Rows L2

section
variable {D : Ad} {w : World} {F H : Hp} {as : List Addr} {μ : Mem}
theorem sim_tbl (S : Sim D w F H as μ) {P : Addr} {ps ps' : Array Value} (hP : H P = some (.tbl ps)) (nP : P ∉ as) (ht : TriplesOk ps'.toList)
    (hc : ∀ p ∈ D.tabs, p.1 = P → ∀ pos cv, codeAmong pos ps'.toList = some cv → ∃ c, cv = .ref c ∧ F c = some (LamX.CodeO c (p.2 pos.line pos.col))) :
    Sim D w F (upd H P (.tbl ps')) as μ ∧ Ext F H as F (upd H P (.tbl ps')) as := by
  have ne : ∀ a ∈ as, a ≠ P := fun a ha e => nP (e ▸ ha)
  refine ⟨⟨fun b u e => ?_, S.len, S.nd, fun a ha => ?_, S.out, fun n a o h1 h2 => ?_, ⟨S.tb.1, S.tb.2.1, fun p hp => ?_⟩⟩, ⟨Same.refl _, ⟨[], by simp, by simp⟩, fun a o e hn => ?_, fun a e => .inl e⟩⟩
  · have e1 := S.sub b u e
    rw [upd_ne]
    · exact e1
    · intro z
      rw [z, hP] at e1; cases e1
      exact S.tb.1 b ps (by rw [e])
  · rw [upd_ne (ne a ha)]; exact S.there a ha
  · rw [upd_ne (ne a (List.mem_of_getElem? h1))]; exact S.obj n a o h1 h2
  · obtain ⟨h1, ps0, h2, h3, h4⟩ := S.tb.2.2 p hp
    by_cases e : p.1 = P
    · refine ⟨h1, ps', by rw [e, upd_same], ht, hc p hp e⟩
    · exact ⟨h1, ps0, by rw [upd_ne e]; exact h2, h3, h4⟩
  · by_cases z : a = P
    · rw [z, hP] at e; cases e
      exact .inr ⟨ps, ps', rfl, by rw [z, upd_same]⟩
    · exact .inl (by rw [upd_ne z]; exact e)
theorem odd_code {c : Addr} {q : Str} : ¬ oddO (LamX.CodeO c q) := by rintro (⟨_, z⟩ | ⟨_, z⟩) <;> (unfold LamX.CodeO at z; cases z)
theorem odd_fn {f : Addr} {G : NdefX.NF} : ¬ oddO (NdefX.FnO f G) := by rintro (⟨_, z⟩ | ⟨_, z⟩) <;> (unfold NdefX.FnO at z; cases z)
theorem upd_comm {H : Hp} {a b : Addr} {x y : HO} (h : a ≠ b) : upd (upd H a x) b y = upd (upd H b y) a x := by
  funext z
  by_cases h1 : z = a
  · subst h1; rw [upd_ne h, upd_same, upd_same]
  · by_cases h2 : z = b
    · subst h2; rw [upd_same, upd_ne h1, upd_same]
    · rw [upd_ne h2, upd_ne h1, upd_ne h1, upd_ne h2]
end
section
variable {X : Cx} {D : Ad} {w : World} {pins : List (Addr × Obj)} {σ : L2.St} {F H : Hp} {as : List Addr} {μ : Mem} {s : Shared}
/-- the def's object is made -/
theorem mk_def {nm : Nat → Nat → Str} {c P : Addr} {name : Str} {params : Arguments} {body : List Stmt} {scope : Scope} {pos : Pos} {E : Value → Shared → Prop} {Q : Value → Shared → Prop} (I : Inv X pins σ H s) (S : Sim D w F H as μ) (TB : LamX.TabB X.base X.mg c P) (hcode : X.env.code = .ref c)
    (hm : (P, nm) ∈ D.tabs) (hn : nm pos.line pos.col = X.env.qual ++ name) (hu : ∀ p ∈ D.tabs, p.1 = P → p.2 = nm) (hfree : ∀ y ∈ scope.names, y.2 = .free → ∃ c, X.env.cells.lookup y.1 = some c)
    (h : ∀ (f c' : Addr) (F1 H1 : Hp) (s' : Shared), Inv X pins σ H1 s' → Sim D w F1 H1 as μ → Ext F H as F1 H1 as → H f = none → f ∉ as → F1 f = some (NdefX.FnO f ⟨name, X.env.qual ++ name, params, body, scope, cloFrom X.env.cells scope.names [], c'⟩) → F1 c' = some (LamX.CodeO c' (X.env.qual ++ name)) → Q (.ref f) s') :
    wpAny (model X.prog X.w) X.A (makeFunction name (X.env.qual ++ name) params (.stmts body) scope X.env [] [] [] pos pos.line) Q E s := by
  obtain ⟨nP, ps, hP, ht, hac⟩ := S.tb.2.2 _ hm
  have bP : s.heap.BuiltinsAt X.mg P := TB.bm.keeps I.bk
  have hP' : s.heap.get? P = some { cls := .none, data := .fields ps } := I.hok P _ hP
  have last : ∀ (c' : Addr) (F1 H1 : Hp) (h' : Heap) (tk : Tok) (doc ctv : Value), Inv X pins σ H1 { s with heap := h', toks := tk } → Sim D w F1 H1 as μ → Ext F H as F1 H1 as → F1 c' = some (LamX.CodeO c' (X.env.qual ++ name)) → s.heap.objs.size ≤ h'.objs.size →
      Q (.ref h'.objs.size) { s with heap := h'.push { cls := .type "function", data := .func ((⟨name, X.env.qual ++ name, params, body, scope, cloFrom X.env.cells scope.names [], c'⟩ : NdefX.NF).fd doc ((X.mg "__name__").getD .none) ctv) }, toks := tk } := by
    intro c' F1 H1 h' tk doc ctv I1 S1 X1 hc hsz
    have nF : H1 h'.objs.size = none := I1.hok.fresh (Nat.le_refl _)
    have I2 := NdefX.inv_fn (F := ⟨name, X.env.qual ++ name, params, body, scope, cloFrom X.env.cells scope.names [], c'⟩) (t' := tk) (doc := doc) (pm := (X.mg "__name__").getD .none) (ctv := ctv) I1 rfl
    obtain ⟨S2, X2⟩ := S1.newF (NdefX.FnO h'.objs.size ⟨name, X.env.qual ++ name, params, body, scope, cloFrom X.env.cells scope.names [], c'⟩) nF odd_fn
    exact h _ c' _ _ _ I2 S2 (X1.trans X2 S1.there) (I.hok.fresh hsz) (S1.notIn nF) upd_same (X2.fs _ _ hc)
  cases hc : codeAmong pos ps.toList with
  | none =>
    refine PySem.W.makeFunction_K (mg := X.mg) (c := c) (P := P) (ps := ps) (closure_ok hfree) I.ok.glob (I.mod.glob.keeps I.bk) hcode (TB.code.keeps I.bk) hP' ht hc TB.gP bP fun c' ctv doc h' tk hx hge hlt hrec htb => ?_
    obtain ⟨c2, oc, vs, t, e2, hoc, hd, hv⟩ := hrec
    cases e2
    have nC : H c' = none := I.hok.fresh hge
    have nPc : P ≠ c' := ne_of_none hP nC
    have I1 := LamX.inv_table (t' := tk) (more := #[rawInt pos.line, rawInt pos.col, .ref c']) (h' := h') I hP (fun b o hb e => hx b o hb e) htb hge ⟨oc, vs, t, hoc, hd, hv⟩
    have eL : (ps ++ #[rawInt pos.line, rawInt pos.col, .ref c']).toList = ps.toList ++ [rawInt pos.line, rawInt pos.col, .ref c'] := by simp
    obtain ⟨S1, X1⟩ := S.newF (LamX.CodeO c' (X.env.qual ++ name)) nC odd_code
    have hP1 : upd H c' (LamX.CodeO c' (X.env.qual ++ name)) P = some (.tbl ps) := by rw [upd_ne nPc]; exact hP
    obtain ⟨S2, X2⟩ := sim_tbl (ps' := ps ++ #[rawInt pos.line, rawInt pos.col, .ref c']) S1 hP1 nP (by rw [eL]; exact PySem.TriplesOk_snoc _ _ _ _ ht) fun p hp he p' cv hcv => by
      rw [eL] at hcv
      rw [hu p hp he]
      rcases NdefX.among_app2 _ ht hcv with z | ⟨z, z1, z2⟩
      · obtain ⟨c0, e1, e2⟩ := hac p' cv z
        exact ⟨c0, e1, X1.fs _ _ e2⟩
      · refine ⟨c', z, ?_⟩
        rw [← z1, ← z2, hn]
        exact upd_same
    rw [← upd_comm nPc] at S2 X2
    exact last c' _ _ h' tk doc ctv I1 S2 (X1.trans X2 S1.there) upd_same (Nat.le_trans hge (Nat.le_of_lt hlt))
  | some cv =>
    obtain ⟨c', e, hco⟩ := hac pos cv hc
    subst e
    have hco : F c' = some (LamX.CodeO c' (nm pos.line pos.col)) := hco
    rw [hn] at hco
    refine PySem.W.makeFunction_hit (mg := X.mg) (c := c) (P := P) (ps := ps) (closure_ok hfree) I.ok.glob (I.mod.glob.keeps I.bk) hcode (TB.code.keeps I.bk) hP' ht hc bP fun ctv doc h' tk hx hsz => ?_
    exact last c' F H h' tk doc ctv (I.kept hx) S Ext.refl hco hsz
end
/-! ### the cells put in -/
noncomputable def addC (cl : List (Str × Addr)) (ps : List Str) (os : List Obj) (G : Hp) : Hp := fun b => match (ps.zip os).find? (fun q => decide (cl.lookup q.1 = some b)) with
  | some q => some (.frz q.2 (.own 0))
  | none => G b
section
variable {cl : List (Str × Addr)} {ps : List Str} {os : List Obj} {G : Hp}
theorem addC_cases (b : Addr) : (∃ (j : Nat) (y : Str) (o : Obj), ps[j]? = some y ∧ os[j]? = some o ∧ cl.lookup y = some b ∧ addC cl ps os G b = some (.frz o (.own 0))) ∨ addC cl ps os G b = G b := by
  unfold addC
  cases q : (ps.zip os).find? (fun q => decide (cl.lookup q.1 = some b)) with
  | none => exact .inr rfl
  | some p =>
    have h1 := List.find?_some q
    have h2 := List.mem_of_find?_eq_some q
    obtain ⟨j, hj⟩ := List.mem_iff_getElem?.mp h2
    obtain ⟨a, b⟩ := p
    obtain ⟨z1, z2⟩ := List.getElem?_zip_eq_some.mp hj
    exact .inl ⟨j, _, _, z1, z2, by simpa using h1, rfl⟩
theorem addC_at (nd : ps.Nodup) (inj : ∀ x y c, cl.lookup x = some c → cl.lookup y = some c → x = y) {j : Nat} {y : Str} {o : Obj} {b : Addr} (h1 : ps[j]? = some y) (h2 : os[j]? = some o) (h3 : cl.lookup y = some b) : addC cl ps os G b = some (.frz o (.own 0)) := by
  unfold addC
  cases q : (ps.zip os).find? (fun q => decide (cl.lookup q.1 = some b)) with
  | none =>
    have h := List.find?_eq_none.mp q (y, o) (List.mem_of_getElem? (List.getElem?_zip_eq_some.mpr ⟨h1, h2⟩))
    simp [h3] at h
  | some p =>
    have e1 := List.find?_some q
    have e2 := List.mem_of_find?_eq_some q
    obtain ⟨i, hi⟩ := List.mem_iff_getElem?.mp e2
    obtain ⟨a, b'⟩ := p
    obtain ⟨z1, z2⟩ := List.getElem?_zip_eq_some.mp hi
    have ea : a = y := inj _ _ _ (by simpa using e1) h3
    subst ea
    have ei : i = j := (List.getElem?_inj (List.getElem?_eq_some_iff.mp z1).1 nd).mp (z1.trans h1.symm)
    subst ei
    rw [h2] at z2; cases z2
    rfl
end
section
variable {P : Program} {D : Ad} {w : World} {F H : Hp} {as : List Addr} {μ : Mem} {cl : List (Str × Addr)} {ps : List Str} {os : List Obj}
/-- what the cells are, where they stand in the heap h, unknown to H -/
structure CellsIn (cl : List (Str × Addr)) (ps : List Str) (os : List Obj) (H : Hp) (h : Heap) : Prop where
  nd : ps.Nodup
  inj : ∀ x y c, cl.lookup x = some c → cl.lookup y = some c → x = y
  no : ∀ y c, cl.lookup y = some c → H c = none
  at_ : ∀ (j : Nat) y o c, ps[j]? = some y → os[j]? = some o → cl.lookup y = some c → h.get? c = some o
theorem addC_old {h : Heap} (C : CellsIn cl ps os H h) {G : Hp} {b : Addr} (n : H b ≠ none) : addC cl ps os G b = G b := by
  rcases addC_cases (cl := cl) (ps := ps) (os := os) (G := G) b with ⟨j, y, o, h1, h2, h3, h4⟩ | q
  · exact absurd (C.no y b h3) n
  · exact q
theorem addC_same {h : Heap} (C : CellsIn cl ps os H h) (sub : Same F H) : Same F (addC cl ps os F) := fun b u e => by
  rw [addC_old C]
  · exact e
  · rw [sub b u e]; simp
theorem sim_add {h : Heap} (C : CellsIn cl ps os H h) (S : Sim D w F H as μ) : Sim D w (addC cl ps os F) (addC cl ps os H) as μ := by
  have sF := addC_same C S.sub
  refine ⟨fun b u e => ?_, S.len, S.nd, fun a ha => ?_, fun n a o h1 h2 h3 => ?_, fun n a o h1 h2 => ?_, ⟨fun b q e => ?_, fun b ob e hm => ?_, fun p hp => ?_⟩⟩
  · rcases addC_cases (cl := cl) (ps := ps) (os := os) (G := F) b with ⟨j, y, o, h1, h2, h3, h4⟩ | q
    · rw [h4] at e; rw [addC_at C.nd C.inj h1 h2 h3]; exact e
    · rw [q] at e
      have e1 := S.sub b u e
      rw [addC_old C (by rw [e1]; simp)]; exact e1
  · rw [addC_old C (S.there a ha)]; exact S.there a ha
  · rw [addC_old C (S.there a (List.mem_of_getElem? h1))]; exact S.out n a o h1 h2 h3
  · rw [addC_old C (S.there a (List.mem_of_getElem? h1))]; exact RO.mono sF ⟨[], by simp⟩ (S.obj n a o h1 h2)
  · rcases addC_cases (cl := cl) (ps := ps) (os := os) (G := F) b with ⟨j, y, o, h1, h2, h3, h4⟩ | z
    · rw [h4] at e; cases e
    · rw [z] at e; exact S.tb.1 b q e
  · rw [addC_old C (S.there b hm)] at e; exact S.tb.2.1 b ob e hm
  · obtain ⟨h1, ps0, h2, h3, h4⟩ := S.tb.2.2 p hp
    refine ⟨h1, ps0, by rw [addC_old C (by rw [h2]; simp)]; exact h2, h3, fun pos cv e => ?_⟩
    obtain ⟨c, e1, e2⟩ := h4 pos cv e
    exact ⟨c, e1, sF _ _ e2⟩
theorem hok_add {h : Heap} (C : CellsIn cl ps os H h) (hok : HOk P w H h) : HOk P w (addC cl ps os H) h := fun b u e => by
  rcases addC_cases (cl := cl) (ps := ps) (os := os) (G := H) b with ⟨j, y, o, h1, h2, h3, h4⟩ | q
  · rw [h4] at e; cases e
    have g := C.at_ j y o b h1 h2 h3
    exact ⟨g, o, g⟩
  · rw [q] at e
    exact (hok b u e).stay (fun _ _ _ q => q) (fun d q => by rw [addC_old C (by rw [q]; simp)]; exact q) fun d xs q => by rw [addC_old C (by rw [q]; simp)]; exact q
theorem un_add {fs : List Addr} {H0 : Hp} {h0 h : Heap} (C : CellsIn cl ps os H h) (fr : ∀ y c, cl.lookup y = some c → h0.objs.size ≤ c) (u : Un fs [] H0 H h0 h) : Un fs [] H0 (addC cl ps os H) h0 h where
  keep := u.keep
  slot := u.slot
  free := fun b o e n hx => by
    have q := u.free b o e n hx
    rcases addC_cases (cl := cl) (ps := ps) (os := os) (G := H) b with ⟨j, y, o', h1, h2, h3, h4⟩ | z
    · exact absurd (Nat.lt_of_lt_of_le (Heap.lt_size e) (fr y b h3)) (Nat.lt_irrefl _)
    · rw [z]; exact q
  there := u.there
  tups := fun b xs e => by
    have q := u.tups b xs e
    rw [addC_old C (by rw [q]; simp)]; exact q
  frzs := fun b o x e => by
    have q := u.frzs b o x e
    rw [addC_old C (by rw [q]; simp)]; exact q
  tbls := fun b xs e => by
    obtain ⟨m, q⟩ := u.tbls b xs e
    exact ⟨m, by rw [addC_old C (by rw [q]; simp)]; exact q⟩
/-- a closure stands in the memory -/
theorem sim_clo (S : Sim D w F H as μ) {f : Addr} {i : Nat} {ts : List T} (hf : F f ≠ none) (hn : f ∉ as) (hc : ∀ ob, F f ≠ some (.frz ob (.own 0))) (ht : ∀ ps, H f ≠ some (.tbl ps)) (r : RO D w F (as ++ [f]) f (H f) (.clo i ts)) : Sim D w F H (as ++ [f]) (μ ++ [.clo i ts]) := by
  have hH : H f ≠ none := by
    cases q : F f with
    | none => exact absurd q hf
    | some o => rw [S.sub f o q]; simp
  have cases_at : ∀ (n : Nat) a y, (as ++ [f])[n]? = some a → (μ ++ [O.clo i ts])[n]? = some y → (as[n]? = some a ∧ μ[n]? = some y) ∨ (a = f ∧ y = .clo i ts) := fun n a y h1 h2 => by
    by_cases hn : n < as.length
    · rw [List.getElem?_append_left hn] at h1
      rw [List.getElem?_append_left (by rw [← S.len]; exact hn)] at h2
      exact .inl ⟨h1, h2⟩
    · have hn1 : n < (as ++ [f]).length := (List.getElem?_eq_some_iff.mp h1).1
      rw [List.length_append, List.length_singleton] at hn1
      have e : n = as.length := by omega
      subst e
      rw [List.getElem?_append_right (Nat.le_refl _)] at h1
      rw [S.len, List.getElem?_append_right (Nat.le_refl _)] at h2
      simp at h1 h2
      exact .inr ⟨h1.symm, h2.symm⟩
  refine ⟨S.sub, by simp [S.len], ?_, fun a ha => ?_, fun n a o h1 h2 h3 => ?_, fun n a o h1 h2 => ?_, ⟨S.tb.1, fun b ob e hm => ?_, fun p hp => ?_⟩⟩
  · rw [List.nodup_append]
    exact ⟨S.nd, by simp, fun a ha b hb q => hn (by simp at hb; rw [← hb, ← q]; exact ha)⟩
  · rcases List.mem_append.mp ha with ha | ha
    · exact S.there a ha
    · simp at ha; subst ha; exact hH
  · rcases cases_at n a o h1 h2 with ⟨q1, q2⟩ | ⟨rfl, rfl⟩
    · exact S.out n a o q1 q2 h3
    · exact h3.elim
  · rcases cases_at n a o h1 h2 with ⟨q1, q2⟩ | ⟨rfl, rfl⟩
    · exact RO.mono (Same.refl _) ⟨[f], rfl⟩ (S.obj n a o q1 q2)
    · exact r
  · rcases List.mem_append.mp hm with hm | hm
    · exact S.tb.2.1 b ob e hm
    · simp at hm; subst hm; exact hc ob e
  · obtain ⟨h1, ps0, h2, h3, h4⟩ := S.tb.2.2 p hp
    refine ⟨fun hm => ?_, ps0, h2, h3, h4⟩
    rcases List.mem_append.mp hm with hm | hm
    · exact h1 hm
    · simp at hm; rw [hm] at h2; exact ht _ h2
end
end HQ
/-! HQM: closures: the def that hands one back. -/
namespace HQ
open PySem PySem.Spec PyProof.Rows L2

theorem listOf {α : Type} {R : Nat → α → Prop} : ∀ {n : Nat}, (∀ j, j < n → ∃ o, R j o) → ∃ os : List α, os.length = n ∧ ∀ (j : Nat) o, os[j]? = some o → R j o
  | 0, _ => ⟨[], rfl, fun j o h => by simp at h⟩
  | n + 1, h => by
    obtain ⟨os, hl, ho⟩ := listOf (n := n) (fun j hj => h j (by omega))
    obtain ⟨o, hn⟩ := h n (by omega)
    refine ⟨os ++ [o], by simp [hl], fun j x e => ?_⟩
    by_cases q : j < os.length
    · rw [List.getElem?_append_left q] at e; exact ho j x e
    · have l := (List.getElem?_eq_some_iff.mp e).1
      rw [List.length_append, List.length_singleton] at l
      have ej : j = os.length := by omega
      subst ej
      rw [List.getElem?_append_right (Nat.le_refl _)] at e
      simp at e; subst e
      rw [hl]; exact hn
def mkCloF (i n : Nat) : MF := fun us μ => match toTs us with
  | some ts => if us.length = n then .ok (.ref μ.length) (μ ++ [.clo i ts]) else .stuck
  | none => .stuck
section
variable {D : Ad} {P : Program} {w : World} {K : PySem.W.Frag} {mg : Str → Option Value} {base : Heap}
theorem fn_clo {x qual : Str} {params gp : Arguments} {gb : List Stmt} {gs scope : Scope} {g : Str} {gpos rp rpos : Pos} {fA : Addr} {fd : FuncData} {N ps : List Str} {k i gi : Nat} {nm : Nat → Nat → Str} {c PA : Addr}
    (FD : FunD K x qual params [.FunctionDef g gp gb [] none [] gs none g gpos, .Return (some (.Name g rp)) rpos] scope [] [] fA fd) (S : FnScope N ps scope)
    (hcode : fd.code = .ref c) (TB : LamX.TabB base mg c PA) (hm : (PA, nm) ∈ D.tabs) (hu : ∀ p ∈ D.tabs, p.1 = PA → p.2 = nm) (hn : nm gpos.line gpos.col = qual ++ ".<locals>." ++ g)
    (hD : D.cd i = ⟨g, qual ++ ".<locals>." ++ g, gp, gb, gs, ps⟩) (hb : NdefX.ndefB scope gs ps = true) (hd0 : gp.defaults = []) (hk0 : gp.kw_defaults = []) (ha : ∀ L cdv, annTrees gp none (envOfC qual scope L fA cdv) = [])
    (hfr : ∀ y ∈ gs.names, y.2 = .free → y.1 ∈ ps) (hcell : ∀ y ∈ ps, scope.names.lookup y = some .cell) (hgi : N[gi]? = some g) (hgl : scope.names.lookup g = some .local) (hps : ps.length ≤ gi)
    (hdb : (g == ("__debug__" : Str)) = false) (hcd : (g == ("__classdict__" : Str)) = false) :
    FnOk P w K mg base (L2.CX P w) (k + 1) fA fd ps (spF D w ps.length (mkCloF i ps.length)) := by
  obtain ⟨oc, od, dV, kV, doc, pm, an, cdv, ct, osl, rfl, lk, hcdi, _, _⟩ := FD.ex
  have hcdv : cdv = .ref c := hcode
  subst hcdv
  refine ⟨fun vs H Q E ⟨F, as, μ, us, _, r, e, _⟩ => by rw [← r.len, e], fun A outer s H args us vs Q E hr e0 hbd r hsp => ?_⟩
  obtain ⟨F, as, μ, ws, Si, R, el, Pp⟩ := hsp
  have hl : vs.length = ps.length := by rw [← R.len, el]
  have KX : K.In s.heap := e0.mod.kin.keeps fun b o e => (e0.bs b o e).1
  have lim : s.heap.NoLimit := e0.mod.nolimit.keeps fun b o e => (e0.bs b o e).1
  have hkind : ∀ y ∈ ps.zip us, scope.names.lookup y.1 = some .local ∨ (scope.names.lookup y.1 = some .cell ∧ ((cellsFrom (s.heap.objs.size + 1) scope.names []).lookup y.1).isSome = true) := fun ⟨n, v⟩ hy => by
    rcases S.par n (List.of_mem_zip hy).1 with q | q
    · exact .inl q
    · exact .inr ⟨q, PySem.W.cellsFrom_some _ _ _ (.inl q)⟩
  refine codeAny_call_function hr.depth (KX _ _ lk) rfl S.co S.gen rfl (PySem.W.codeRec_of KX hcdi) (hbd _ _ _ _ ?_)
  refine wpAny_newFunctionEnv_cells S.kind hkind fun env he s1 xx => ?_
  subst he
  refine ⟨lim.keeps xx.toInCall.keep, codeAny_func ?_⟩
  have I : Inv (cxOf (L2.CX P w) P w K mg base N qual scope fA (.ref c) A outer s H E) [] (start N vs) H s1 := inv_start S hr.hd e0 hl r xx
  have hq : qualnameIn (envOfC qual scope s.heap.objs.size fA (.ref c)) g g = (envOfC qual scope s.heap.objs.size fA (.ref c)).qual ++ g := by
    have hk : (envOfC qual scope s.heap.objs.size fA (.ref c)).kindOf g = some .local := hgl
    unfold qualnameIn
    rw [hk]
    rfl
  have hfree : ∀ y ∈ gs.names, y.2 = .free → ∃ c', (envOfC qual scope s.heap.objs.size fA (.ref c)).cells.lookup y.1 = some c' := fun y hy e => (NdefX.ndef_free hb y hy e).elim (fun z => I.ok.has _ (.inl z)) fun z => I.ok.has _ (.inr z)
  have iN : gi < N.length := (List.getElem?_eq_some_iff.mp hgi).1
  have psN : ps.length ≤ N.length := by omega
  have preN : ∀ (j : Nat) y, ps[j]? = some y → N[j]? = some y := fun j y e => by
    have l := (List.getElem?_eq_some_iff.mp e).1
    have := S.pre
    rw [← this, List.getElem?_take_of_lt l] at e
    exact e
  have ndP : ps.Nodup := by
    have q := S.nd.sublist (List.take_sublist ps.length N)
    rw [S.pre] at q
    exact q
  show wpAny (model P w) (A.deeper (envOfC qual scope s.heap.objs.size fA (.ref c))) (execs _ (envOfC qual scope s.heap.objs.size fA (.ref c))) _ _ s1
  refine wpAny_execs_cons (PySem.W.nestDef_K hd0 hk0 (ha _ _) ?_)
  rw [hq]
  refine mk_def (X := cxOf (L2.CX P w) P w K mg base N qual scope fA (.ref c) A outer s H E) I Si TB rfl hm hn hu hfree fun f c' F1 H1 s2 I1 S1 X1 f0 fn1 e1 e2 => ?_
  refine store_ok I1 S.nd hgi (.inl hgl) (v := .ref f) rfl (fun s3 I2 => ?_) (.inl rfl)
  refine wpAny_execs_cons (wpAny_Return_some (thn ((pe_var (i := gi) hgi (.inl hgl) hdb hcd).run [] s3 _ H1 (fun v H2 => v = .ref f ∧ H2 = H1) I2 ⟨.ref f, ?_, rfl, rfl⟩) fun u s4 ⟨v, H2, I3, r3, q3⟩ => ?_))
  · refine List.getElem?_set_self ?_
    have := I1.len
    rw [this]; exact iN
  obtain ⟨ev, eH⟩ := q3
  subst ev eH
  -- the cells
  have cm : ∀ y b, (cloFrom (envOfC qual scope s.heap.objs.size fA (.ref c)).cells gs.names []).lookup y = some b → (envOfC qual scope s.heap.objs.size fA (.ref c)).cells.lookup y = some b := fun y b e => NdefX.clo_cm hfree e
  have inP : ∀ y b, (cloFrom (envOfC qual scope s.heap.objs.size fA (.ref c)).cells gs.names []).lookup y = some b → y ∈ ps := fun y b e => by
    rcases cloFrom_mem (PySem.mem_of_lookup e) with hm | ⟨h1, h2⟩
    · cases hm
    · exact hfr _ h1 rfl
  have look : ∀ (j : Nat) y v, ps[j]? = some y → vs[j]? = some v → ∃ b u o, (cloFrom (envOfC qual scope s.heap.objs.size fA (.ref c)).cells gs.names []).lookup y = some b ∧ L2.RelV v u ∧ s4.heap.get? b = some o ∧ o.data = .cell (some u) := fun j y v h1 h2 => by
    have lj := (List.getElem?_eq_some_iff.mp h1).1
    obtain ⟨m, hns, hloc⟩ := I3.loc
    have hs : ((start N vs).set gi (some (V.ref f)))[j]? = some (some v) := by
      rw [List.getElem?_set_ne (by omega)]
      unfold L2.start
      rw [List.getElem?_append_left (by rw [List.length_map]; omega), List.getElem?_map, h2]
      rfl
    have hk := hcell y (List.mem_of_getElem? h1)
    obtain ⟨u, ru, lo⟩ := hloc j y v (preN j y h1) hs (.inr (.inl hk))
    rcases lo with ⟨z, _⟩ | ⟨_, b, hbb, o, ho, hdat⟩
    · have z' : scope.names.lookup y = some .local := z
      rw [hk] at z'; cases z'
    · exact ⟨b, u, o, NdefX.clo_has hfree (NdefX.ndef_fr hb y (List.mem_of_getElem? h1)) hbb, ru, ho, hdat⟩
  obtain ⟨os, osl', hos⟩ := listOf (n := ps.length) (R := fun j o => ∀ y v, ps[j]? = some y → vs[j]? = some v → ∃ b u, (cloFrom (envOfC qual scope s.heap.objs.size fA (.ref c)).cells gs.names []).lookup y = some b ∧ L2.RelV v u ∧ s4.heap.get? b = some o ∧ o.data = .cell (some u)) (fun j hj => by
    obtain ⟨b, u, o, h1, h2, h3, h4⟩ := look j ps[j] (vs[j]'(by omega)) (List.getElem?_eq_getElem hj) (List.getElem?_eq_getElem (by omega))
    refine ⟨o, fun y v e1 e2 => ?_⟩
    rw [List.getElem?_eq_getElem hj] at e1
    rw [List.getElem?_eq_getElem (by omega)] at e2
    cases e1; cases e2
    exact ⟨b, u, h1, h2, h3, h4⟩)
  have C : CellsIn (cloFrom (envOfC qual scope s.heap.objs.size fA (.ref c)).cells gs.names []) ps os H2 s4.heap := by
    refine ⟨ndP, fun x y b h1 h2 => I.ok.inj x y b (cm _ _ h1) (cm _ _ h2), fun y b e => I3.freeC y b (cm _ _ e), fun j y o b h1 h2 h3 => ?_⟩
    obtain ⟨v, hv⟩ : ∃ v, vs[j]? = some v := ⟨_, List.getElem?_eq_getElem (by have := (List.getElem?_eq_some_iff.mp h1).1; omega)⟩
    obtain ⟨b', u, z1, z2, z3, z4⟩ := hos j o h2 y v h1 hv
    rw [h3] at z1; cases z1
    exact z3
  have fr : ∀ y b, (cloFrom (envOfC qual scope s.heap.objs.size fA (.ref c)).cells gs.names []).lookup y = some b → s.heap.objs.size ≤ b := fun y b e => I.ok.cab y b rfl (cm _ _ e)
  have S3 := sim_add C S1
  have sF : Same F1 (addC (cloFrom (envOfC qual scope s.heap.objs.size fA (.ref c)).cells gs.names []) ps os F1) := addC_same C S1.sub
  have hfF := sF _ _ e1
  have S4 := sim_clo (i := i) (ts := (toTs ws).getD []) S3 (f := f) (by rw [hfF]; simp) fn1 (fun ob z => by rw [hfF] at z; unfold NdefX.FnO at z; cases z) (fun pq z => by rw [S3.sub _ _ hfF] at z; exact NdefX.fnO_ne pq (Option.some.inj z))
  unfold mkCloF at Pp
  cases ht : toTs ws with
  | none => rw [ht] at Pp; exact Pp.elim
  | some ts =>
    rw [ht] at Pp S4
    simp only [Option.getD_some] at S4
    simp only [if_pos el] at Pp
    have Rt : RTs D w F ts vs := by
      have e := toTs_eq ht
      subst e
      exact R.toT
    have S5 := S4 (by
      refine ⟨cloFrom (envOfC qual scope s.heap.objs.size fA (.ref c)).cells gs.names [], c', vs, ?_, ?_, ?_, RTs.mono sF ts vs (RTs.mono X1.fs ts vs Rt), ?_⟩
      · rw [hD]; exact S3.sub _ _ hfF
      · rw [hD]; exact hfF
      · rw [hD]; exact sF _ _ e2
      · rw [hD]
        refine ⟨ndP, hl, fun y b e => ?_, C.inj, fun j y e => ?_⟩
        · obtain ⟨j, hj⟩ := List.mem_iff_getElem?.mp (inP y b e)
          have lj := (List.getElem?_eq_some_iff.mp hj).1
          obtain ⟨v, hv⟩ : ∃ v, vs[j]? = some v := ⟨_, List.getElem?_eq_getElem (by omega)⟩
          obtain ⟨o, ho⟩ : ∃ o, os[j]? = some o := ⟨_, List.getElem?_eq_getElem (by omega)⟩
          obtain ⟨b', u, z1, z2, z3, z4⟩ := hos j o ho y v hj hv
          exact ⟨j, v, hj, hv, o, u, addC_at C.nd C.inj hj ho e, z4, z2⟩
        · have e : ps[j]? = some y := e
          have lj := (List.getElem?_eq_some_iff.mp e).1
          obtain ⟨v, hv⟩ : ∃ v, vs[j]? = some v := ⟨_, List.getElem?_eq_getElem (by omega)⟩
          obtain ⟨b, u, o, z, _⟩ := look j y v e hv
          exact ⟨b, z⟩)
    obtain rfl : u = Value.ref f := r3
    refine ⟨.ref f, addC (cloFrom (envOfC qual scope s.heap.objs.size fA (.ref c)).cells gs.names []) ps os H2, I3.os, I3.bare, un_add C fr I3.base, hok_add C I3.hok, rfl, ?_⟩
    refine Pp (addC (cloFrom (envOfC qual scope s.heap.objs.size fA (.ref c)).cells gs.names []) ps os F1) _ (as ++ [f]) (.ref f) ⟨X1.fs.trans sF, ⟨[f], rfl, by simpa using f0⟩, fun a o e hn => ?_, fun a e => ?_⟩ S5 ?_
    · have k := X1.keep a o e hn
      rw [addC_old C k.ne]; exact k
    · rcases addC_cases (cl := cloFrom (envOfC qual scope s.heap.objs.size fA (.ref c)).cells gs.names []) (ps := ps) (os := os) (G := F1) a with ⟨j, y, o, h1, h2, h3, h4⟩ | q
      · have n := C.no y a h3
        by_cases hn : a ∈ as
        · exact .inr (.inr hn)
        · exact .inr (.inl (X1.free n hn))
      · rw [q] at e; exact X1.newF a e
    · simp only [RW]
      exact ⟨f, by rw [← Si.len]; simp, rfl⟩
end
end HQ
/-! HQN: closures: their bodies; calls of what a name holds. -/
namespace HQ
open PySem PySem.Spec PyProof.Rows L2

theorem startF_eq {N : List Str} {vs cvs : List V} : NdefX.startF N vs (cvs.map some) = L2.start N (vs ++ cvs) := by
  unfold NdefX.startF L2.start
  simp only [List.map_append, List.append_assoc, List.length_append, List.length_map, Nat.sub_sub]
section
variable {D : Ad} {P : Program} {w : World} {K : PySem.W.Frag} {mg : Str → Option Value} {base : Heap}
theorem nok_ok {i n m k : Nat} {N ps : List Str} {b : MS} (S : NdefX.NScope N ps (D.cd i).fr (D.cd i).scope) (hn : ps.length = n) (hm : (D.cd i).fr.length = m) (hN : n + m ≤ N.length)
    (hbind : ∀ (cl : List (Str × Addr)) (c : Addr) (doc pm ctv : Value) (us : List Value), us.length = ps.length → bindArgs (((D.cd i).nf cl c).fd doc pm ctv) ⟨us, []⟩ = pure (ps.zip us))
    (hbody : ∀ (a c : Addr) (cl : List (Str × Addr)) (A : Around) (outer : List Env) (s : Shared) (H : Hp) (E : XK), Room k (A.deeper (NdefX.envF ((D.cd i).nf cl c) a s.heap.objs.size)) →
      PSs (NdefX.ncx (L2.CX P w) P w K mg base N ((D.cd i).nf cl c) a A outer s H E) (D.cd i).body (RdS D w (fun cls d _ H => E cls d H) b)) :
    ∀ (a c : Addr) (cl : List (Str × Addr)), NdefX.NOk P w K mg base (L2.CX P w) (k + 1) a ((D.cd i).nf cl c) ps (D.cd i).fr (spN D w n (runF N.length (n + m) b)) := fun a c cl => by
  refine NdefX.nok_of S (fun doc pm ctv us hl => hbind cl c doc pm ctv us hl) (fun ws vs H Q E ⟨F, as, μ, us, ts, cvs, _, r, e, _⟩ => by rw [← r.len, e, hn]) fun A outer s H vs ws Q E hr hf hc hwl ⟨F, as, μ, us, ts, cvs, Si, r, e, ew, rt, Pp⟩ => ?_
  subst ew
  have hcl : cvs.length = m := by
    rw [← hm, ← hwl]; simp
  have r2 : RWs D w F as (us ++ ts.map .t) (vs ++ cvs) := r.app rt.toW
  have e2 : (us ++ ts.map W.t).length = n + m := by rw [List.length_append, List.length_map, e, rt.len, hcl]
  refine ⟨_, hbody a c cl A outer s H E hr, F, as, μ, (us ++ ts.map W.t).map some ++ List.replicate (N.length - (n + m)) none, Si, ?_, ?_⟩
  · rw [startF_eq]
    exact er_start r2 e2 hN
  unfold runF at Pp
  rw [if_pos e2] at Pp
  have el : μ.length = as.length := Si.len.symm
  cases q : b ((us ++ ts.map W.t).map some ++ List.replicate (N.length - (n + m)) none) μ with
  | nx e1 μ1 =>
    simp only [q, el] at Pp
    exact fun F' H' as' σ' X S E => Pp.fin X S (by simp only [RW, RT])
  | rt u μ1 =>
    simp only [q, el] at Pp
    exact fun F' H' as' v X S r => Pp.fin X S r
  | exc x e1 μ1 =>
    simp only [q] at Pp
    exact fun F' H' as' σ' d X S E r => Pp F' H' as' d X S r
  | ct e1 μ1 => simp only [q] at Pp; exact Pp.elim
  | bk e1 μ1 => simp only [q] at Pp; exact Pp.elim
  | stuck => simp only [q] at Pp; exact Pp.elim
theorem Sc.nf {N : List Str} {G : NdefX.NF} {f : Addr} {A : Around} {outer : List Env} {s : Shared} {H : Hp} {E : XK} {k : Nat} {is ls : List Nat} {gs bs : List Str} {sc : Scope}
    (h : scB false N sc is ls gs bs = true) (hs : G.scope = sc) (hm : ∀ x ∈ bs, mg x = none) (nd : N.Nodup) (hr : Room k (A.deeper (NdefX.envF G f s.heap.objs.size))) :
    Sc (NdefX.ncx (L2.CX P w) P w K mg base N G f A outer s H E) D w (fun cls d _ H => E cls d H) k is ls gs bs :=
  Sc.of (fn := false) h rfl hs (fun z => by cases z) hm nd rfl (takes_of rfl rfl rfl rfl) hr rfl
theorem own_nf {N : List Str} {G : NdefX.NF} {f : Addr} {A : Around} {outer : List Env} {s : Shared} {H : Hp} {E : XK} :
    PassesOwn (model P w) (NdefX.ncx (L2.CX P w) P w K mg base N G f A outer s H E).A (NdefX.ncx (L2.CX P w) P w K mg base N G f A outer s H E).env (NdefX.ncx (L2.CX P w) P w K mg base N G f A outer s H E).xe := passes_of (X := NdefX.ncx (L2.CX P w) P w K mg base N G f A outer s H E) rfl
end
/-! ### a call of what a name holds -/
def fCallV (tf : List (Nat × MF)) (tc : List (Nat × Nat × MF)) (u : W) : MF := fun us μ => match u with
  | .t (.fn j) => (match tf.lookup j with
    | some f => f us μ
    | none => .stuck)
  | .ref m => (match μ[m]? with
    | some (.clo i ts) => (match tc.lookup i with
      | some (n, f) => if us.length = n then cloF f ts us μ else .stuck
      | none => .stuck)
    | _ => .stuck)
  | _ => .stuck
def okCallV (tf : List (Nat × MF)) (u : W) (μ : Mem) : Bool := match u with
  | .t (.fn j) => (tf.lookup j).isSome
  | .ref m => (match μ[m]? with
    | some (.clo _ _) => true
    | _ => false)
  | _ => false
def mCallL (tf : List (Nat × MF)) (tc : List (Nat × Nat × MF)) (i : Nat) (ms : MA) : ME := fun e μ => match e[i]? with
  | some (some u) => if okCallV tf u μ = true then (ms e μ).bind fun us μ1 => fCallV tf tc u us μ1 else .stuck
  | _ => .stuck
section
variable {X : Cx} {D : Ad} {w : World} {Wx : WX}
def FnV (X : Cx) (D : Ad) (w : World) (Wx : WX) (j : Nat) (f : MF) : Prop := CallsTo X D w Wx (.ref (D.fa j)) f ∧ PySem.W.keepIn X.K (.ref (D.fa j)) = true
def CloV (X : Cx) (D : Ad) (w : World) (i n : Nat) (f : MF) : Prop := ∃ k ps, (∀ (a c : Addr) (cl : List (Str × Addr)), NdefX.NOk X.prog X.w X.K X.mg X.base (L2.CX X.prog X.w) k a ((D.cd i).nf cl c) ps (D.cd i).fr (spN D w n f)) ∧ Room k X.A
theorem xe_callL {tf : List (Nat × MF)} {tc : List (Nat × Nat × MF)} {i : Nat} {x : Str} {p pos : Pos} {e : Expr} {es : List Expr} {ms : MA} (hf : ∀ j f, tf.lookup j = some f → FnV X D w Wx j f) (hc : ∀ j n f, tc.lookup j = some (n, f) → CloV X D w j n f) (tk : Takes X Wx)
    (hN : X.N[i]? = some x) (hv : Vis X.env.scope x) (hd : (x == ("__debug__" : Str)) = false) (hcd : (x == ("__classdict__" : Str)) = false) (ha : PA X (e :: es) (RdA D w Wx ms))
    (he : starEach (e :: es) X.env = (false, eval e X.env) :: starEach es X.env) (hpl : (backTo pos (starEach es X.env)).any (·.1) = false) :
    PE X (.Call (.Name x p) (e :: es) [] pos) (RdE D w Wx (mCallL tf tc i ms)) := by
  refine ⟨fun pins s σ H Q I ⟨F, as, μ, en, S, E, P⟩ => ?_⟩
  unfold mCallL at P
  cases q : en[i]? with
  | none => simp only [q] at P; exact P.elim
  | some o =>
    cases o with
    | none => simp only [q] at P; exact P.elim
    | some u =>
      simp only [q] at P
      obtain ⟨v, hs, rv⟩ := E.at_ i u q
      refine (Classical.em (okCallV tf u μ = true)).elim (fun ok => ?_) (fun ok => by rw [if_neg ok] at P; exact P.elim)
      rw [if_pos ok] at P
      refine wpAny_Call_Name_kw (thn ((pe_var (pos := p) hN hv hd hcd).run pins s σ H (fun v' H1 => v' = v ∧ H1 = H) I ⟨v, hs, rfl, rfl⟩) fun uu s1 ⟨v', H1, I1, r1, q1⟩ => ?_)
      obtain ⟨ev, eH⟩ := q1
      subst ev eH
      cases u with
      | tup ws => cases ok
      | t t =>
        cases t <;> first | (cases ok; done) | skip
        rename_i j
        simp only [okCallV] at ok
        obtain ⟨f, qf⟩ := Option.isSome_iff_exists.mp ok
        obtain ⟨hf1, hf2⟩ := hf j f qf
        simp only [RW, RT] at rv
        subst rv
        obtain rfl : uu = Value.ref (D.fa j) := r1
        refine PySem.W.callWith_K (h₀ := X.base) I.ok.mod.kin hf2 (thn (ha.run pos pins s1 σ _ _ I1 ⟨F, as, μ, en, S, E, Po.bind P fun us μ1 F1 H1 as1 vs X1 S1 R1 P1 => (⟨F1, as1, μ1, us, S1, R1, by simpa only [fCallV, qf] using P1⟩ : ∃ F as μ ws, Sim D w F H1 as μ ∧ RWs D w F as ws vs ∧ Po D w Wx σ F H1 as (relW D w) (f ws μ) Q)⟩) fun us s2 ⟨vs, H2, I2, r, qq⟩ => ⟨I2.kIn, ?_⟩) he hpl
        exact hf1 pins σ H2 s2 us vs Q I2 r qq
      | ref m =>
        simp only [okCallV] at ok
        simp only [RW] at rv
        obtain ⟨a, ea, rfl⟩ := rv
        obtain rfl : uu = Value.ref a := r1
        cases qm : μ[m]? with
        | none => rw [qm] at ok; cases ok
        | some o =>
          rw [qm] at ok
          cases o <;> first | (cases ok; done) | skip
          rename_i i0 ts0
          obtain ⟨cl0, c0, cvs0, h0, _⟩ := S.obj m a _ ea qm
          refine PySem.W.callWith_F (first := []) (NdefX.fnAt_of I1 h0) (thn (ha.run pos pins s1 σ _ (fun vs H1 => ∃ F1 as1 μ1 us, Sim D w F1 H1 as1 μ1 ∧ RWs D w F1 as1 us vs ∧ as1[m]? = some a ∧ Po D w Wx σ F1 H1 as1 (relW D w) (fCallV tf tc (.ref m) us μ1) Q) I1 ⟨F, as, μ, en, S, E, Po.bind P fun us μ1 F1 H1 as1 vs X1 S1 R1 P1 => ⟨F1, as1, μ1, us, S1, R1, ?_, P1⟩⟩) fun us s2 ⟨vs, H2, I2, r, F2, as2, μ2, ws, S2, R2, ea2, P2⟩ => ?_) he hpl
          · obtain ⟨z, ez⟩ := X1.pre
            rw [ez, List.getElem?_append_left (List.getElem?_eq_some_iff.mp ea).1]; exact ea
          simp only [fCallV] at P2
          cases q2 : μ2[m]? with
          | none => simp only [q2] at P2; exact P2.elim
          | some o =>
            simp only [q2] at P2
            cases o <;> first | exact P2.elim | skip
            rename_i i2 ts2
            simp only at P2
            cases q3 : tc.lookup i2 with
            | none => simp only [q3] at P2; exact P2.elim
            | some nf =>
              obtain ⟨n, f⟩ := nf
              simp only [q3] at P2
              refine (Classical.em (ws.length = n)).elim (fun hl => ?_) (fun hl => by rw [if_neg hl] at P2; exact P2.elim)
              rw [if_pos hl] at P2
              obtain ⟨k, ps, FO, hr⟩ := hc i2 n f q3
              obtain ⟨cl2, c2, cvs2, h2, _⟩ := S2.obj m a _ ea2 q2
              refine ⟨NdefX.fnAt_of I2 h2, ?_⟩
              show wpAny _ _ (call (.ref a) us) _ _ _
              exact run_clo FO hr tk I2 r S2 R2 ea2 q2 hl P2
/-- a def of the module as a value -/
theorem xe_fnv {j : Nat} {x : Str} {pos : Pos} (hg : Gl X x) (hm : X.mg x = some (.ref (D.fa j))) (hdb : (x == ("__debug__" : Str)) = false) : PE X (.Name x pos) (RdE D w Wx (mT (.fn j))) :=
  ⟨fun pins s σ H Q I ⟨F, as, μ, e, S, E, P⟩ => ld_glob I hg hm ⟨.ref (D.fa j), H, I, rfl, Po.now P S (by simp only [relW, RW, RT])⟩ hdb⟩
end
end HQ
/-! HQO: dicts: a key sought, whatever keys stand there. -/
namespace HQ
open PySem PySem.Spec PyProof.Rows L2

/-- the entries' keys are these -/
structure DN (w : World) (h : Heap) (ks : List NestedKey) (es : Array DictEntry) : Prop where
  len : ks.length = es.size
  at_ : ∀ i (hi : i < es.size), ∃ k, ks[i]? = some k ∧ es[i].hash = k.hash w ∧ NestedIs h k es[i].key ∧ k.depth ≤ 8
  nd : ks.Nodup
section
variable {prog : Program} {w : World} {A : Around} {E : Value → Shared → Prop} {s : Shared}
theorem eqB_N {x y : NestedKey} {a b : Value} {Q : Bool → Shared → Prop} (hu : A.units + 8 < cLine) (hx : NestedIs s.heap x a) (hy : NestedIs s.heap y b) (hd : x.depth ≤ 8) (h : Q (decide (x = y)) s) : wpAny (model prog w) A (eqBool a b) Q E s :=
  eqAt_key x y A s a b hx hy (by omega) _ _ _ _ (by rw [← NestedKey.decide_eq]; exact h)
theorem tells_N {key : Value} {k : NestedKey} {st : List Value} {Q : Bool → Shared → Prop} (hkey : NestedIs s.heap k key) (hkd : k.depth ≤ 8) (hst : ∀ v ∈ st, ∃ k', NestedIs s.heap k' v ∧ k'.depth ≤ 8) (h : Q false s) : wpAny (model prog w) A (tableMayTell key st) Q E s := by
  unfold tableMayTell
  split
  · exact wpAny_pure h
  · refine wpAny_bind (quiet_key k _ 8 s hkey hkd A E _ ?_)
    simp only [Bool.not_true, Bool.false_eq_true, if_false]
    refine wpAny_bind ?_
    refine wpAny_forIn_list _ (fun rest r s' => s' = s ∧ r = (none, ()) ∧ ∀ v ∈ rest, ∃ k', NestedIs s.heap k' v ∧ k'.depth ≤ 8) _ ?_ ?_ _ _ ⟨rfl, rfl, hst⟩
    · rintro x rest r s' ⟨rfl, rfl, hr⟩
      obtain ⟨k', hb, hb2⟩ := hr x List.mem_cons_self
      refine wpAny_bind (quiet_key k' _ 8 s' hb hb2 A E _ ?_)
      simp only [Bool.not_true, Bool.false_eq_true, if_false]
      exact wpAny_pure ⟨rfl, rfl, fun v hv => hr v (List.mem_cons_of_mem _ hv)⟩
    · rintro r s' ⟨rfl, rfl, _⟩
      exact wpAny_pure h
theorem isStr_key {h : Heap} {k : NestedKey} {v : Value} {x : Str} (n : NestedIs h k v) : v.isStr x = decide (k = .text x) := by
  cases n with
  | none => rfl
  | bool e => simp [Value.isStr]
  | int i t => simp [Value.isStr]
  | text y t =>
    show (y == x) = _
    by_cases e : y = x
    · subst e; simp
    · simp [e]
  | tup h1 h2 h3 h4 => simp [Value.isStr]
/-- a key is sought -/
theorem find_N {d : Addr} {key : Value} {o : Obj} {es : Array DictEntry} {ep : Nat} {k : NestedKey} {ks : List NestedKey} {Q : Option Nat → Shared → Prop} (hu : A.units + 8 < cLine) (hkey : NestedIs s.heap k key) (hkd : k.depth ≤ 8)
    (ho : s.heap.get? d = some o) (hd : o.data = .dict es ep) (hk : DN w s.heap ks es) (hnone : k ∉ ks → Q none s) (hsome : ∀ j, ks[j]? = some k → Q (some j) s) :
    wpAny (model prog w) A (dictFind d key (k.hash w)) Q E s := by
  have nokey : ∀ j (hj : j < es.size), ((es[j]?.map (·.hash)) == some (k.hash w)) = false → ks[j]? ≠ some k := by
    intro j hj hp e
    obtain ⟨k', e1, e2, _⟩ := hk.at_ j hj
    rw [e] at e1; cases e1
    rw [Array.getElem?_eq_getElem hj, Option.map_some, e2] at hp
    simp at hp
  have uniq : ∀ {i j : Nat}, ks[i]? = some k → ks[j]? = some k → i = j := fun {i j} hi hj => (List.getElem?_inj (List.getElem?_eq_some_iff.mp hi).1 hk.nd).mp (hi.trans hj.symm)
  have nomem : (∀ j, j < es.size → ks[j]? ≠ some k) → k ∉ ks := fun h hm => by
    obtain ⟨j, hj⟩ := List.mem_iff_getElem?.mp hm
    exact h j (by rw [← hk.len]; exact (List.getElem?_eq_some_iff.mp hj).1) hj
  have hst : ∀ v ∈ (placesWithHash es.size (fun i => es[i]?.map (·.hash)) (k.hash w)).filterMap (fun i => es[i]?.map (·.key)), ∃ k', NestedIs s.heap k' v ∧ k'.depth ≤ 8 := by
    intro v hv
    obtain ⟨i, _, hi⟩ := List.mem_filterMap.mp hv
    cases hei : es[i]? with
    | none => rw [hei] at hi; cases hi
    | some e =>
      rw [hei] at hi
      obtain rfl : e.key = v := by simpa using hi
      obtain ⟨hlt, he⟩ := Array.getElem?_eq_some_iff.mp hei
      obtain ⟨k', _, _, z1, z2⟩ := hk.at_ i hlt
      rw [he] at z1
      exact ⟨k', z1, z2⟩
  unfold dictFind
  try with_reducible refine wpAny_holding ?_
  refine wpAny_bind (wpAny_dictEntries ho hd ?_)
  dsimp only
  -- where all is carried by value
  have plain : wpAny (model prog w) A (dictWalkPlain d key (k.hash w) es (placesWithHash es.size (fun i => es[i]?.map (·.hash)) (k.hash w))) Q E s := by
    refine wpAny_bind ?_
    refine wpAny_forIn_list _
      (fun rest b s' => s' = s ∧ b = (none, ()) ∧ ∃ i, rest = (List.range' i (es.size - i)).filter (fun i => (es[i]?.map (·.hash)) == some (k.hash w)) ∧ i ≤ es.size ∧
        ∀ j (hj : j < es.size), j < i → ks[j]? ≠ some k) _ ?_ ?_ _ _
      ⟨rfl, rfl, 0, by rw [placesWithHash, List.range_eq_range', Nat.sub_zero], Nat.zero_le _, fun _ _ h => absurd h (Nat.not_lt_zero _)⟩
    · rintro x rest b s' ⟨rfl, rfl, i, hr, hi, hno⟩
      obtain ⟨hix, hxn, hpx, hskip, hrest⟩ := filter_range'_cons _ _ _ _ _ hr.symm
      have hlt : x < es.size := by omega
      obtain ⟨k', ek', hhash, hkey', hkd'⟩ := hk.at_ x hlt
      have hnext : ¬ k' = k → ∃ i, rest = (List.range' i (es.size - i)).filter (fun i => (es[i]?.map (·.hash)) == some (k.hash w)) ∧ i ≤ es.size ∧
          ∀ j (hj : j < es.size), j < i → ks[j]? ≠ some k := fun hne =>
        ⟨x + 1, by rw [hrest]; congr 2; omega, hlt, fun j hj hji => by
          rcases Nat.lt_or_ge j i with h | h
          · exact hno j hj h
          · rcases Nat.lt_or_ge j x with h' | h'
            · exact nokey j hj (hskip j h h')
            · have : j = x := by omega
              subst this; rw [ek']; exact fun e => hne (Option.some.inj e)⟩
      simp only [Array.getElem?_eq_getElem hlt]
      by_cases hh : (es[x].hash == k.hash w) = true
      · rw [if_pos hh]
        refine wpAny_bind (wpAny_dictEpoch ho hd (wpAny_bind (eqB_N hu hkey' hkey hkd' (wpAny_bind (wpAny_dictEpoch ho hd ?_)))))
        show wpAny _ _ (if (ep != ep) = true then _ else _) _ E _
        rw [if_neg (by simp)]
        by_cases hkk : k' = k
        · rw [decide_eq_true hkk]
          subst hkk
          exact wpAny_bind (wpAny_rule (wpAny_pure (wpAny_pure (hsome x ek'))))
        · rw [decide_eq_false hkk]
          exact wpAny_bind (wpAny_rule (wpAny_pure ⟨rfl, rfl, hnext hkk⟩))
      · rw [if_neg hh]
        refine wpAny_pure ⟨rfl, rfl, hnext ?_⟩
        intro hkk
        rw [hhash, hkk] at hh; simp at hh
    · rintro b s' ⟨rfl, rfl, i, hr, hi, hno⟩
      have hall : ∀ j, i ≤ j → j < es.size → ((es[j]?.map (·.hash)) == some (k.hash w)) = false := by
        intro j h1 h2
        have := List.filter_eq_nil_iff.mp hr.symm j (List.mem_range'_1.mpr ⟨h1, by omega⟩)
        simpa using this
      refine wpAny_pure (hnone (nomem fun j hj => ?_))
      rcases Nat.lt_or_ge j i with h | h
      · exact hno j hj h
      · exact nokey j hj (hall j h hj)
  have noref : ∀ a, key = .ref a → ¬ (es.any fun e => e.key == Value.ref a && e.hash != k.hash w) = true := by
    rintro a rfl
    rw [← Array.any_toList, List.any_eq_true]
    rintro ⟨e, hin, hc⟩
    obtain ⟨j, hj, rfl⟩ := Array.mem_iff_getElem.mp (Array.mem_toList_iff.mp hin)
    obtain ⟨k', ek', hhash, hkey', _⟩ := hk.at_ j hj
    simp only [Bool.and_eq_true, beq_iff_eq, bne_iff_ne, ne_eq] at hc
    obtain ⟨hxa, hne⟩ := hc
    rw [hxa] at hkey'
    rw [NestedIs.inj _ _ _ hkey' hkey] at hhash
    exact hne hhash
  cases hkey with
  | none =>
    have hkey : NestedIs s.heap .none .none := .none
    dsimp only
    by_cases hall : ((Value.none :: (placesWithHash es.size (fun i => es[i]?.map (·.hash)) (NestedKey.none.hash w)).filterMap (fun i => es[i]?.map (·.key))).all carriedByValue) = true
    · rw [if_pos hall]; exact plain
    · rw [if_neg hall]
      by_cases hone : (((placesWithHash es.size (fun i => es[i]?.map (·.hash)) (NestedKey.hash w NestedKey.none)).filterMap (fun i => es[i]?.map (·.key))) == [Value.none]) = true <;>
      (first | rw [if_pos hone] | rw [if_neg hone]) <;> (first | refine wpAny_bind (wpAny_pure ?_) | refine wpAny_bind (tells_N hkey hkd hst ?_)) <;> (
        rw [if_neg (by simp)]
        refine wpAny_bind ?_
        refine wpAny_forIn_list _
          (fun rest b s' => s' = s ∧ ∃ i hit, b = (none, hit) ∧ rest = (List.range' i (es.size - i)).filter (fun i => (es[i]?.map (·.hash)) == some (NestedKey.hash w NestedKey.none)) ∧ i ≤ es.size ∧
            ((hit = none ∧ ∀ j, j < i → ks[j]? ≠ some NestedKey.none) ∨ ∃ j, hit = some j ∧ j < i ∧ ks[j]? = some NestedKey.none)) _ ?_ ?_ _ _
          ⟨rfl, 0, none, rfl, by rw [placesWithHash, List.range_eq_range', Nat.sub_zero], Nat.zero_le _, .inl ⟨rfl, fun _ h => absurd h (Nat.not_lt_zero _)⟩⟩
        · rintro x rest b s' ⟨rfl, i, hit, rfl, hr, hi, hH⟩
          obtain ⟨hix, hxn, hpx, hskip, hrest⟩ := filter_range'_cons _ _ _ _ _ hr.symm
          have hlt : x < es.size := by omega
          have hrest' : rest = (List.range' (x + 1) (es.size - (x + 1))).filter (fun i => (es[i]?.map (·.hash)) == some (NestedKey.hash w NestedKey.none)) := by rw [hrest]; congr 2; omega
          obtain ⟨k', ek', hhash, hkey', hkd'⟩ := hk.at_ x hlt
          have hHx : (hit = none ∧ ∀ j, j < x → ks[j]? ≠ some NestedKey.none) ∨ ∃ j, hit = some j ∧ j < x ∧ ks[j]? = some NestedKey.none := by
            rcases hH with ⟨h0, hno⟩ | ⟨j, h1, hji, hj⟩
            · refine .inl ⟨h0, fun j hjx hj => ?_⟩
              rcases Nat.lt_or_ge j i with h | h
              · exact hno j h hj
              · exact nokey j (by omega) (hskip j h hjx) hj
            · exact .inr ⟨j, h1, by omega, hj⟩
          have hstay : ¬ k' = NestedKey.none → ((hit = none ∧ ∀ j, j < x + 1 → ks[j]? ≠ some NestedKey.none) ∨ ∃ j, hit = some j ∧ j < x + 1 ∧ ks[j]? = some NestedKey.none) := by
            intro hne
            rcases hHx with ⟨h0, hno⟩ | ⟨j, h1, hjx, hj⟩
            · refine .inl ⟨h0, fun j hjx hj => ?_⟩
              rcases Nat.lt_or_ge j x with h | h
              · exact hno j h hj
              · have hjx' : j = x := by omega
                subst hjx'
                rw [ek'] at hj
                exact hne (Option.some.inj hj)
            · exact .inr ⟨j, h1, by omega, hj⟩
          rw [Array.getElem?_eq_getElem hlt]
          dsimp only
          by_cases hh : (es[x].hash == NestedKey.hash w NestedKey.none) = true
          · rw [if_pos hh]
            refine wpAny_bind (wpAny_dictEpoch ho hd (wpAny_bind (eqB_N hu hkey' hkey hkd' (wpAny_bind (wpAny_dictEpoch ho hd ?_)))))
            show wpAny _ _ (if (ep != ep) = true then _ else _) _ E _
            rw [if_neg (by simp)]
            by_cases hkk : k' = NestedKey.none
            · rw [decide_eq_true hkk]
              subst hkk
              rcases hHx with ⟨rfl, _⟩ | ⟨j, _, hjx, hj⟩
              · first | rw [if_pos rfl] | skip
                simp only [Option.isSome_none, Bool.false_eq_true, if_false]
                first | refine wpAny_bind (wpAny_pure ?_) | skip
                refine wpAny_bind (wpAny_rule ?_)
                split
                · exact wpAny_pure (wpAny_pure (hsome x ek'))
                · exact wpAny_pure ⟨rfl, x + 1, some x, rfl, hrest', hlt, .inr ⟨x, rfl, Nat.lt_succ_self x, ek'⟩⟩
              · exact absurd (uniq hj ek') (by omega)
            · rw [decide_eq_false hkk]
              simp only [Bool.false_eq_true, if_false]
              refine wpAny_bind (wpAny_rule ?_)
              first | rw [if_neg (by simp)] | skip
              first
                | exact wpAny_pure ⟨rfl, x + 1, hit, rfl, hrest', hlt, hstay hkk⟩
                | exact wpAny_bind (wpAny_pure (wpAny_pure ⟨rfl, x + 1, hit, rfl, hrest', hlt, hstay hkk⟩))
          · rw [if_neg hh]
            refine wpAny_pure ⟨rfl, x + 1, hit, rfl, hrest', hlt, hstay ?_⟩
            intro hkk
            rw [hhash, hkk] at hh; simp at hh
        · rintro b s' ⟨rfl, i, hit, rfl, hr, hi, hH⟩
          have hall : ∀ j, i ≤ j → j < es.size → ((es[j]?.map (·.hash)) == some (NestedKey.hash w NestedKey.none)) = false := by
            intro j h1 h2
            have := List.filter_eq_nil_iff.mp hr.symm j (List.mem_range'_1.mpr ⟨h1, by omega⟩)
            simpa using this
          rcases hH with ⟨rfl, hno⟩ | ⟨j, rfl, _, hj⟩
          · refine wpAny_pure (hnone (nomem fun j hj => ?_))
            rcases Nat.lt_or_ge j i with h | h
            · exact hno j h
            · exact nokey j hj (hall j h hj)
          · exact wpAny_pure (hsome j hj))
  | @bool b0 n0 e0 =>
    have hkey : NestedIs s.heap (.num n0) (.bool b0) := .bool e0
    dsimp only
    by_cases hall : ((Value.bool b0 :: (placesWithHash es.size (fun i => es[i]?.map (·.hash)) ((NestedKey.num n0).hash w)).filterMap (fun i => es[i]?.map (·.key))).all carriedByValue) = true
    · rw [if_pos hall]; exact plain
    · rw [if_neg hall]
      by_cases hone : (((placesWithHash es.size (fun i => es[i]?.map (·.hash)) (NestedKey.hash w (NestedKey.num n0))).filterMap (fun i => es[i]?.map (·.key))) == [(Value.bool b0)]) = true <;>
      (first | rw [if_pos hone] | rw [if_neg hone]) <;> (first | refine wpAny_bind (wpAny_pure ?_) | refine wpAny_bind (tells_N hkey hkd hst ?_)) <;> (
        rw [if_neg (by simp)]
        refine wpAny_bind ?_
        refine wpAny_forIn_list _
          (fun rest b s' => s' = s ∧ ∃ i hit, b = (none, hit) ∧ rest = (List.range' i (es.size - i)).filter (fun i => (es[i]?.map (·.hash)) == some (NestedKey.hash w (NestedKey.num n0))) ∧ i ≤ es.size ∧
            ((hit = none ∧ ∀ j, j < i → ks[j]? ≠ some (NestedKey.num n0)) ∨ ∃ j, hit = some j ∧ j < i ∧ ks[j]? = some (NestedKey.num n0))) _ ?_ ?_ _ _
          ⟨rfl, 0, none, rfl, by rw [placesWithHash, List.range_eq_range', Nat.sub_zero], Nat.zero_le _, .inl ⟨rfl, fun _ h => absurd h (Nat.not_lt_zero _)⟩⟩
        · rintro x rest b s' ⟨rfl, i, hit, rfl, hr, hi, hH⟩
          obtain ⟨hix, hxn, hpx, hskip, hrest⟩ := filter_range'_cons _ _ _ _ _ hr.symm
          have hlt : x < es.size := by omega
          have hrest' : rest = (List.range' (x + 1) (es.size - (x + 1))).filter (fun i => (es[i]?.map (·.hash)) == some (NestedKey.hash w (NestedKey.num n0))) := by rw [hrest]; congr 2; omega
          obtain ⟨k', ek', hhash, hkey', hkd'⟩ := hk.at_ x hlt
          have hHx : (hit = none ∧ ∀ j, j < x → ks[j]? ≠ some (NestedKey.num n0)) ∨ ∃ j, hit = some j ∧ j < x ∧ ks[j]? = some (NestedKey.num n0) := by
            rcases hH with ⟨h0, hno⟩ | ⟨j, h1, hji, hj⟩
            · refine .inl ⟨h0, fun j hjx hj => ?_⟩
              rcases Nat.lt_or_ge j i with h | h
              · exact hno j h hj
              · exact nokey j (by omega) (hskip j h hjx) hj
            · exact .inr ⟨j, h1, by omega, hj⟩
          have hstay : ¬ k' = (NestedKey.num n0) → ((hit = none ∧ ∀ j, j < x + 1 → ks[j]? ≠ some (NestedKey.num n0)) ∨ ∃ j, hit = some j ∧ j < x + 1 ∧ ks[j]? = some (NestedKey.num n0)) := by
            intro hne
            rcases hHx with ⟨h0, hno⟩ | ⟨j, h1, hjx, hj⟩
            · refine .inl ⟨h0, fun j hjx hj => ?_⟩
              rcases Nat.lt_or_ge j x with h | h
              · exact hno j h hj
              · have hjx' : j = x := by omega
                subst hjx'
                rw [ek'] at hj
                exact hne (Option.some.inj hj)
            · exact .inr ⟨j, h1, by omega, hj⟩
          rw [Array.getElem?_eq_getElem hlt]
          dsimp only
          by_cases hh : (es[x].hash == NestedKey.hash w (NestedKey.num n0)) = true
          · rw [if_pos hh]
            refine wpAny_bind (wpAny_dictEpoch ho hd (wpAny_bind (eqB_N hu hkey' hkey hkd' (wpAny_bind (wpAny_dictEpoch ho hd ?_)))))
            show wpAny _ _ (if (ep != ep) = true then _ else _) _ E _
            rw [if_neg (by simp)]
            by_cases hkk : k' = (NestedKey.num n0)
            · rw [decide_eq_true hkk]
              subst hkk
              rcases hHx with ⟨rfl, _⟩ | ⟨j, _, hjx, hj⟩
              · first | rw [if_pos rfl] | skip
                simp only [Option.isSome_none, Bool.false_eq_true, if_false]
                first | refine wpAny_bind (wpAny_pure ?_) | skip
                refine wpAny_bind (wpAny_rule ?_)
                split
                · exact wpAny_pure (wpAny_pure (hsome x ek'))
                · exact wpAny_pure ⟨rfl, x + 1, some x, rfl, hrest', hlt, .inr ⟨x, rfl, Nat.lt_succ_self x, ek'⟩⟩
              · exact absurd (uniq hj ek') (by omega)
            · rw [decide_eq_false hkk]
              simp only [Bool.false_eq_true, if_false]
              refine wpAny_bind (wpAny_rule ?_)
              first | rw [if_neg (by simp)] | skip
              first
                | exact wpAny_pure ⟨rfl, x + 1, hit, rfl, hrest', hlt, hstay hkk⟩
                | exact wpAny_bind (wpAny_pure (wpAny_pure ⟨rfl, x + 1, hit, rfl, hrest', hlt, hstay hkk⟩))
          · rw [if_neg hh]
            refine wpAny_pure ⟨rfl, x + 1, hit, rfl, hrest', hlt, hstay ?_⟩
            intro hkk
            rw [hhash, hkk] at hh; simp at hh
        · rintro b s' ⟨rfl, i, hit, rfl, hr, hi, hH⟩
          have hall : ∀ j, i ≤ j → j < es.size → ((es[j]?.map (·.hash)) == some (NestedKey.hash w (NestedKey.num n0))) = false := by
            intro j h1 h2
            have := List.filter_eq_nil_iff.mp hr.symm j (List.mem_range'_1.mpr ⟨h1, by omega⟩)
            simpa using this
          rcases hH with ⟨rfl, hno⟩ | ⟨j, rfl, _, hj⟩
          · refine wpAny_pure (hnone (nomem fun j hj => ?_))
            rcases Nat.lt_or_ge j i with h | h
            · exact hno j h
            · exact nokey j hj (hall j h hj)
          · exact wpAny_pure (hsome j hj))
  | int n0 t0 =>
    have hkey : NestedIs s.heap (.num n0) (.int n0 t0) := .int n0 t0
    dsimp only
    by_cases hall : ((Value.int n0 t0 :: (placesWithHash es.size (fun i => es[i]?.map (·.hash)) ((NestedKey.num n0).hash w)).filterMap (fun i => es[i]?.map (·.key))).all carriedByValue) = true
    · rw [if_pos hall]; exact plain
    · rw [if_neg hall]
      by_cases hone : (((placesWithHash es.size (fun i => es[i]?.map (·.hash)) (NestedKey.hash w (NestedKey.num n0))).filterMap (fun i => es[i]?.map (·.key))) == [(Value.int n0 t0)]) = true <;>
      (first | rw [if_pos hone] | rw [if_neg hone]) <;> (first | refine wpAny_bind (wpAny_pure ?_) | refine wpAny_bind (tells_N hkey hkd hst ?_)) <;> (
        rw [if_neg (by simp)]
        refine wpAny_bind ?_
        refine wpAny_forIn_list _
          (fun rest b s' => s' = s ∧ ∃ i hit, b = (none, hit) ∧ rest = (List.range' i (es.size - i)).filter (fun i => (es[i]?.map (·.hash)) == some (NestedKey.hash w (NestedKey.num n0))) ∧ i ≤ es.size ∧
            ((hit = none ∧ ∀ j, j < i → ks[j]? ≠ some (NestedKey.num n0)) ∨ ∃ j, hit = some j ∧ j < i ∧ ks[j]? = some (NestedKey.num n0))) _ ?_ ?_ _ _
          ⟨rfl, 0, none, rfl, by rw [placesWithHash, List.range_eq_range', Nat.sub_zero], Nat.zero_le _, .inl ⟨rfl, fun _ h => absurd h (Nat.not_lt_zero _)⟩⟩
        · rintro x rest b s' ⟨rfl, i, hit, rfl, hr, hi, hH⟩
          obtain ⟨hix, hxn, hpx, hskip, hrest⟩ := filter_range'_cons _ _ _ _ _ hr.symm
          have hlt : x < es.size := by omega
          have hrest' : rest = (List.range' (x + 1) (es.size - (x + 1))).filter (fun i => (es[i]?.map (·.hash)) == some (NestedKey.hash w (NestedKey.num n0))) := by rw [hrest]; congr 2; omega
          obtain ⟨k', ek', hhash, hkey', hkd'⟩ := hk.at_ x hlt
          have hHx : (hit = none ∧ ∀ j, j < x → ks[j]? ≠ some (NestedKey.num n0)) ∨ ∃ j, hit = some j ∧ j < x ∧ ks[j]? = some (NestedKey.num n0) := by
            rcases hH with ⟨h0, hno⟩ | ⟨j, h1, hji, hj⟩
            · refine .inl ⟨h0, fun j hjx hj => ?_⟩
              rcases Nat.lt_or_ge j i with h | h
              · exact hno j h hj
              · exact nokey j (by omega) (hskip j h hjx) hj
            · exact .inr ⟨j, h1, by omega, hj⟩
          have hstay : ¬ k' = (NestedKey.num n0) → ((hit = none ∧ ∀ j, j < x + 1 → ks[j]? ≠ some (NestedKey.num n0)) ∨ ∃ j, hit = some j ∧ j < x + 1 ∧ ks[j]? = some (NestedKey.num n0)) := by
            intro hne
            rcases hHx with ⟨h0, hno⟩ | ⟨j, h1, hjx, hj⟩
            · refine .inl ⟨h0, fun j hjx hj => ?_⟩
              rcases Nat.lt_or_ge j x with h | h
              · exact hno j h hj
              · have hjx' : j = x := by omega
                subst hjx'
                rw [ek'] at hj
                exact hne (Option.some.inj hj)
            · exact .inr ⟨j, h1, by omega, hj⟩
          rw [Array.getElem?_eq_getElem hlt]
          dsimp only
          by_cases hh : (es[x].hash == NestedKey.hash w (NestedKey.num n0)) = true
          · rw [if_pos hh]
            refine wpAny_bind (wpAny_dictEpoch ho hd (wpAny_bind (eqB_N hu hkey' hkey hkd' (wpAny_bind (wpAny_dictEpoch ho hd ?_)))))
            show wpAny _ _ (if (ep != ep) = true then _ else _) _ E _
            rw [if_neg (by simp)]
            by_cases hkk : k' = (NestedKey.num n0)
            · rw [decide_eq_true hkk]
              subst hkk
              rcases hHx with ⟨rfl, _⟩ | ⟨j, _, hjx, hj⟩
              · first | rw [if_pos rfl] | skip
                simp only [Option.isSome_none, Bool.false_eq_true, if_false]
                first | refine wpAny_bind (wpAny_pure ?_) | skip
                refine wpAny_bind (wpAny_rule ?_)
                split
                · exact wpAny_pure (wpAny_pure (hsome x ek'))
                · exact wpAny_pure ⟨rfl, x + 1, some x, rfl, hrest', hlt, .inr ⟨x, rfl, Nat.lt_succ_self x, ek'⟩⟩
              · exact absurd (uniq hj ek') (by omega)
            · rw [decide_eq_false hkk]
              simp only [Bool.false_eq_true, if_false]
              refine wpAny_bind (wpAny_rule ?_)
              first | rw [if_neg (by simp)] | skip
              first
                | exact wpAny_pure ⟨rfl, x + 1, hit, rfl, hrest', hlt, hstay hkk⟩
                | exact wpAny_bind (wpAny_pure (wpAny_pure ⟨rfl, x + 1, hit, rfl, hrest', hlt, hstay hkk⟩))
          · rw [if_neg hh]
            refine wpAny_pure ⟨rfl, x + 1, hit, rfl, hrest', hlt, hstay ?_⟩
            intro hkk
            rw [hhash, hkk] at hh; simp at hh
        · rintro b s' ⟨rfl, i, hit, rfl, hr, hi, hH⟩
          have hall : ∀ j, i ≤ j → j < es.size → ((es[j]?.map (·.hash)) == some (NestedKey.hash w (NestedKey.num n0))) = false := by
            intro j h1 h2
            have := List.filter_eq_nil_iff.mp hr.symm j (List.mem_range'_1.mpr ⟨h1, by omega⟩)
            simpa using this
          rcases hH with ⟨rfl, hno⟩ | ⟨j, rfl, _, hj⟩
          · refine wpAny_pure (hnone (nomem fun j hj => ?_))
            rcases Nat.lt_or_ge j i with h | h
            · exact hno j h
            · exact nokey j hj (hall j h hj)
          · exact wpAny_pure (hsome j hj))
  | text x0 t0 =>
    have hkey : NestedIs s.heap (.text x0) (.str x0 t0) := .text x0 t0
    dsimp only
    by_cases hs : (es.all fun e => isExactStrKey e.key) = true
    · rw [if_pos hs]
      unfold foundByValue
      cases hf : es.findIdx? (fun e => e.key.isStr x0) with
      | none =>
        refine wpAny_pure (hnone (nomem fun j hj e => ?_))
        have q := Array.findIdx?_eq_none_iff.mp hf es[j] (Array.getElem_mem hj)
        obtain ⟨k', e1, _, z, _⟩ := hk.at_ j hj
        rw [e] at e1; cases e1
        rw [isStr_key z] at q
        simp at q
      | some i =>
        obtain ⟨hlt, hi, _⟩ := Array.findIdx?_eq_some_iff_getElem.mp hf
        obtain ⟨k', e1, _, z, zd⟩ := hk.at_ i hlt
        rw [isStr_key z] at hi
        have ek : k' = .text x0 := of_decide_eq_true hi
        subst ek
        simp only [Array.getElem?_eq_getElem hlt]
        refine wpAny_bind (wpAny_dictEpoch ho hd (wpAny_bind (eqB_N hu z hkey zd (wpAny_bind (wpAny_dictEpoch ho hd ?_)))))
        show wpAny _ _ (if (ep != ep) = true then _ else _) _ E _
        rw [if_neg (by simp), decide_eq_true rfl]
        exact wpAny_bind (wpAny_rule (wpAny_pure (hsome i e1)))
    · rw [if_neg hs]
      by_cases hall : ((Value.str x0 t0 :: (placesWithHash es.size (fun i => es[i]?.map (·.hash)) ((NestedKey.text x0).hash w)).filterMap (fun i => es[i]?.map (·.key))).all carriedByValue) = true
      · rw [if_pos hall]; exact plain
      · rw [if_neg hall]
        by_cases hone : (((placesWithHash es.size (fun i => es[i]?.map (·.hash)) (NestedKey.hash w (NestedKey.text x0))).filterMap (fun i => es[i]?.map (·.key))) == [(Value.str x0 t0)]) = true <;>
        (first | rw [if_pos hone] | rw [if_neg hone]) <;> (first | refine wpAny_bind (wpAny_pure ?_) | refine wpAny_bind (tells_N hkey hkd hst ?_)) <;> (
          rw [if_neg (by simp)]
          refine wpAny_bind ?_
          refine wpAny_forIn_list _
            (fun rest b s' => s' = s ∧ ∃ i hit, b = (none, hit) ∧ rest = (List.range' i (es.size - i)).filter (fun i => (es[i]?.map (·.hash)) == some (NestedKey.hash w (NestedKey.text x0))) ∧ i ≤ es.size ∧
              ((hit = none ∧ ∀ j, j < i → ks[j]? ≠ some (NestedKey.text x0)) ∨ ∃ j, hit = some j ∧ j < i ∧ ks[j]? = some (NestedKey.text x0))) _ ?_ ?_ _ _
            ⟨rfl, 0, none, rfl, by rw [placesWithHash, List.range_eq_range', Nat.sub_zero], Nat.zero_le _, .inl ⟨rfl, fun _ h => absurd h (Nat.not_lt_zero _)⟩⟩
          · rintro x rest b s' ⟨rfl, i, hit, rfl, hr, hi, hH⟩
            obtain ⟨hix, hxn, hpx, hskip, hrest⟩ := filter_range'_cons _ _ _ _ _ hr.symm
            have hlt : x < es.size := by omega
            have hrest' : rest = (List.range' (x + 1) (es.size - (x + 1))).filter (fun i => (es[i]?.map (·.hash)) == some (NestedKey.hash w (NestedKey.text x0))) := by rw [hrest]; congr 2; omega
            obtain ⟨k', ek', hhash, hkey', hkd'⟩ := hk.at_ x hlt
            have hHx : (hit = none ∧ ∀ j, j < x → ks[j]? ≠ some (NestedKey.text x0)) ∨ ∃ j, hit = some j ∧ j < x ∧ ks[j]? = some (NestedKey.text x0) := by
              rcases hH with ⟨h0, hno⟩ | ⟨j, h1, hji, hj⟩
              · refine .inl ⟨h0, fun j hjx hj => ?_⟩
                rcases Nat.lt_or_ge j i with h | h
                · exact hno j h hj
                · exact nokey j (by omega) (hskip j h hjx) hj
              · exact .inr ⟨j, h1, by omega, hj⟩
            have hstay : ¬ k' = (NestedKey.text x0) → ((hit = none ∧ ∀ j, j < x + 1 → ks[j]? ≠ some (NestedKey.text x0)) ∨ ∃ j, hit = some j ∧ j < x + 1 ∧ ks[j]? = some (NestedKey.text x0)) := by
              intro hne
              rcases hHx with ⟨h0, hno⟩ | ⟨j, h1, hjx, hj⟩
              · refine .inl ⟨h0, fun j hjx hj => ?_⟩
                rcases Nat.lt_or_ge j x with h | h
                · exact hno j h hj
                · have hjx' : j = x := by omega
                  subst hjx'
                  rw [ek'] at hj
                  exact hne (Option.some.inj hj)
              · exact .inr ⟨j, h1, by omega, hj⟩
            rw [Array.getElem?_eq_getElem hlt]
            dsimp only
            by_cases hh : (es[x].hash == NestedKey.hash w (NestedKey.text x0)) = true
            · rw [if_pos hh]
              refine wpAny_bind (wpAny_dictEpoch ho hd (wpAny_bind (eqB_N hu hkey' hkey hkd' (wpAny_bind (wpAny_dictEpoch ho hd ?_)))))
              show wpAny _ _ (if (ep != ep) = true then _ else _) _ E _
              rw [if_neg (by simp)]
              by_cases hkk : k' = (NestedKey.text x0)
              · rw [decide_eq_true hkk]
                subst hkk
                rcases hHx with ⟨rfl, _⟩ | ⟨j, _, hjx, hj⟩
                · first | rw [if_pos rfl] | skip
                  simp only [Option.isSome_none, Bool.false_eq_true, if_false]
                  first | refine wpAny_bind (wpAny_pure ?_) | skip
                  refine wpAny_bind (wpAny_rule ?_)
                  split
                  · exact wpAny_pure (wpAny_pure (hsome x ek'))
                  · exact wpAny_pure ⟨rfl, x + 1, some x, rfl, hrest', hlt, .inr ⟨x, rfl, Nat.lt_succ_self x, ek'⟩⟩
                · exact absurd (uniq hj ek') (by omega)
              · rw [decide_eq_false hkk]
                simp only [Bool.false_eq_true, if_false]
                refine wpAny_bind (wpAny_rule ?_)
                first | rw [if_neg (by simp)] | skip
                first
                  | exact wpAny_pure ⟨rfl, x + 1, hit, rfl, hrest', hlt, hstay hkk⟩
                  | exact wpAny_bind (wpAny_pure (wpAny_pure ⟨rfl, x + 1, hit, rfl, hrest', hlt, hstay hkk⟩))
            · rw [if_neg hh]
              refine wpAny_pure ⟨rfl, x + 1, hit, rfl, hrest', hlt, hstay ?_⟩
              intro hkk
              rw [hhash, hkk] at hh; simp at hh
          · rintro b s' ⟨rfl, i, hit, rfl, hr, hi, hH⟩
            have hall : ∀ j, i ≤ j → j < es.size → ((es[j]?.map (·.hash)) == some (NestedKey.hash w (NestedKey.text x0))) = false := by
              intro j h1 h2
              have := List.filter_eq_nil_iff.mp hr.symm j (List.mem_range'_1.mpr ⟨h1, by omega⟩)
              simpa using this
            rcases hH with ⟨rfl, hno⟩ | ⟨j, rfl, _, hj⟩
            · refine wpAny_pure (hnone (nomem fun j hj => ?_))
              rcases Nat.lt_or_ge j i with h | h
              · exact hno j h
              · exact nokey j hj (hall j h hj)
            · exact wpAny_pure (hsome j hj))
  | @tup a0 oa0 vs0 n0 l0 g1 g2 g3 g4 =>
    have hkey : NestedIs s.heap (.tup l0) (.ref a0) := .tup g1 g2 g3 g4
    dsimp only
    rw [if_neg (show ¬ ((Value.ref a0 :: (placesWithHash es.size (fun i => es[i]?.map (·.hash)) ((NestedKey.tup l0).hash w)).filterMap (fun i => es[i]?.map (·.key))).all carriedByValue) = true by simp [carriedByValue])]
    rw [if_neg (noref a0 rfl)]
    by_cases hone : (((placesWithHash es.size (fun i => es[i]?.map (·.hash)) (NestedKey.hash w (NestedKey.tup l0))).filterMap (fun i => es[i]?.map (·.key))) == [(Value.ref a0)]) = true <;>
    (first | rw [if_pos hone] | rw [if_neg hone]) <;> (first | refine wpAny_bind (wpAny_pure ?_) | refine wpAny_bind (tells_N hkey hkd hst ?_)) <;> (
      rw [if_neg (by simp)]
      refine wpAny_bind ?_
      refine wpAny_forIn_list _
        (fun rest b s' => s' = s ∧ ∃ i hit, b = (none, hit) ∧ rest = (List.range' i (es.size - i)).filter (fun i => (es[i]?.map (·.hash)) == some (NestedKey.hash w (NestedKey.tup l0))) ∧ i ≤ es.size ∧
          ((hit = none ∧ ∀ j, j < i → ks[j]? ≠ some (NestedKey.tup l0)) ∨ ∃ j, hit = some j ∧ j < i ∧ ks[j]? = some (NestedKey.tup l0))) _ ?_ ?_ _ _
        ⟨rfl, 0, none, rfl, by rw [placesWithHash, List.range_eq_range', Nat.sub_zero], Nat.zero_le _, .inl ⟨rfl, fun _ h => absurd h (Nat.not_lt_zero _)⟩⟩
      · rintro x rest b s' ⟨rfl, i, hit, rfl, hr, hi, hH⟩
        obtain ⟨hix, hxn, hpx, hskip, hrest⟩ := filter_range'_cons _ _ _ _ _ hr.symm
        have hlt : x < es.size := by omega
        have hrest' : rest = (List.range' (x + 1) (es.size - (x + 1))).filter (fun i => (es[i]?.map (·.hash)) == some (NestedKey.hash w (NestedKey.tup l0))) := by rw [hrest]; congr 2; omega
        obtain ⟨k', ek', hhash, hkey', hkd'⟩ := hk.at_ x hlt
        have hHx : (hit = none ∧ ∀ j, j < x → ks[j]? ≠ some (NestedKey.tup l0)) ∨ ∃ j, hit = some j ∧ j < x ∧ ks[j]? = some (NestedKey.tup l0) := by
          rcases hH with ⟨h0, hno⟩ | ⟨j, h1, hji, hj⟩
          · refine .inl ⟨h0, fun j hjx hj => ?_⟩
            rcases Nat.lt_or_ge j i with h | h
            · exact hno j h hj
            · exact nokey j (by omega) (hskip j h hjx) hj
          · exact .inr ⟨j, h1, by omega, hj⟩
        have hstay : ¬ k' = (NestedKey.tup l0) → ((hit = none ∧ ∀ j, j < x + 1 → ks[j]? ≠ some (NestedKey.tup l0)) ∨ ∃ j, hit = some j ∧ j < x + 1 ∧ ks[j]? = some (NestedKey.tup l0)) := by
          intro hne
          rcases hHx with ⟨h0, hno⟩ | ⟨j, h1, hjx, hj⟩
          · refine .inl ⟨h0, fun j hjx hj => ?_⟩
            rcases Nat.lt_or_ge j x with h | h
            · exact hno j h hj
            · have hjx' : j = x := by omega
              subst hjx'
              rw [ek'] at hj
              exact hne (Option.some.inj hj)
          · exact .inr ⟨j, h1, by omega, hj⟩
        rw [Array.getElem?_eq_getElem hlt]
        dsimp only
        by_cases hh : (es[x].hash == NestedKey.hash w (NestedKey.tup l0)) = true
        · rw [if_pos hh]
          refine wpAny_bind (wpAny_dictEpoch ho hd (wpAny_bind (eqB_N hu hkey' hkey hkd' (wpAny_bind (wpAny_dictEpoch ho hd ?_)))))
          show wpAny _ _ (if (ep != ep) = true then _ else _) _ E _
          rw [if_neg (by simp)]
          by_cases hkk : k' = (NestedKey.tup l0)
          · rw [decide_eq_true hkk]
            subst hkk
            rcases hHx with ⟨rfl, _⟩ | ⟨j, _, hjx, hj⟩
            · first | rw [if_pos rfl] | skip
              simp only [Option.isSome_none, Bool.false_eq_true, if_false]
              first | refine wpAny_bind (wpAny_pure ?_) | skip
              refine wpAny_bind (wpAny_rule ?_)
              split
              · exact wpAny_pure (wpAny_pure (hsome x ek'))
              · exact wpAny_pure ⟨rfl, x + 1, some x, rfl, hrest', hlt, .inr ⟨x, rfl, Nat.lt_succ_self x, ek'⟩⟩
            · exact absurd (uniq hj ek') (by omega)
          · rw [decide_eq_false hkk]
            simp only [Bool.false_eq_true, if_false]
            refine wpAny_bind (wpAny_rule ?_)
            first | rw [if_neg (by simp)] | skip
            first
              | exact wpAny_pure ⟨rfl, x + 1, hit, rfl, hrest', hlt, hstay hkk⟩
              | exact wpAny_bind (wpAny_pure (wpAny_pure ⟨rfl, x + 1, hit, rfl, hrest', hlt, hstay hkk⟩))
        · rw [if_neg hh]
          refine wpAny_pure ⟨rfl, x + 1, hit, rfl, hrest', hlt, hstay ?_⟩
          intro hkk
          rw [hhash, hkk] at hh; simp at hh
      · rintro b s' ⟨rfl, i, hit, rfl, hr, hi, hH⟩
        have hall : ∀ j, i ≤ j → j < es.size → ((es[j]?.map (·.hash)) == some (NestedKey.hash w (NestedKey.tup l0))) = false := by
          intro j h1 h2
          have := List.filter_eq_nil_iff.mp hr.symm j (List.mem_range'_1.mpr ⟨h1, by omega⟩)
          simpa using this
        rcases hH with ⟨rfl, hno⟩ | ⟨j, rfl, _, hj⟩
        · refine wpAny_pure (hnone (nomem fun j hj => ?_))
          rcases Nat.lt_or_ge j i with h | h
          · exact hno j h
          · exact nokey j hj (hall j h hj)
        · exact wpAny_pure (hsome j hj))
end
end HQ
/-! HQP: dicts: read, asked, written. -/
namespace HQ
open PySem PySem.Spec PyProof.Rows L2

section
variable {prog : Program} {w : World} {A : Around} {E : Value → Shared → Prop} {s : Shared} {d : Addr} {key : Value} {o : Obj} {es : Array DictEntry} {ep : Nat} {k : NestedKey} {ks : List NestedKey}
theorem dictGet_N {Q : Option Value → Shared → Prop} (hu : A.units + 8 < cLine) (hkey : NestedIs s.heap k key) (hkd : k.depth ≤ 8) (ho : s.heap.get? d = some o) (hd : o.data = .dict es ep) (hk : DN w s.heap ks es)
    (hnone : k ∉ ks → Q none { s with toks := s.toks + k.draws }) (hsome : ∀ (j : Nat) (e : DictEntry), ks[j]? = some k → es[j]? = some e → Q (some e.val) { s with toks := s.toks + k.draws }) : wpAny (model prog w) A (dictGet d key) Q E s := by
  unfold dictGet
  try with_reducible refine wpAny_holding ?_
  refine wpAny_bind (pyHash_key k key A s _ hkey (by omega) (wpAny_bind (find_N (s := { s with toks := s.toks + k.draws }) hu hkey hkd ho hd hk ?_ ?_)))
  · exact fun hn => wpAny_pure (hnone hn)
  · intro j hj
    have hl : j < es.size := by rw [← hk.len]; exact (List.getElem?_eq_some_iff.mp hj).1
    refine wpAny_bind (wpAny_dictEntries (s := { s with toks := s.toks + k.draws }) ho hd ?_)
    rw [Array.getElem?_eq_getElem hl]
    exact wpAny_pure (hsome j _ hj (Array.getElem?_eq_getElem hl))
theorem dic_type (ho : s.heap.get? d = some o) (hx : o.ExactDict) : s.TypeIs (.ref d) "dict" := ⟨o, ho, hx.1⟩
theorem contains_N {Q : Bool → Shared → Prop} (hu : A.units + 9 < cLine) (hkey : NestedIs s.heap k key) (hkd : k.depth ≤ 8) (hds : (d == sysModules) = false) (ho : s.heap.get? d = some o) (hx : o.ExactDict) (hd : o.data = .dict es ep) (hk : DN w s.heap ks es)
    (h : Q (decide (k ∈ ks)) { s with toks := s.toks + k.draws }) : wpAny (model prog w) A (contains (.ref d) key) Q E s := by
  have ht := dic_type ho hx
  have hu1 : A.in1.units + 8 < cLine := by simp only [Around.in1_units]; omega
  unfold contains
  try with_reducible refine wpAny_holding ?_
  refine wpAny_bind (wpAny_specialOf ht slot_dict_contains.lookup ?_)
  show wpAny _ _ (if (some (Value.builtin "dict.__contains__") == some Value.none) = true then _ else _) _ E s
  rw [if_neg (by rw [beq_builtin_none]; exact Bool.false_ne_true)]
  refine wpAny_bind (wpAny_callSpecialUnlessNone?_slot (name := Str.ofString "__contains__") ht slot_dict_contains
    (wpAny_call_entry slot_dict_contains ht entry_dict_contains ?_ (args_dict_contains _ _)))
  show wpAny _ _ (dictGet d key >>= _) _ _ s
  refine wpAny_bind (dictGet_N hu1 hkey hkd ho hd hk (fun hn => ?_) fun j e hj he => ?_)
  · rw [decide_eq_false hn] at h
    show wpAny _ _ (Builtin.Dict.pendingKey? d key >>= _) _ _ _
    exact wpAny_bind (wpAny_pendingKey_other hds (wpAny_pure ⟨_, rfl, wpAny_truthy_bool h⟩))
  · rw [decide_eq_true (List.mem_of_getElem? hj)] at h
    show wpAny _ _ (ret (.bool true)) _ _ _
    exact wpAny_pure ⟨_, rfl, wpAny_truthy_bool h⟩
theorem getItem_N {Q : Value → Shared → Prop} (hu : A.units + 9 < cLine) (hkey : NestedIs s.heap k key) (hkd : k.depth ≤ 8) (ho : s.heap.get? d = some o) (hx : o.ExactDict) (hd : o.data = .dict es ep) (hk : DN w s.heap ks es)
    (hm : k ∈ ks) (h : ∀ (j : Nat) (e : DictEntry), ks[j]? = some k → es[j]? = some e → Q e.val { s with toks := s.toks + k.draws }) : wpAny (model prog w) A (getItem (.ref d) key) Q E s := by
  have ht := dic_type ho hx
  have hu1 : A.in1.units + 8 < cLine := by simp only [Around.in1_units]; omega
  unfold getItem
  try with_reducible refine wpAny_holding ?_
  refine wpAny_bind (wpAny_sequenceKey ht (by decide) ?_)
  refine wpAny_bind (wpAny_callSpecial?_slot (name := Str.ofString "__getitem__") ht slot_dict_getitem
    (wpAny_call_entry slot_dict_getitem ht entry_dict_getitem ?_ (args_dict_getitem _ _)))
  show wpAny _ _ (dictGet d key >>= _) _ _ s
  refine wpAny_bind (dictGet_N hu1 hkey hkd ho hd hk (fun hn => absurd hm hn) fun j e hj he => ?_)
  exact wpAny_pure ⟨e.val, rfl, wpAny_pure (h j e hj he)⟩
/-- written: the value at j, or a new entry at the end -/
theorem dictSet_N {v : Value} {Q : Unit → Shared → Prop} (hu : A.units + 8 < cLine) (hkey : NestedIs s.heap k key) (hkd : k.depth ≤ 8) (ho : s.heap.get? d = some o) (hx : o.ExactDict) (hd : o.data = .dict es ep) (hk : DN w s.heap ks es)
    (hsz : es.size ≤ sizeLine)
    (hnew : k ∉ ks → ∀ h' o' ep', h'.get? d = some o' → o'.ExactDict → o'.data = .dict (es.push ⟨k.hash w, key, v⟩) ep' → Heap.SameBut d s.heap h' → Q () { s with heap := h', toks := s.toks + k.draws })
    (hold : ∀ (j : Nat), ks[j]? = some k → ∀ h' o' ep', h'.get? d = some o' → o'.ExactDict → o'.data = .dict (es.modify j fun e => { e with val := v }) ep' → Heap.SameBut d s.heap h' → Q () { s with heap := h', toks := s.toks + k.draws }) :
    wpAny (model prog w) A (dictSet d key v) Q E s := by
  unfold dictSet
  try with_reducible refine wpAny_holding ?_
  refine wpAny_bind (pyHash_key k key A s _ hkey (by omega) ?_)
  unfold dictSetHashed
  try with_reducible refine wpAny_holding ?_
  refine wpAny_bind (find_N (s := { s with toks := s.toks + k.draws }) hu hkey hkd ho hd hk ?_ ?_)
  · intro hn
    exact wpAny_bind (wpAny_rule (wpAny_updateDictKeys (hz := hsz) (s := { s with toks := s.toks + k.draws }) ho hd (hnew hn _ _ (ep + 1) (Heap.get?_update_self _ ho (Obj.isFreed_of_dict (Obj.data_mapDictKeys hd _))) (hx.mapDictKeys _) (Obj.data_mapDictKeys hd _) (Heap.SameBut.update ..))))
  · intro j hj
    exact wpAny_bind (wpAny_rule (wpAny_bind (wpAny_updateDict (s := { s with toks := s.toks + k.draws }) ho hd (wpAny_point (hold j hj _ _ ep (Heap.get?_update_self _ ho (Obj.isFreed_of_dict (Obj.data_mapDict hd _))) (hx.mapDict _) (Obj.data_mapDict hd _) (Heap.SameBut.update ..))))))
theorem setItem_N {v : Value} {Q : Unit → Shared → Prop} (hu : A.units + 9 < cLine) (hkey : NestedIs s.heap k key) (hkd : k.depth ≤ 8) (ho : s.heap.get? d = some o) (hx : o.ExactDict) (hd : o.data = .dict es ep) (hk : DN w s.heap ks es)
    (hsz : es.size ≤ sizeLine)
    (hnew : k ∉ ks → ∀ h' o' ep', h'.get? d = some o' → o'.ExactDict → o'.data = .dict (es.push ⟨k.hash w, key, v⟩) ep' → Heap.SameBut d s.heap h' → Q () { s with heap := h', toks := s.toks + k.draws })
    (hold : ∀ (j : Nat), ks[j]? = some k → ∀ h' o' ep', h'.get? d = some o' → o'.ExactDict → o'.data = .dict (es.modify j fun e => { e with val := v }) ep' → Heap.SameBut d s.heap h' → Q () { s with heap := h', toks := s.toks + k.draws }) :
    wpAny (model prog w) A (setItem (.ref d) key v) Q E s := by
  have ht := dic_type ho hx
  have hu1 : A.in1.units + 8 < cLine := by simp only [Around.in1_units]; omega
  unfold setItem
  try with_reducible refine wpAny_holding ?_
  refine wpAny_bind (wpAny_sequenceKey ht (by decide) ?_)
  refine wpAny_bind (wpAny_callSpecial?_slot (name := Str.ofString "__setitem__") ht slot_dict_setitem
    (wpAny_call_entry slot_dict_setitem ht entry_dict_setitem ?_ (args_dict_setitem _ _ _)))
  show wpAny _ _ (Builtin.Dict.notOrdered "__setitem__" ⟨[.ref d, key, v], []⟩ >>= _) _ _ s
  refine wpAny_bind (wpAny_notOrdered_dict ht ?_)
  show wpAny _ _ (dictSet d key v >>= _) _ _ s
  exact wpAny_bind (dictSet_N hu1 hkey hkd ho hx hd hk hsz (fun hn h' o' ep' a b c e => wpAny_pure ⟨.none, rfl, wpAny_pure (hnew hn h' o' ep' a b c e)⟩) fun j hj h' o' ep' a b c e => wpAny_pure ⟨.none, rfl, wpAny_pure (hold j hj h' o' ep' a b c e)⟩)
end
/-! ### keys as abstract values -/
mutual
inductive VKy (H : Hp) : NestedKey → V → Prop
  | non : VKy H .none .non
  | bl (b : Bool) : VKy H (.num (if b = true then 1 else 0)) (.bl b)
  | int (i : Int) : VKy H (.num i) (.int i)
  | str (x : Str) : VKy H (.text x) (.str x)
  | tup {a : Addr} {vs : List V} {ks : List NestedKey} : H a = some (.tup vs) → VKys H ks vs → VKy H (.tup ks) (.ref a)
inductive VKys (H : Hp) : List NestedKey → List V → Prop
  | nil : VKys H [] []
  | cons {k v ks vs} : VKy H k v → VKys H ks vs → VKys H (k :: ks) (v :: vs)
end
section
variable {D : Ad} {P : Program} {w : World} {F H : Hp} {h : Heap}
mutual
theorem RT.ky (hs : Same F H) : ∀ (n : Nat) (t : T) (k : NestedKey) (v : V), keyT n t = some k → RT D w F t v → VKy H k v ∧ k.depth ≤ n
  | n, .non, k, v, e, r => by
    simp only [keyT, Option.some.injEq] at e; subst e
    simp only [RT] at r; subst r
    exact ⟨.non, by simp [NestedKey.depth]⟩
  | n, .bl b, k, v, e, r => by
    simp only [keyT, Option.some.injEq] at e; subst e
    simp only [RT] at r; subst r
    exact ⟨.bl b, by simp [NestedKey.depth]⟩
  | n, .int i, k, v, e, r => by
    simp only [keyT, Option.some.injEq] at e; subst e
    simp only [RT] at r; subst r
    exact ⟨.int i, by simp [NestedKey.depth]⟩
  | n, .str x, k, v, e, r => by
    simp only [keyT, Option.some.injEq] at e; subst e
    simp only [RT] at r; subst r
    exact ⟨.str x, by simp [NestedKey.depth]⟩
  | 0, .tup ts, k, v, e, r => by simp [keyT] at e
  | n + 1, .tup ts, k, v, e, r => by
    simp only [keyT] at e
    cases q : keyTs n ts with
    | none => rw [q] at e; simp at e
    | some ks =>
      rw [q] at e
      simp only [Option.map_some, Option.some.injEq] at e; subst e
      simp only [RT] at r
      obtain ⟨a, vs, rfl, e, r⟩ := r
      obtain ⟨h1, h2⟩ := RTs.ky hs n ts ks vs q r
      exact ⟨.tup (hs _ _ e) h1, by simp only [NestedKey.depth]; omega⟩
  | n, .ty _, k, v, e, r => by simp [keyT] at e
  | n, .fn _, k, v, e, r => by simp [keyT] at e
  | n, .cls _, k, v, e, r => by simp [keyT] at e
  | n, .lst _, k, v, e, r => by simp [keyT] at e
  | n, .scr _, k, v, e, r => by simp [keyT] at e
  | n, .ptup _, k, v, e, r => by simp [keyT] at e
  | n, .dic _ _, k, v, e, r => by simp [keyT] at e
  | n, .ins _ _ _, k, v, e, r => by simp [keyT] at e
theorem RTs.ky (hs : Same F H) : ∀ (n : Nat) (ts : List T) (ks : List NestedKey) (vs : List V), keyTs n ts = some ks → RTs D w F ts vs → VKys H ks vs ∧ NestedKey.depthAll ks ≤ n
  | n, [], ks, vs, e, r => by
    simp only [keyTs, Option.some.injEq] at e; subst e
    simp only [RTs] at r; subst r
    exact ⟨.nil, by simp [NestedKey.depthAll]⟩
  | n, t :: ts, ks, vs, e, r => by
    simp only [keyTs] at e
    cases q1 : keyT n t with
    | none => rw [q1] at e; simp at e
    | some k =>
      cases q2 : keyTs n ts with
      | none => rw [q1, q2] at e; simp at e
      | some ks' =>
        rw [q1, q2] at e
        simp only [Option.some.injEq] at e; subst e
        simp only [RTs] at r
        obtain ⟨v, vs', rfl, r1, r2⟩ := r
        obtain ⟨a1, a2⟩ := RT.ky hs n t k v q1 r1
        obtain ⟨b1, b2⟩ := RTs.ky hs n ts ks' vs' q2 r2
        exact ⟨.cons a1 b1, by simp only [NestedKey.depthAll]; omega⟩
end
mutual
theorem VKy.is (hok : HOk P w H h) : ∀ (k : NestedKey) (v : V) (u : Value), VKy H k v → RelV v u → NestedIs h k u
  | .none, v, u, x, r => by
    cases x
    cases (show u = Value.none from r)
    exact .none
  | .num i, v, u, x, r => by
    cases x with
    | bl b => cases (show u = Value.bool b from r); exact .bool rfl
    | int i => obtain ⟨t, rfl⟩ : ∃ t, u = Value.int _ t := r; exact .int _ t
  | .text y, v, u, x, r => by
    cases x
    obtain ⟨t, rfl⟩ : ∃ t, u = Value.str _ t := r
    exact .text _ t
  | .tup ks, v, u, x, r => by
    cases x with
    | @tup a vs _ e xs =>
      cases (show u = Value.ref a from r)
      obtain ⟨_, its, rv, ⟨ob, e1, e2, n, e3⟩⟩ := hok a _ e
      exact .tup e1 e2 e3 (by simpa using VKys.is hok ks vs its xs rv)
theorem VKys.is (hok : HOk P w H h) : ∀ (ks : List NestedKey) (vs : List V) (us : List Value), VKys H ks vs → Vals vs us → NestedAll h ks us
  | [], vs, us, x, r => by cases x; cases r; exact .nil
  | k :: ks, vs, us, x, r => by
    cases x with
    | cons x1 x2 =>
      cases r with
      | cons r1 r2 => exact .cons (VKy.is hok k _ _ x1 r1) (VKys.is hok ks _ _ x2 r2)
end
end
end HQ
/-! HQQ: dicts: readings. -/
namespace HQ
open PySem PySem.Spec PyProof.Rows L2

/-- what is known of a dict's keys -/
structure DK (H : Hp) (es : List DE) : Prop where
  ky : ∀ e ∈ es, VKy H e.k e.kv ∧ e.k.depth ≤ 8
  nd : (es.map (·.k)).Nodup
section
variable {P : Program} {w : World} {H : Hp} {h : Heap} {a : Addr} {es : List DE}
theorem pr_len {α β : Type} {F : α → β → Prop} {l : List α} {m : List β} (p : Paired F l m) : l.length = m.length := p.length
theorem pr_at {α β : Type} {F : α → β → Prop} : ∀ {l : List α} {m : List β} {i : Nat} {x : α} {y : β}, Paired F l m → l[i]? = some x → m[i]? = some y → F x y
  | _, _, _, _, _, .nil, h, _ => by simp at h
  | _, _, 0, _, _, .cons p _, h1, h2 => by simp at h1 h2; subst h1 h2; exact p
  | _, _, i + 1, _, _, .cons _ t, h1, h2 => pr_at (i := i) t (by simpa using h1) (by simpa using h2)
theorem pr_mod {α β : Type} {F : α → β → Prop} {f : α → α} {g : β → β} : ∀ {l : List α} {m : List β} (i : Nat), Paired F l m → (∀ x y, l[i]? = some x → m[i]? = some y → F x y → F (f x) (g y)) → Paired F (l.modify i f) (m.modify i g)
  | _, _, _, .nil, _ => by simp; exact .nil
  | _, _, 0, .cons p t, h => by simp; exact .cons (h _ _ rfl rfl p) t
  | _, _, i + 1, .cons p t, h => by simp; exact .cons p (pr_mod i t fun x y h1 h2 => h x y (by simpa using h1) (by simpa using h2))
theorem dn_of (hok : HOk P w H h) (dk : DK H es) {o : Obj} {xs : Array DictEntry} (pr : Paired (fun (e : DE) (x : DictEntry) => x.hash = e.k.hash w ∧ RelV e.kv x.key ∧ RelV e.vv x.val) es xs.toList) : DN w h (es.map (·.k)) xs := by
  refine ⟨by rw [List.length_map, pr_len pr, Array.length_toList], fun i hi => ?_, dk.nd⟩
  have l : i < es.length := by rw [pr_len pr, Array.length_toList]; exact hi
  have q := pr_at (i := i) pr (List.getElem?_eq_getElem l) (by rw [Array.getElem?_toList, Array.getElem?_eq_getElem hi])
  have k := dk.ky es[i] (List.getElem_mem l)
  exact ⟨es[i].k, by rw [List.getElem?_map, List.getElem?_eq_getElem l]; rfl, q.1, VKy.is hok _ _ _ k.1 q.2.1, k.2⟩
/-- an entry put in -/
def storeE (es : List DE) (k : NestedKey) (kv vv : V) : List DE := match es.findIdx? (fun e => decide (e.k = k)) with
  | some j => es.modify j fun e => { e with vv := vv }
  | none => es ++ [⟨k, kv, vv⟩]
theorem find_ix {es : List DE} {k : NestedKey} (nd : (es.map (·.k)).Nodup) {j : Nat} (h : (es.map (·.k))[j]? = some k) : es.findIdx? (fun e => decide (e.k = k)) = some j := by
  rw [List.findIdx?_eq_some_iff_getElem]
  have l : j < es.length := by have := (List.getElem?_eq_some_iff.mp h).1; simpa using this
  have e : es[j].k = k := by
    rw [List.getElem?_map, List.getElem?_eq_getElem l] at h
    exact Option.some.inj h
  refine ⟨l, by simpa using e, fun i hi => ?_⟩
  have li : i < es.length := by omega
  simp only [decide_eq_true_eq]
  intro z
  have q : (es.map (·.k))[i]? = some k := by rw [List.getElem?_map, List.getElem?_eq_getElem li]; exact congrArg some z
  have := (List.getElem?_inj (by simpa using li) nd).mp (q.trans h.symm)
  omega
theorem find_no {es : List DE} {k : NestedKey} (h : k ∉ es.map (·.k)) : es.findIdx? (fun e => decide (e.k = k)) = none := by
  rw [List.findIdx?_eq_none_iff]
  intro e he
  simp only [decide_eq_false_iff_not]
  intro z
  exact h (List.mem_map.mpr ⟨e, he, z⟩)
theorem storeE_k {es : List DE} {k : NestedKey} {kv vv : V} (nd : (es.map (·.k)).Nodup) : ((storeE es k kv vv).map (·.k)) = (if k ∈ es.map (·.k) then es.map (·.k) else es.map (·.k) ++ [k]) := by
  unfold storeE
  by_cases hm : k ∈ es.map (·.k)
  · obtain ⟨j, hj⟩ := List.mem_iff_getElem?.mp hm
    rw [find_ix nd hj, if_pos hm]
    apply List.ext_getElem? 
    intro i
    simp only [List.getElem?_map, List.getElem?_modify]
    cases es[i]? with
    | none => rfl
    | some e => by_cases z : j = i <;> simp [z]
  · rw [find_no hm, if_neg hm]; simp
theorem DK.store {k : NestedKey} {kv vv : V} (dk : DK H es) (hk : VKy H k kv) (hd : k.depth ≤ 8) : DK H (storeE es k kv vv) := by
  refine ⟨fun e he => ?_, ?_⟩
  · unfold storeE at he
    split at he
    · rename_i j _
      obtain ⟨i, hi⟩ := List.mem_iff_getElem?.mp he
      rw [List.getElem?_modify] at hi
      cases q : es[i]? with
      | none => rw [q] at hi; simp at hi
      | some e0 =>
        rw [q] at hi
        have r := dk.ky e0 (List.mem_of_getElem? q)
        by_cases z : j = i
        · simp [z] at hi; subst hi; exact r
        · simp [z] at hi; subst hi; exact r
    · rcases List.mem_append.mp he with he | he
      · exact dk.ky e he
      · simp at he; subst he; exact ⟨hk, hd⟩
  · rw [storeE_k dk.nd]
    split
    · exact dk.nd
    · rename_i hn
      rw [List.nodup_append]
      exact ⟨dk.nd, by simp, fun a ha b hb z => hn (by simp at hb; rw [← hb, ← z]; exact ha)⟩
theorem storeE_len {es : List DE} {k : NestedKey} {kv vv : V} : (storeE es k kv vv).length ≤ es.length + 1 := by
  unfold storeE
  split <;> simp
end
section
variable {X : Cx}
theorem dicp_of {pins : List (Addr × Obj)} {σ : L2.St} {H : Hp} {s : Shared} {a : Addr} {es : List DE} (I : Inv X pins σ H s) (e : H a = some (dicO X.w a es)) : DicP X.w a es s.heap := (I.hok a _ e).1
def rInN (w : World) (neg : Bool) : R2 := fun x y H Q => ∃ a es k, y = .ref a ∧ H a = some (dicO w a es) ∧ DK H es ∧ VKy H k x ∧ k.depth ≤ 8 ∧ Q (.bl (if neg = true then !decide (k ∈ es.map (·.k)) else decide (k ∈ es.map (·.k)))) H
theorem op_inN (hu : X.A.units + 9 < cLine) : OpR X (compareOp .In) (rInN X.w false) := by
  intro pins s σ H x y v u Q I rx ry ⟨a, es, k, ey, hH, dk, hk, hd, q⟩
  subst ey
  cases ry
  obtain ⟨hs, hz, o, xs, ep, ho, hx, hdat, pr⟩ := dicp_of I hH
  show wpAny _ _ (do return Value.bool (← contains (.ref a) v)) _ _ s
  exact wpAny_bind (contains_N hu (VKy.is I.hok _ _ _ hk rx) hd hs ho hx hdat (dn_of I.hok dk (o := o) pr) (wpAny_pure ⟨.bl _, H, I.tok _, rfl, q⟩))
theorem op_notInN (hu : X.A.units + 9 < cLine) : OpR X (compareOp .NotIn) (rInN X.w true) := by
  intro pins s σ H x y v u Q I rx ry ⟨a, es, k, ey, hH, dk, hk, hd, q⟩
  subst ey
  cases ry
  obtain ⟨hs, hz, o, xs, ep, ho, hx, hdat, pr⟩ := dicp_of I hH
  show wpAny _ _ (do return Value.bool (!(← contains (.ref a) v))) _ _ s
  exact wpAny_bind (contains_N hu (VKy.is I.hok _ _ _ hk rx) hd hs ho hx hdat (dn_of I.hok dk (o := o) pr) (wpAny_pure ⟨.bl _, H, I.tok _, rfl, q⟩))
def rIxN (w : World) : R2 := fun x y H Q => ∃ (a : Addr) (es : List DE) (k : NestedKey) (j : Nat) (e : DE), x = .ref a ∧ H a = some (dicO w a es) ∧ DK H es ∧ VKy H k y ∧ k.depth ≤ 8 ∧ es[j]? = some e ∧ e.k = k ∧ Q e.vv H
theorem ix_N (hu : X.A.units + 9 < cLine) : IxR X (rIxN X.w) := by
  intro value slice pins s σ H x y v u Q I rx ry ⟨a, es, k, j, e, ex, hH, dk, hk, hd, he, hek, q⟩ hs
  subst ex
  cases rx
  obtain ⟨hs', hz, o, xs, ep, ho, hx, hdat, pr⟩ := dicp_of I hH
  have hj : (es.map (·.k))[j]? = some k := by rw [List.getElem?_map, he]; exact congrArg some hek
  have l : j < es.length := (List.getElem?_eq_some_iff.mp he).1
  have lx : j < xs.size := by rw [← Array.length_toList, ← pr_len pr]; exact l
  have rr := (pr_at pr he (by rw [Array.getElem?_toList, Array.getElem?_eq_getElem lx])).2.2
  exact subscriptTail_builtinR (x := xs[j].val) (dic_type ho hx) slot_dict_getitem.lookup
    (getItem_N (Q := fun r s' => r = xs[j].val ∧ EP X pins σ Q r s') hu (VKy.is I.hok _ _ _ hk ry) hd ho hx hdat (dn_of I.hok dk (o := o) pr) (List.mem_of_getElem? hj) fun i x hi hxx => by
      have ei : i = j := (List.getElem?_inj (by have := (List.getElem?_eq_some_iff.mp hi).1; simpa using this) dk.nd).mp (hi.trans hj.symm)
      subst ei
      rw [Array.getElem?_eq_getElem lx] at hxx
      cases hxx
      exact ⟨rfl, e.vv, H, I.tok _, rr, q⟩) hs
def rSetN (w : World) : V → V → V → Hp → (Hp → Prop) → Prop := fun o i v H Q => ∃ a es k, o = .ref a ∧ H a = some (dicO w a es) ∧ DK H es ∧ VKy H k i ∧ k.depth ≤ 8 ∧ es.length + 1 ≤ sizeLine ∧ Q (upd H a (dicO w a (storeE es k i v)))
theorem dicP_new {w : World} {a : Addr} {es : List DE} {h : Heap} {o : Obj} {xs : Array DictEntry} {ep : Nat} (hs : (a == sysModules) = false) (hz : es.length ≤ sizeLine) (ho : h.get? a = some o) (hx : o.ExactDict) (hd : o.data = .dict xs ep)
    (pr : Paired (fun (e : DE) (x : DictEntry) => x.hash = e.k.hash w ∧ RelV e.kv x.key ∧ RelV e.vv x.val) es xs.toList) {P : Program} {H' : Hp} : ObjOk P w H' h a (dicO w a es) :=
  ⟨⟨hs, hz, o, xs, ep, ho, hx, hd, pr⟩, ⟨o, ho⟩, fun h1 h2 ⟨d1, d2, o, xs, ep, e1, rest⟩ k => ⟨d1, d2, o, xs, ep, k o e1, rest⟩⟩
theorem set_N (hu : X.A.units + 9 < cLine) : PSet X (rSetN X.w) := by
  intro pins s σ H o i v ov iv u Q I ro ri rv ⟨a, es, k, eo, hH, dk, hk, hd, hz1, q⟩
  subst eo
  cases ro
  obtain ⟨hs, hz, ob, xs, ep, ho, hx, hdat, pr⟩ := dicp_of I hH
  have sz : xs.size = es.length := by rw [← Array.length_toList, pr_len pr]
  have dn := dn_of I.hok dk (o := ob) pr
  have fin : ∀ (h' : Heap) (o' : Obj) (ys : Array DictEntry) (ep' : Nat), h'.get? a = some o' → o'.ExactDict → o'.data = .dict ys ep' → Heap.SameBut a s.heap h' → Paired (fun (e : DE) (x : DictEntry) => x.hash = e.k.hash X.w ∧ RelV e.kv x.key ∧ RelV e.vv x.val) (storeE es k i v) ys.toList →
      ∃ H', Inv X pins σ H' { s with heap := h', toks := s.toks + k.draws } ∧ Q H' := fun h' o' ys ep' e1 e2 e3 e4 e5 =>
    ⟨_, d_write I (by rw [hH]; exact True.intro) e4 ⟨o', e1⟩ (dicP_new hs (Nat.le_trans storeE_len hz1) e1 e2 e3 e5), q⟩
  refine setItem_N hu (VKy.is I.hok _ _ _ hk ri) hd ho hx hdat dn (by omega) (fun hn h' o' ep' e1 e2 e3 e4 => fin h' o' _ ep' e1 e2 e3 e4 ?_) fun j hj h' o' ep' e1 e2 e3 e4 => fin h' o' _ ep' e1 e2 e3 e4 ?_
  · unfold storeE
    rw [find_no hn, Array.toList_push]
    exact pr.snoc ⟨rfl, ri, rv⟩
  · unfold storeE
    rw [find_ix dk.nd hj]
    show Paired _ _ (xs.modify j _).toList
    rw [Array.toList_modify]
    exact pr_mod j pr fun x y h1 h2 z => ⟨z.1, z.2.1, rv⟩
end
end HQ
/-! HQR: dicts: meanings. -/
namespace HQ
open PySem PySem.Spec PyProof.Rows L2

/-- the keys and values of a dict -/
def dicAt (u : W) (μ : Mem) : Option (List T × List W) := match u with
  | .t (.dic ks vs) => some (ks, vs.map .t)
  | .ref n => (match μ[n]? with
    | some (.dic ks ws) => some (ks, ws)
    | _ => none)
  | _ => none
def kyW (u : W) : Option NestedKey := match u with
  | .t t => keyT 8 t
  | _ => none
/-- where a key stands -/
def ixT (k : NestedKey) (ks : List T) : Option Nat := ks.findIdx? fun t => decide (keyT 8 t = some k)
theorem keyTs_ix : ∀ {n : Nat} {ks : List T} {nks : List NestedKey} (k : NestedKey), keyTs n ks = some nks → (ks.findIdx? fun t => decide (keyT n t = some k)) = nks.findIdx? fun x => decide (x = k)
  | n, [], nks, k, h => by simp [keyTs] at h; subst h; rfl
  | n, t :: ts, nks, k, h => by
    simp only [keyTs] at h
    cases q1 : keyT n t with
    | none => rw [q1] at h; simp at h
    | some x =>
      cases q2 : keyTs n ts with
      | none => rw [q1, q2] at h; simp at h
      | some xs =>
        rw [q1, q2] at h
        simp only [Option.some.injEq] at h; subst h
        have ih := keyTs_ix k q2
        simp only [List.findIdx?_cons, q1, Option.some.injEq, ih]
theorem ix_es {ks : List T} {es : List DE} (k : NestedKey) (h : keyTs 8 ks = some (es.map (·.k))) : ixT k ks = es.findIdx? fun e => decide (e.k = k) := by
  unfold ixT
  rw [keyTs_ix k h, List.findIdx?_map]
  rfl
theorem keyTs_len : ∀ {n : Nat} {ks : List T} {nks : List NestedKey}, keyTs n ks = some nks → ks.length = nks.length
  | n, [], nks, h => by simp [keyTs] at h; subst h; rfl
  | n, t :: ts, nks, h => by
    simp only [keyTs] at h
    cases q1 : keyT n t with
    | none => rw [q1] at h; simp at h
    | some x =>
      cases q2 : keyTs n ts with
      | none => rw [q1, q2] at h; simp at h
      | some xs =>
        rw [q1, q2] at h
        simp only [Option.some.injEq] at h; subst h
        simp [keyTs_len q2]
theorem keyTs_app : ∀ {n : Nat} {ks : List T} {nks : List NestedKey} {t : T} {k : NestedKey}, keyTs n ks = some nks → keyT n t = some k → keyTs n (ks ++ [t]) = some (nks ++ [k])
  | n, [], nks, t, k, h, e => by simp [keyTs] at h; subst h; simp [keyTs, e]
  | n, u :: ts, nks, t, k, h, e => by
    simp only [keyTs, List.cons_append] at h ⊢
    cases q1 : keyT n u with
    | none => rw [q1] at h; simp at h
    | some x =>
      cases q2 : keyTs n ts with
      | none => rw [q1, q2] at h; simp at h
      | some xs =>
        rw [q1, q2] at h
        simp only [Option.some.injEq] at h; subst h
        rw [keyTs_app q2 e]; rfl
theorem vkys_all {H : Hp} : ∀ {es : List DE}, VKys H (es.map (·.k)) (es.map (·.kv)) → NestedKey.depthAll (es.map (·.k)) ≤ 8 → ∀ e ∈ es, VKy H e.k e.kv ∧ e.k.depth ≤ 8
  | [], _, _, e, he => by cases he
  | x :: es, h, hd, e, he => by
    simp only [List.map_cons] at h hd
    simp only [NestedKey.depthAll] at hd
    cases h with
    | cons h1 h2 =>
      rcases List.mem_cons.mp he with rfl | he
      · exact ⟨h1, by omega⟩
      · exact vkys_all h2 (by omega) e he
section
variable {X : Cx} {D : Ad} {w : World} {Wx : WX} {K : PySem.W.Frag} {F H : Hp} {as : List Addr} {μ : Mem}
theorem dicAt_ok {u : W} {ks : List T} {ws : List W} {v : V} (S : Sim D w F H as μ) (h : dicAt u μ = some (ks, ws)) (r : RW D w F as u v) :
    ∃ a es, v = .ref a ∧ H a = some (dicO w a es) ∧ DK H es ∧ RWs D w F as ws (es.map (·.vv)) ∧ keyTs 8 ks = some (es.map (·.k)) ∧ RTs D w F ks (es.map (·.kv)) := by
  cases u with
  | t t =>
    cases t <;> simp [dicAt] at h
    obtain ⟨rfl, rfl⟩ := h
    simp only [RW, RT] at r
    obtain ⟨a, es, e, q, r1, r2, r3, r4⟩ := r
    obtain ⟨k1, k2⟩ := RTs.ky S.sub 8 _ _ _ r3 r1
    exact ⟨a, es, e, S.sub _ _ q, ⟨vkys_all k1 k2, r4⟩, r2.toW, r3, r1⟩
  | ref n =>
    simp only [RW] at r
    obtain ⟨a, e, rfl⟩ := r
    simp only [dicAt] at h
    cases q : μ[n]? with
    | none => rw [q] at h; cases h
    | some o =>
      rw [q] at h
      cases o <;> simp at h
      obtain ⟨rfl, rfl⟩ := h
      obtain ⟨es, e1, r1, r2, r3, r4⟩ := S.obj n a _ e q
      obtain ⟨k1, k2⟩ := RTs.ky S.sub 8 _ _ _ r3 r1
      exact ⟨a, es, rfl, e1, ⟨vkys_all k1 k2, r4⟩, r2, r3, r1⟩
  | tup ws => simp [dicAt] at h
theorem kyW_ok {u : W} {k : NestedKey} {v : V} (S : Sim D w F H as μ) (h : kyW u = some k) (r : RW D w F as u v) : VKy H k v ∧ k.depth ≤ 8 := by
  cases u with
  | t t =>
    simp only [RW] at r
    exact RT.ky S.sub 8 t k v h r
  | ref n => cases h
  | tup ws => cases h
theorem ix_mem {es : List DE} {k : NestedKey} : (es.findIdx? fun e => decide (e.k = k)).isSome = decide (k ∈ es.map (·.k)) := by
  by_cases h : k ∈ es.map (·.k)
  · rw [decide_eq_true h]
    cases q : es.findIdx? (fun e => decide (e.k = k)) with
    | some j => rfl
    | none =>
      rw [List.findIdx?_eq_none_iff] at q
      obtain ⟨e, he, z⟩ := List.mem_map.mp h
      have := q e he
      simp [z] at this
  · rw [decide_eq_false h, find_no h]; rfl
theorem ix_get {es : List DE} {k : NestedKey} {j : Nat} (h : (es.findIdx? fun e => decide (e.k = k)) = some j) : ∃ e, es[j]? = some e ∧ e.k = k := by
  obtain ⟨l, e, _⟩ := List.findIdx?_eq_some_iff_getElem.mp h
  exact ⟨es[j], List.getElem?_eq_getElem l, of_decide_eq_true e⟩
/-! ### k in d, d[k] -/
def fInD (neg : Bool) (u v : W) (μ : Mem) : R W := match dicAt v μ with
  | some (ks, _) => (match kyW u with
    | some k => .ok (.t (.bl (if neg = true then !(ixT k ks).isSome else (ixT k ks).isSome))) μ
    | none => .stuck)
  | none => fIn neg u v μ
def rInND (K : PySem.W.Frag) (w : World) (neg : Bool) : R2 := fun x y H Q => rInN w neg x y H Q ∨ rInA K neg x y H Q
theorem op_inND (hu : X.A.units + 65 < cLine) : OpR X (compareOp .In) (rInND X.K X.w false) := OpR.or (op_inN (by omega)) (op_inA hu)
theorem op_notInND (hu : X.A.units + 65 < cLine) : OpR X (compareOp .NotIn) (rInND X.K X.w true) := OpR.or (op_notInN (by omega)) (op_notInA hu)
theorem inD_ok {neg : Bool} : Op2 D w Wx (rInND K w neg) (fInD neg) := by
  intro σ F H as μ u1 u2 v1 v2 Q S r1 r2 P
  unfold fInD at P
  split at P
  · rename_i ks ws q
    split at P
    · rename_i k qk
      obtain ⟨a, es, e1, e2, dk, _, e4, _⟩ := dicAt_ok S q r2
      obtain ⟨k1, k2⟩ := kyW_ok S qk r1
      rw [ix_es k e4, ix_mem] at P
      exact .inl ⟨a, es, k, e1, e2, dk, k1, k2, Po.now P S (by simp only [relW, RW, RT])⟩
    · exact P.elim
  · exact .inr (in_ok σ F H as μ u1 u2 v1 v2 Q S r1 r2 P)
def fIdxD (u v : W) (μ : Mem) : R W := match dicAt u μ with
  | some (ks, ws) => (match kyW v with
    | some k => (match ixT k ks with
      | some j => (match ws[j]? with
        | some x => .ok x μ
        | none => .stuck)
      | none => .stuck)
    | none => .stuck)
  | none => fIdx u v μ
def rIxND (K : PySem.W.Frag) (w : World) : R2 := fun x y H Q => rIxN w x y H Q ∨ rIxA K x y H Q
theorem ix_ND (hu : X.A.units + 65 < cLine) : IxR X (rIxND X.K X.w) := IxR.or (ix_N (by omega)) ix_A
theorem idxD_ok : Op2 D w Wx (rIxND K w) fIdxD := by
  intro σ F H as μ u1 u2 v1 v2 Q S r1 r2 P
  unfold fIdxD at P
  split at P
  · rename_i ks ws q
    split at P
    · rename_i k qk
      obtain ⟨a, es, e1, e2, dk, rw_, e4, _⟩ := dicAt_ok S q r1
      obtain ⟨k1, k2⟩ := kyW_ok S qk r2
      rw [ix_es k e4] at P
      split at P
      · rename_i j qj
        obtain ⟨e, he, hek⟩ := ix_get qj
        split at P
        · rename_i x qx
          obtain ⟨v, hv, rv⟩ := rw_.at_ qx
          rw [List.getElem?_map, he] at hv
          cases hv
          exact .inl ⟨a, es, k, j, e, e1, e2, dk, k1, k2, he, hek, Po.now P S rv⟩
        · exact P.elim
      · exact P.elim
    · exact P.elim
  · exact .inr (idx_ok σ F H as μ u1 u2 v1 v2 Q S r1 r2 P)
/-! ### d[k] = v -/
def putD (ks : List T) (ws : List W) (t : T) (k : NestedKey) (v : W) : O := match ixT k ks with
  | some j => .dic ks (ws.set j v)
  | none => .dic (ks ++ [t]) (ws ++ [v])
def setD (o i v : W) (μ : Mem) : Option Mem := match o, i with
  | .ref n, .t t => (match μ[n]? with
    | some (.dic ks ws) => (match keyT 8 t with
      | some k => if ks.length + 1 ≤ bigL then some (μ.set n (putD ks ws t k v)) else none
      | none => none)
    | _ => none)
  | _, _ => none
def setX (o i v : W) (μ : Mem) : Option Mem := match setD o i v μ with
  | some μ' => some μ'
  | none => setL o i v μ
def rSetX (w : World) : V → V → V → Hp → (Hp → Prop) → Prop := fun o i v H Q => rSetN w o i v H Q ∨ rSetL o i v H Q
theorem set_X (hu : X.A.units + 9 < cLine) : PSet X (rSetX X.w) := by
  intro pins s σ H o i v ov iv u Q I ro ri rv h
  rcases h with h | h
  · exact set_N hu pins s σ H o i v ov iv u Q I ro ri rv h
  · exact set_list pins s σ H o i v ov iv u Q I ro ri rv h
theorem put_ro {ks : List T} {ws : List W} {t : T} {k : NestedKey} {v : W} {a : Addr} {es : List DE} {kv vv : V} (r1 : RTs D w F ks (es.map (·.kv))) (r2 : RWs D w F as ws (es.map (·.vv))) (r3 : keyTs 8 ks = some (es.map (·.k))) (dk : DK H es) (hk : keyT 8 t = some k) (hkv : VKy H k kv) (hd : k.depth ≤ 8)
    (rt : RT D w F t kv) (rv : RW D w F as v vv) : RO D w F as a (some (dicO w a (storeE es k kv vv))) (putD ks ws t k v) := by
  have dk' := (dk.store (vv := vv) hkv hd).nd
  unfold putD
  rw [ix_es k r3]
  cases q : es.findIdx? (fun e => decide (e.k = k)) with
  | some j =>
    have e : storeE es k kv vv = es.modify j fun e => { e with vv := vv } := by unfold storeE; rw [q]
    rw [e] at dk' ⊢
    have m1 : (es.modify j fun e => { e with vv := vv }).map (·.kv) = es.map (·.kv) := by
      apply List.ext_getElem?
      intro i
      simp only [List.getElem?_map, List.getElem?_modify]
      cases es[i]? with
      | none => rfl
      | some e => by_cases z : j = i <;> simp [z]
    have m2 : (es.modify j fun e => { e with vv := vv }).map (·.k) = es.map (·.k) := by
      apply List.ext_getElem?
      intro i
      simp only [List.getElem?_map, List.getElem?_modify]
      cases es[i]? with
      | none => rfl
      | some e => by_cases z : j = i <;> simp [z]
    have m3 : (es.modify j fun e => { e with vv := vv }).map (·.vv) = (es.map (·.vv)).set j vv := by
      apply List.ext_getElem?
      intro i
      simp only [List.getElem?_map, List.getElem?_modify]
      by_cases z : j = i
      · subst z
        obtain ⟨e, he, _⟩ := ix_get q
        rw [List.getElem?_set_self (by simpa using (List.getElem?_eq_some_iff.mp he).1), he]
        simp
      · rw [List.getElem?_set_ne z, List.getElem?_map]
        cases es[i]? <;> simp [z]
    exact ⟨_, rfl, by rw [m1]; exact r1, by rw [m3]; exact r2.set j rv, by rw [m2]; exact r3, dk'⟩
  | none =>
    have e : storeE es k kv vv = es ++ [⟨k, kv, vv⟩] := by unfold storeE; rw [q]
    rw [e] at dk' ⊢
    refine ⟨_, rfl, ?_, ?_, ?_, dk'⟩
    · rw [List.map_append]
      have : ∀ {ts : List T} {vs : List V}, RTs D w F ts vs → RTs D w F (ts ++ [t]) (vs ++ [kv]) := fun {ts vs} h => by
        have h1 := RWs.app (as := as) h.toW (us' := [.t t]) (vs' := [kv]) (by simp only [RWs, RW]; exact ⟨_, _, rfl, rt, rfl⟩)
        have h2 : ts.map W.t ++ [.t t] = (ts ++ [t]).map W.t := by simp
        rw [h2] at h1
        exact h1.toT
      exact this r1
    · rw [List.map_append]
      exact r2.app (by simp only [RWs, List.map_cons, List.map_nil]; exact ⟨_, _, rfl, rv, rfl⟩)
    · rw [List.map_append]
      exact keyTs_app r3 hk
theorem setD_ok {μ' : Mem} {o i v : W} {x y z : V} {Q : Hp → Prop} (S : Sim D w F H as μ) (h : setD o i v μ = some μ') (r1 : RW D w F as o x) (r2 : RW D w F as i y) (r3 : RW D w F as v z)
    (q : ∀ H', Ext F H as F H' as → Sim D w F H' as μ' → Q H') : rSetN w x y z H Q := by
  unfold setD at h
  split at h
  · rename_i n t
    split at h
    · rename_i ks ws qn
      split at h
      · rename_i k qk
        split at h
        · rename_i hl
          cases h
          have r1' := r1
          simp only [RW] at r1 r2
          obtain ⟨a, ea, rfl⟩ := r1
          obtain ⟨es, e1, q1, q2, q3, q4⟩ := S.obj n a _ ea qn
          obtain ⟨k1, k2⟩ := RTs.ky S.sub 8 _ _ _ q3 q1
          have dk : DK H es := ⟨vkys_all k1 k2, q4⟩
          obtain ⟨k3, k4⟩ := RT.ky S.sub 8 t k y qk r2
          obtain ⟨S', X'⟩ := S.wrt (y := putD ks ws t k v) (o := dicO w a (storeE es k y z)) ea qn (by simp) (put_ro q1 q2 q3 dk qk k3 k4 r2 r3)
          have le : es.length + 1 ≤ sizeLine := by
            have := keyTs_len q3
            rw [List.length_map] at this
            have b := bigL_le
            omega
          exact ⟨a, es, k, rfl, e1, dk, k3, k4, le, q _ X' S'⟩
        · cases h
      · cases h
    · cases h
  · cases h
def sSetX (mv mo mi : ME) : MS := fun e μ => (mv e μ).st e fun v μ1 => (mo e μ1).st e fun o μ2 => (mi e μ2).st e fun i μ3 => match setX o i v μ3 with
  | some μ4 => .nx e μ4
  | none => .stuck
theorem xs_setX {o i e : Expr} {mv mo mi : ME} {p2 pos : Pos} (hw : X.w = w) (hu : X.A.units + 9 < cLine) (hv : PE X e (RdE D w Wx mv)) (ho : PE X o (RdE D w Wx mo)) (hi : PE X i (RdE D w Wx mi)) (hs : swapsWithSole [.Subscript o i p2] e pos.line X.env = pure false) (hsw : swappedStores [.Subscript o i p2] e X.env = pure none)
    (h1 : (assignEach [.Subscript o i p2] X.env).map (·.2) = [assign (.Subscript o i p2) X.env])
    (ha : ∀ v, assign (.Subscript o i p2) X.env v = (do
      let ov ← holding [v] (eval o X.env)
      let iv ← holding [v, ov] (eval i X.env)
      standAt p2
      holding [v, ov, iv] (setItem ov iv v)
      release [v, ov, iv] [])) : PS X (.Assign [.Subscript o i p2] e pos) (RdS D w Wx (sSetX mv mo mi)) := by
  subst hw
  exact PS.weak (ps_asg hv (pg_sub ho hi (set_X hu) ha) hs hsw h1) fun N σ H ⟨F, as, μ, e, S, E, P⟩ => ⟨F, as, μ, e, S, E, PoS.ex P E fun u μ1 F1 H1 as1 v X1 S1 E1 R1 P1 =>
    ⟨F1, as1, μ1, e, S1, E1, PoS.ex P1 E1 fun o μ2 F2 H2 as2 vo X2 S2 E2 R2 P2 => ⟨F2, as2, μ2, e, S2, E2, PoS.ex P2 E2 fun i μ3 F3 H3 as3 vi X3 S3 E3 R3 P3 => by
      have ro := RW.mono X3.fs X3.pre _ _ R2
      have rv := RW.mono X3.fs X3.pre _ _ (RW.mono X2.fs X2.pre _ _ R1)
      unfold setX at P3
      cases q : setD o i u μ3 with
      | some μ4 =>
        simp only [q] at P3
        exact .inl (setD_ok S3 q ro R3 rv fun H' X' S' => P3 F3 H' as3 σ X' S' E3)
      | none =>
        simp only [q] at P3
        cases q2 : setL o i u μ3 with
        | none => simp only [q2] at P3; exact P3.elim
        | some μ4 =>
          simp only [q2] at P3
          exact .inr (setL_ok S3 q2 ro R3 rv fun H' X' S' => P3 F3 H' as3 σ X' S' E3)⟩⟩⟩
/-! ### {} -/
def mDic0 (live : Bool) : ME := fun _ μ => match live with
  | true => .ok (.ref μ.length) (μ ++ [.dic [] []])
  | false => .ok (.t (.dic [] [])) μ
theorem xe_dic0 {live : Bool} {pos : Pos} (hw : X.w = w) : PE X (.Dict [] [] pos) (RdE D w Wx (mDic0 live)) := by
  subst hw
  refine ⟨fun pins s σ H Q I ⟨F, as, μ, e, S, E, P⟩ => ?_⟩
  have hn := I.hok.fresh (Nat.le_refl s.heap.objs.size)
  have hm : (s.heap.objs.size == sysModules) = false := beq_eq_false_iff_ne.mpr (Nat.ne_of_gt I.big)
  have I1 := I.laid (a := s.heap.objs.size) (o := dicO X.w s.heap.objs.size []) (h' := s.heap.push { cls := .type "dict", data := .dict #[] }) (t' := s.toks) (fun _ _ q => Heap.get?_push_of_some _ q) (Nat.le_refl _)
    (dicP_new hm (by simp) (Heap.get?_push_size _ rfl) ⟨rfl, rfl, rfl⟩ rfl .nil)
  refine wpAny_Dict_empty ⟨.ref s.heap.objs.size, _, I1, rfl, ?_⟩
  cases live with
  | true =>
    obtain ⟨S1, X1⟩ := S.newL (x := .dic [] []) (o := dicO X.w s.heap.objs.size []) hn ⟨[], rfl, by simp [RTs], by simp [RWs], by simp [keyTs], by simp⟩
    refine P _ _ _ _ X1 S1 ?_
    simp only [relW, RW]
    exact ⟨_, by rw [← S.len]; simp, rfl⟩
  | false =>
    obtain ⟨S1, X1⟩ := S.newF (dicO X.w s.heap.objs.size []) hn (by rintro (⟨_, z⟩ | ⟨_, z⟩) <;> (unfold dicO at z; cases z))
    refine P _ _ _ _ X1 S1 ?_
    simp only [relW, RW, RT]
    exact ⟨_, [], rfl, upd_same, by simp [RTs], by simp [RTs], by simp [keyTs], by simp⟩
end
end HQ
/-! HQS: lists of rows of whole numbers, sorted. -/
namespace HQ
open PySem PySem.Spec PyProof.Rows L2

/-! ### the order -/
theorem lex_refl : ∀ a : List Int, HT.lexLt a a = false
  | [] => rfl
  | x :: xs => by rw [HT.lexLt_cons, if_pos rfl]; exact lex_refl xs
theorem lex_tot : ∀ a b : List Int, HT.lexLt a b = false → HT.lexLt b a = false → a = b
  | [], [], _, _ => rfl
  | [], y :: ys, h, _ => by rw [HT.lexLt_nil_cons] at h; cases h
  | x :: xs, [], _, h => by rw [HT.lexLt_nil_cons] at h; cases h
  | x :: xs, y :: ys, h1, h2 => by
    rw [HT.lexLt_cons] at h1 h2
    by_cases e : x = y
    · subst e
      rw [if_pos rfl] at h1 h2
      rw [lex_tot xs ys h1 h2]
    · rw [if_neg e] at h1
      rw [if_neg (Ne.symm e)] at h2
      have := of_decide_eq_false h1
      have := of_decide_eq_false h2
      omega
theorem lex_asy : ∀ a b : List Int, HT.lexLt a b = true → HT.lexLt b a = false
  | [], [], h => by cases h
  | [], y :: ys, _ => rfl
  | x :: xs, [], h => by cases h
  | x :: xs, y :: ys, h => by
    rw [HT.lexLt_cons] at h ⊢
    by_cases e : x = y
    · subst e
      rw [if_pos rfl] at h ⊢
      exact lex_asy xs ys h
    · rw [if_neg e] at h
      rw [if_neg (Ne.symm e)]
      have := of_decide_eq_true h
      exact decide_eq_false (by omega)
theorem lex_trn : ∀ a b c : List Int, HT.lexLt b a = false → HT.lexLt c b = false → HT.lexLt c a = false
  | [], [], [], _, _ => rfl
  | [], [], z :: zs, _, h => h
  | [], y :: ys, [], _, _ => rfl
  | [], y :: ys, z :: zs, _, _ => rfl
  | x :: xs, [], c, h, _ => by cases h
  | x :: xs, y :: ys, [], _, h => by cases h
  | x :: xs, y :: ys, z :: zs, h1, h2 => by
    rw [HT.lexLt_cons] at h1 h2 ⊢
    by_cases e1 : y = x
    · subst e1
      rw [if_pos rfl] at h1
      by_cases e2 : z = y
      · subst e2
        rw [if_pos rfl] at h2 ⊢
        exact lex_trn xs ys zs h1 h2
      · rw [if_neg e2] at h2 ⊢
        exact h2
    · rw [if_neg e1] at h1
      have g1 := of_decide_eq_false h1
      by_cases e2 : z = y
      · subst e2
        rw [if_neg e1]
        exact h1
      · rw [if_neg e2] at h2
        have g2 := of_decide_eq_false h2
        rw [if_neg (by omega)]
        exact decide_eq_false (by omega)
/-! ### tuples of ints in the heap -/
def TupN (h : Heap) (v : Value) (ns : List Int) : Prop := ∃ l o items n, v = .ref l ∧ h.get? l = some o ∧ o.cls = .type "tuple" ∧ o.data = .seq items n ∧ IntsAre items.toList ns
theorem TupN.uniq {h : Heap} {v : Value} {ns ms : List Int} (a : TupN h v ns) (b : TupN h v ms) : ns = ms := by
  obtain ⟨l, o, its, n, rfl, e1, _, e3, i1⟩ := a
  obtain ⟨l', o', its', n', e, f1, _, f3, i2⟩ := b
  cases e
  rw [e1] at f1; cases f1
  rw [e3] at f3; cases f3
  rw [← SrtO.iv_ints i1, ← SrtO.iv_ints i2]
noncomputable def ivT (h : Heap) (v : Value) : List Int := open Classical in if q : ∃ ns, TupN h v ns then q.choose else []
theorem TupN.iv {h : Heap} {v : Value} {ns : List Int} (a : TupN h v ns) : ivT h v = ns := by
  unfold ivT
  have q : ∃ ns, TupN h v ns := ⟨ns, a⟩
  rw [dif_pos q]
  exact TupN.uniq q.choose_spec a
noncomputable def ltT (h : Heap) (v u : Value) : Bool := HT.lexLt (ivT h v) (ivT h u)
theorem swoT (h : Heap) : SrtO.Swo (ltT h) := ⟨fun x y q => lex_asy _ _ q, fun x y z h1 h2 => lex_trn _ _ _ h1 h2⟩
theorem TupN.keeps {h h' : Heap} {v : Value} {ns : List Int} (a : TupN h v ns) (k : ∀ b o, h.get? b = some o → o.cls = .type "tuple" → h'.get? b = some o) : TupN h' v ns := by
  obtain ⟨l, o, its, n, rfl, e1, e2, e3, i1⟩ := a
  exact ⟨l, o, its, n, rfl, k _ _ e1 e2, e2, e3, i1⟩
section
variable {prog : Program} {w : World} {A : Around} {E : Value → Shared → Prop} {s : Shared}
theorem katLex_ints {b fin : Bool} {Q : Bool → Shared → Prop} : ∀ (ns ms : List Int) (vs us : List Value) (i : Nat), IntsAre vs ns → IntsAre us ms → fin = decide (ns.length < ms.length) → Q (HT.lexLt ns ms) s → PySem.W.KatLex prog w A b fin Q (vs.zip us) i s
  | [], [], _, _, i, a, c, hf, q => by
    cases a; cases c
    have e : fin = false := by rw [hf]; rfl
    subst e
    exact PySem.W.kat_nil q
  | [], m :: ms, _, _, i, a, c, hf, q => by
    cases a
    have e : fin = true := by rw [hf]; simp
    subst e
    exact PySem.W.kat_nil q
  | n :: ns, [], _, _, i, a, c, hf, q => by
    cases c
    have e : fin = false := by rw [hf]; simp
    subst e
    rw [List.zip_nil_right]
    exact PySem.W.kat_nil q
  | n :: ns, m :: ms, _, _, i, a, c, hf, q => by
    cases a with
    | cons _ t a =>
      cases c with
      | cons _ u c =>
        rw [HT.lexLt_cons] at q
        rw [List.zip_cons_cons]
        refine PySem.W.kat_cons (SeqAt.EqAt.int_int n t m u prog w _ _ ?_)
        refine PySem.W.kat_go (fun e1 => ?_) (fun e1 => ?_)
        · have e : n = m := by simpa using e1
          rw [if_pos e] at q
          exact PySem.W.kat_yes (katLex_ints ns ms _ _ (i + 1) a c (by rw [hf]; simp) q)
        · have e : ¬ n = m := by simpa using e1
          rw [if_neg e] at q
          exact PySem.W.kat_no (TS.oneLt_ints _ q)
theorem keyLt_tuples {b : Bool} {v u : Value} {ns ms : List Int} {Q : Bool → Shared → Prop} (hv : TupN s.heap v ns) (hu : TupN s.heap u ms) (q : Q (HT.lexLt ns ms) s) : wpAny (model prog w) A (keyLt' (tuples' b) v u) Q E s := by
  obtain ⟨l, o, its, n, rfl, e1, _, e3, i1⟩ := hv
  obtain ⟨l', o', its', n', rfl, f1, _, f3, i2⟩ := hu
  exact PySem.W.kat_lt e1 e3 f1 f3 (katLex_ints ns ms _ _ 0 i1 i2 (by rw [← i1.length, ← i2.length]; simp) q)
theorem oneLt_tuples {f : Bool} {v u : Value} {ns ms : List Int} {Q : Bool → Shared → Prop} (hu : A.units < cLine) (hv : TupN s.heap v ns) (hw : TupN s.heap u ms) (q : Q (HT.lexLt ns ms) s) : wpAny (model prog w) A (oneLt' f v u) Q E s := by
  obtain ⟨l, ⟨cls, dd, data, sl⟩, its, n, rfl, e1, hc, hd, i1⟩ := hv
  obtain ⟨l', ⟨cls2, dd2, data2, sl2⟩, its', n', rfl, f1, hc2, hd2, i2⟩ := hw
  simp only at hc hd hc2 hd2
  subst hc hd hc2 hd2
  cases f with
  | false => exact PySem.W.kat_one _ _ (HT.lt_tupInts ⟨_, e1, rfl, _, rfl⟩ ⟨_, f1, rfl, _, rfl⟩ i1 i2 hu q)
  | true =>
    rw [oneLt'_eq]
    simp only [if_true]
    refine wpAny_bind (wpAny_cRoomFor hu ?_)
    refine wpAny_bind (wpAny_callSpecialIfBound?_slot (T := "tuple") ⟨_, e1, rfl⟩ PySem.F.slot_tuple_lt (call_meets PySem.F.slot_tuple_lt ⟨_, e1, rfl⟩ PySem.F.entry_tuple_lt (PySem.F.args_tuple_lt_2 _ _) (HT.tuple_lt_ints l l' its its' n n' dd dd2 sl sl2 ns ms i1 i2) ⟨e1, f1, ?_⟩))
    exact wpAny_truthy_bool q
/-- the first of a tuple -/
def fstO (h : Heap) : Value → Option Value
  | .ref a => match h.get? a with
    | some o => match o.data with
      | .seq xs _ => xs[0]?
      | _ => none
    | none => none
  | _ => none
theorem firsts_all : ∀ (vs : List Value) {Q : List (Option Value) → Shared → Prop}, (∀ v ∈ vs, ∃ ns, TupN s.heap v ns) → Q (vs.map (fstO s.heap)) s → wpAny (model prog w) A (vs.mapM firstOfTuple') Q E s
  | [], Q, _, h => by rw [List.mapM_nil]; exact wpAny_pure h
  | v :: vs, Q, t, h => by
    obtain ⟨ns, a, o, xs, n, rfl, ho, hc, hd, hf⟩ := t v List.mem_cons_self
    rw [List.mapM_cons]
    refine wpAny_bind ?_
    rw [PySem.W.kas_first_eq]
    refine wpAny_bind (PySem.W.Looks.here (show PySem.W.Looks (model prog w) s.heap (typeOf (.ref a)) o.cls from (PySem.W.Looks.ld ho).andThen .now) ?_)
    rw [hc, if_neg (by first | decide | simp)]
    refine wpAny_bind (listItems_at ho hd (wpAny_pure ?_))
    have e : fstO s.heap (.ref a) = xs[0]? := by simp only [fstO, ho, hd]
    rw [List.map_cons, e] at h
    exact wpAny_bind (firsts_all vs (Q := fun bs s' => wpAny (model prog w) A (pure (xs[0]? :: bs)) Q E s') (fun v hv => t v (List.mem_cons_of_mem _ hv)) (wpAny_pure h))
theorem katTups_of : ∀ (vs : List Value), (∀ v ∈ vs, ∃ x xs, TupN s.heap v (x :: xs)) → ∃ fs, PySem.W.KatTups s.heap vs fs ∧ fs.length = vs.length ∧ ∀ f ∈ fs, ∃ x t, f = Value.int x t
  | [], _ => ⟨[], PySem.W.KatTups.nil, rfl, fun f h => by cases h⟩
  | v :: vs, h => by
    obtain ⟨fs, h1, h2, h3⟩ := katTups_of vs fun v hv => h v (List.mem_cons_of_mem _ hv)
    obtain ⟨x, xs, l, o, its, n, rfl, e1, e2, e3, i1⟩ := h v List.mem_cons_self
    obtain ⟨L⟩ := its
    cases i1 with
    | cons _ t r =>
      refine ⟨.int x t :: fs, PySem.W.KatTups.cons e1 e2 e3 (by simp) h1, by simp [h2], fun f hf => ?_⟩
      rcases List.mem_cons.mp hf with rfl | hf
      · exact ⟨x, t, rfl⟩
      · exact h3 f hf
/-- the kind by the first one's first -/
def kM : Option Value → SortKind
  | some _ => general'
  | none => oneType'
theorem kind_mixed {vs : List Value} {Q : SortKind → Shared → Prop} (h2 : 2 ≤ vs.length) (hT : ∀ v ∈ vs, ∃ ns, TupN s.heap v ns) (he : ∃ v ∈ vs, TupN s.heap v []) (h : Q (kM (vs.head?.bind (fstO s.heap))) s) : wpAny (model prog w) A (keyKind' vs.toArray) Q E s := by
  rw [kat_kind_eq, List.mapM_toArray, map_eq_pure_bind]
  refine wpAny_bind (wpAny_bind (firsts_all vs hT (wpAny_pure ?_)))
  have hall : ¬ (((vs.map (fstO s.heap)).toArray.all fun x => x.isSome) = true) := by
    obtain ⟨v, hv, l, o, its, n, rfl, e1, e2, e3, i1⟩ := he
    have e : fstO s.heap (.ref l) = none := by
      simp only [fstO, e1, e3]
      obtain ⟨L⟩ := its
      cases i1
      rfl
    intro q
    rw [List.all_toArray, List.all_eq_true] at q
    have := q _ (List.mem_map_of_mem hv)
    rw [e] at this
    cases this
  rw [if_neg hall]
  obtain ⟨v0, rest, rfl⟩ : ∃ v0 rest, vs = v0 :: rest := by
    match vs, h2 with
    | v0 :: rest, _ => exact ⟨v0, rest, rfl⟩
  have e0 : (((v0 :: rest).map (fstO s.heap)).toArray[0]?.bind id) = fstO s.heap v0 := by simp
  rw [e0]
  simp only [List.head?_cons, Option.bind_some] at h
  cases q : fstO s.heap v0 with
  | some f =>
    rw [q] at h
    rw [if_pos (by simp)]
    exact wpAny_pure h
  | none =>
    rw [q] at h
    rw [if_neg (by simp)]
    rw [oneTypeOnly'_eq, List.mapM_toArray, map_eq_pure_bind]
    refine wpAny_bind (wpAny_bind (wpAny_bind (PySem.W.kas_mapM (r := Value.type "tuple") _ (fun v hv Q' hq => ?_) (wpAny_pure ?_))))
    · obtain ⟨ns, a, o, xs, n, rfl, ho, hc, hd, hf⟩ := hT v hv
      refine PySem.W.Looks.here (show PySem.W.Looks (model prog w) s.heap (typeOf (.ref a)) o.cls from (PySem.W.Looks.ld ho).andThen .now) ?_
      rw [hc]
      exact hq
    · have hall2 : ((List.map (fun _ => Value.type "tuple") (v0 :: rest)).toArray.all fun x => x == Value.type "tuple") = true := by
        simp only [List.all_toArray, List.all_map, List.all_eq_true]
        intro _ _
        rfl
      have h0 : (List.map (fun _ => Value.type "tuple") (v0 :: rest)).toArray[0]? = some (Value.type "tuple") := by simp
      rw [h0]
      simp only [hall2, if_true]
      exact wpAny_pure (wpAny_pure h)
theorem tuples_sortable {a : Addr} {vs : List Value} (hu : A.units < cLine) (h2 : 2 ≤ vs.length) (hp : ∀ v ∈ vs, ∃ ns, TupN s.heap v ns) (ha : ∀ o, s.heap.get? a = some o → o.cls ≠ .type "tuple") : SrtO.SortableO prog w A s a vs (ltT s.heap) := by
  intro h' keep
  have kp : ∀ {v : Value} {ns : List Int}, TupN s.heap v ns → TupN h' v ns := fun t => t.keeps fun b o e c => keep b o (fun z => by subst z; exact ha o e c) e
  by_cases hall : ∀ v ∈ vs, ∃ x xs, TupN s.heap v (x :: xs)
  · obtain ⟨fs, h1, hl, h3⟩ := katTups_of (s := { s with heap := h' }) vs fun v hv => let ⟨x, xs, t⟩ := hall v hv; ⟨x, xs, kp t⟩
    refine ⟨tuples' true, fun Q E hq => ?_, fun p q hm hm' => ?_⟩
    · refine PySem.W.kat_kind (T := .type "int") h1 (by omega) (fun f hm => ?_) (by rfl) ?_
      · obtain ⟨x, t, rfl⟩ := h3 f hm
        exact PySem.W.Looks.now
      · have e : (Value.type "int" != Value.type "tuple") = true := by first | decide +kernel | rfl | decide
        rw [e]
        exact hq
    · obtain ⟨ns, t1⟩ := hp _ hm
      obtain ⟨ms, t2⟩ := hp _ hm'
      exact keyLt_tuples (kp t1) (kp t2) ⟨rfl, by show HT.lexLt ns ms = ltT s.heap p.1 q.1; unfold ltT; rw [t1.iv, t2.iv]⟩
  · have he : ∃ v ∈ vs, TupN h' v [] := Classical.byContradiction fun n => hall fun v hv => by
      obtain ⟨ns, t⟩ := hp v hv
      cases ns with
      | nil => exact absurd ⟨v, hv, kp t⟩ n
      | cons x xs => exact ⟨x, xs, t⟩
    refine ⟨_, fun Q E hq => kind_mixed (s := { s with heap := h' }) h2 (fun v hv => let ⟨ns, t⟩ := hp v hv; ⟨ns, kp t⟩) he hq, fun p q hm hm' => ?_⟩
    obtain ⟨ns, t1⟩ := hp _ hm
    obtain ⟨ms, t2⟩ := hp _ hm'
    have fin : HT.lexLt ns ms = ltT s.heap p.1 q.1 := by unfold ltT; rw [t1.iv, t2.iv]
    show wpAny (model prog w) A (keyLt' _ p.1 q.1) (fun r s' => s' = { s with heap := h' } ∧ r = ltT s.heap p.1 q.1) (fun _ _ => False) { s with heap := h' }
    cases (vs.head?.bind (fstO h')) with
    | some f => exact oneLt_tuples (f := false) hu (kp t1) (kp t2) ⟨rfl, fin⟩
    | none => exact oneLt_tuples (f := true) hu (kp t1) (kp t2) ⟨rfl, fin⟩
end
end HQ
/-! HQT: tuples repeated, rows sorted, all, zip, two subscripts stored. -/
namespace HQ
open PySem PySem.Spec PyProof.Rows L2

/-! ### t * k, k no greater than 1 -/
section
open PySem.AutoSeq1 (wpAny_loadPart')
theorem tuple_mulA (l : Addr) (items : Array Value) (n : Nat) (dd : Option Addr) (sl : Array (Option Value)) (u : Tok) :
    Meets (Builtin.«tuple.__mul__» ⟨[.ref l, .int 1 u], []⟩) (fun _ R s => s.heap.get? l = some { cls := .type "tuple", dict := dd, data := .seq items n, slots := sl } ∧ R (.ok (.ret (Value.ref l))) s) :=
  .of_wp fun prog w A R s h => by
    obtain ⟨hp, g, d, tk, os⟩ := s
    obtain ⟨hl, h⟩ := h
    have f1 := AutoSeq1.idx_int
    wp_walk using wpAny_loadPart' hl
    repeat (first
      | (refine wpAny_ite_false (decide_eq_false (by simp)) ?_; wp_walk using wpAny_loadPart' hl)
      | (refine wpAny_ite_true (decide_eq_true (by simp)) ?_; wp_walk using wpAny_loadPart' hl))
    exact ⟨_, rfl, h⟩
theorem tuple_mulB (l : Addr) (items : Array Value) (n : Nat) (dd : Option Addr) (sl : Array (Option Value)) (x : Int) (u : Tok) (c0 : (decide (x < -(2 ^ 63)) || decide (x ≥ 2 ^ 63)) = false) (c1 : (items.isEmpty || x == 1) = false) (c2 : (decide (x ≤ 0) || items.isEmpty) = true) :
    Meets (Builtin.«tuple.__mul__» ⟨[.ref l, .int x u], []⟩) (fun _ R s => s.heap.get? l = some { cls := .type "tuple", dict := dd, data := .seq items n, slots := sl } ∧
      R (.ok (.ret (Value.ref s.heap.objs.size))) { s with heap := s.heap.push { cls := Value.type "tuple", data := Data.seq #[] }, toks := s.toks }) :=
  .of_wp fun prog w A R s h => by
    obtain ⟨hp, g, d, tk, os⟩ := s
    obtain ⟨hl, h⟩ := h
    have f1 := AutoSeq1.idx_int
    wp_walk using wpAny_loadPart' hl
    repeat (first
      | (refine wpAny_ite_false (decide_eq_false (by rw [c0]; exact Bool.false_ne_true)) ?_; wp_walk using wpAny_loadPart' hl)
      | (refine wpAny_ite_false (decide_eq_false (by rw [c1]; exact Bool.false_ne_true)) ?_; wp_walk using wpAny_loadPart' hl)
      | (refine wpAny_ite_true (decide_eq_true c2) ?_; wp_walk using wpAny_loadPart' hl)
      | (refine wpAny_ite_false (decide_eq_false (Nat.not_lt.mpr (Nat.zero_le _))) ?_; wp_walk using wpAny_loadPart' hl))
    exact ⟨_, rfl, h⟩
end
def rRepS (K : PySem.W.Frag) : R2 := fun x y H Q => ∃ l k xs, x = .ref l ∧ y = .int k ∧ SqT K H l xs ∧ xs ≠ [] ∧ ((k = 1 ∧ Q (.ref l) H) ∨ (-(2 ^ 62) ≤ k ∧ k ≤ 0 ∧ ∀ p, H p = none → Q (.ref p) (upd H p (.tup []))))
theorem op_repS {X : Cx} : OpR X (binaryOp .Mult) (rRepS X.K) := by
  intro pins s σ H x y v u Q I rx ry h
  obtain ⟨l, k, xs, rfl, rfl, hT, hne, h⟩ := h
  cases rx
  obtain ⟨t, rfl⟩ := ry
  obtain ⟨its, r, ⟨⟨cls, dd, data, sl⟩, ho, hc, n, hd⟩, hs⟩ := I.tuple hT
  simp only at hc hd
  subst hc hd
  have hn : its ≠ [] := fun e => hne (by
    have hle := r.length
    rw [e] at hle
    exact List.eq_nil_of_length_eq_zero hle)
  have hi : its.toArray.isEmpty = false := by
    cases its with
    | nil => exact absurd rfl hn
    | cons a b => rfl
  rcases h with ⟨rfl, q⟩ | ⟨h0, h1, q⟩
  · exact wpAny_binaryOp_repeat_ref (T := "tuple") (U := "int") (by decide) ⟨_, ho, rfl⟩ (fun s' => typeIs_int s' 1 t) noFill_tuple_mul F.fills_int_mul F.slot_int_rmul repeat_tuple F.slot_int_index.lookup
      (call_meets F.slot_int_rmul (typeIs_int s 1 t) F.entry_int_rmul (F.args_int_rmul_2 _ _) (int_rmul_tuple 1 t l its.toArray n dd sl)
        ⟨ho, rfl, ⟨_, ho, rfl⟩, call_meets F.slot_tuple_mul ⟨_, ho, rfl⟩ F.entry_tuple_mul (F.args_tuple_mul_2 _ _) (tuple_mulA l its.toArray n dd sl t) ⟨ho, .ref l, H, I, rfl, q⟩⟩)
  · refine wpAny_binaryOp_repeat_ref (T := "tuple") (U := "int") (by decide) ⟨_, ho, rfl⟩ (fun s' => typeIs_int s' k t) noFill_tuple_mul F.fills_int_mul F.slot_int_rmul repeat_tuple F.slot_int_index.lookup
      (call_meets F.slot_int_rmul (typeIs_int s k t) F.entry_int_rmul (F.args_int_rmul_2 _ _) (int_rmul_tuple k t l its.toArray n dd sl)
        ⟨ho, rfl, ⟨_, ho, rfl⟩, call_meets F.slot_tuple_mul ⟨_, ho, rfl⟩ F.entry_tuple_mul (F.args_tuple_mul_2 _ _) (tuple_mulB l its.toArray n dd sl k t (by rw [decide_eq_false (by omega), decide_eq_false (by omega)] <;> rfl) (by rw [hi, Bool.false_or]; exact beq_eq_false_iff_ne.mpr (by omega)) (by rw [decide_eq_true h1, Bool.true_or])) ⟨ho, ?_⟩⟩)
    refine ⟨.ref s.heap.objs.size, _, I.laid (t' := s.toks) (o := .tup []) (fun b ob q => Heap.get?_push_of_some _ q) (Nat.le_refl _) ?_, rfl, q _ (I.hok.fresh (Nat.le_refl _))⟩
    exact ⟨by simp, [], .nil, IsTup.new _ _⟩
section
variable {X : Cx} {D : Ad} {w : World} {Wx : WX} {K : PySem.W.Frag}
/-- *, tuples too -/
def fMulX (live : Bool) (a b : W) (μ : Mem) : R W := match getT a, b with
  | some ws, .t (.int k) => if ws.length ≤ 1000 ∧ 0 < ws.length ∧ -(2 ^ 62) ≤ k ∧ k ≤ 1000 then .ok (mkTup (List.replicate k.toNat ws).flatten) μ else .stuck
  | _, _ => fMul live a b μ
def rMulX (K : PySem.W.Frag) : R2 := fun x y H Q => rMulA x y H Q ∨ rRepT K x y H Q ∨ rRepS K x y H Q
theorem op_mulX : OpR X (binaryOp .Mult) (rMulX X.K) := OpR.or op_mulA (OpR.or op_repT op_repS)
theorem rep_one {α : Type} (ws : List α) : (List.replicate (1 : Int).toNat ws).flatten = ws := by simp
theorem mulX_ok {live : Bool} : Op2 D w Wx (rMulX K) (fMulX live) := by
  intro σ F H as μ u1 u2 v1 v2 Q S r1 r2 P
  unfold fMulX at P
  split at P
  · rename_i ws k q
    split at P
    · rename_i h
      obtain ⟨l, vs, rfl, e, r⟩ := getT_F q r1
      simp only [RW, RT] at r2
      subst r2
      have hne : vs ≠ [] := fun z => by
        have := r.len
        rw [z] at this
        simp at this
        rw [this] at h
        simp at h
      rcases Int.lt_trichotomy k 1 with c | c | c
      · refine .inr (.inr ⟨l, k, vs, rfl, rfl, SqT.of (S.sub _ _ e), hne, .inr ⟨h.2.2.1, by omega, fun p hp => ?_⟩⟩)
        have e0 : k.toNat = 0 := by omega
        rw [e0] at P
        exact Po.tup P S (by simp [RWs]) hp
      · subst c
        rw [rep_one] at P
        exact .inr (.inr ⟨l, 1, vs, rfl, rfl, SqT.of (S.sub _ _ e), hne, .inl ⟨rfl, Po.now P S (rw_mkTup e r)⟩⟩)
      · exact .inr (.inl ⟨l, k, vs, rfl, rfl, SqT.of (S.sub _ _ e), hne, by omega, h.2.2.2, by rw [← r.len]; exact h.1, fun p hp => Po.tup P S (rws_flat r _) hp⟩)
    · exact P.elim
  · exact .inl (mul_ok σ F H as μ _ _ v1 v2 Q S r1 r2 P)
/-! ### sorted -/
def rowsW : List W → Option (List (List Int))
  | [] => some []
  | .t (.tup ts) :: us => match intsT ts, rowsW us with
    | some ns, some nss => some (ns :: nss)
    | _, _ => none
  | _ :: _ => none
def rowT (ns : List Int) : T := .tup (ns.map .int)
theorem rowsW_eq : ∀ {us : List W} {nss : List (List Int)}, rowsW us = some nss → us = nss.map fun ns => W.t (rowT ns)
  | [], nss, h => by simp [rowsW] at h; subst h; rfl
  | u :: us, nss, h => by
    cases u with
    | t t =>
      cases t <;> simp only [rowsW, reduceCtorEq] at h
      rename_i ts
      split at h
      · rename_i ns nss' h1 h2
        cases h
        rw [rowsW_eq h2, intsT_eq h1]
        rfl
      · cases h
    | ref n => simp [rowsW] at h
    | tup ws => simp [rowsW] at h
theorem intsT_map : ∀ ns : List Int, intsT (ns.map .int) = some ns
  | [] => rfl
  | n :: ns => by simp [intsT, intsT_map ns]
theorem rowsW_map : ∀ nss : List (List Int), rowsW (nss.map fun ns => W.t (rowT ns)) = some nss
  | [] => rfl
  | ns :: nss => by
    have ih := rowsW_map nss
    simp only [List.map_cons, rowT, rowsW, intsT_map] at ih ⊢
    rw [ih]
def leN (a b : List Int) : Bool := !HT.lexLt b a
def sortN (nss : List (List Int)) : List (List Int) := nss.mergeSort leN
theorem sortN_perm (nss : List (List Int)) : (sortN nss).Perm nss := List.mergeSort_perm _ _
theorem sortN_sorted (nss : List (List Int)) : (sortN nss).Pairwise fun a b => HT.lexLt b a = false := by
  have h := List.pairwise_mergeSort (le := leN) (fun a b c h1 h2 => ?_) (fun a b => ?_) nss
  · exact h.imp fun {a b} q => by simpa [leN] using q
  · simp only [leN, Bool.not_eq_true'] at h1 h2 ⊢
    exact lex_trn _ _ _ h1 h2
  · simp only [leN, Bool.or_eq_true, Bool.not_eq_true']
    cases q : HT.lexLt b a with
    | false => exact .inl rfl
    | true => exact .inr (lex_asy _ _ q)
theorem sorted_uniq : ∀ {l m : List (List Int)}, l.Pairwise (fun a b => HT.lexLt b a = false) → m.Pairwise (fun a b => HT.lexLt b a = false) → l.Perm m → l = m
  | [], m, _, _, p => (List.nil_perm.mp p).symm ▸ rfl
  | a :: l, m, h1, h2, p => by
    cases m with
    | nil => exact absurd p.symm (by simp)
    | cons b m =>
      have e : a = b := by
        have ha : a ∈ b :: m := p.mem_iff.mp List.mem_cons_self
        have hb : b ∈ a :: l := p.mem_iff.mpr List.mem_cons_self
        rcases List.mem_cons.mp ha with z | z
        · exact z
        · rcases List.mem_cons.mp hb with y | y
          · exact y.symm
          · exact lex_tot _ _ ((List.pairwise_cons.mp h2).1 _ z) ((List.pairwise_cons.mp h1).1 _ y)
      subst e
      rw [sorted_uniq (List.pairwise_cons.mp h1).2 (List.pairwise_cons.mp h2).2 (List.perm_cons _ |>.mp p)]
def fSortN (live : Bool) (us : List W) (μ : Mem) : R W := match us with
  | [u] => match getL u μ with
    | some ws => match rowsW ws with
      | some nss => mkL live ((sortN nss).map fun ns => .t (rowT ns)) μ
      | none => .stuck
    | none => .stuck
  | _ => .stuck
/-- sorted(xs), xs rows of ints -/
def rSortN (K : PySem.W.Frag) : List V → Hp → VK → Prop := fun vs H Q => ∃ (a : Addr) (xs : List V) (nss : List (List Int)), vs = [V.ref a] ∧ SqL K H a xs ∧ Paired (fun x ns => ∃ t, x = V.ref t ∧ H t = some (.tup (ns.map V.int))) xs nss ∧
  ∀ (ys : List V) (p : Addr), Paired (fun x ns => ∃ t, x = V.ref t ∧ V.ref t ∈ xs ∧ H t = some (.tup (ns.map V.int))) ys (sortN nss) → H p = none → Q (.ref p) (upd H p (.lst ys))
theorem tupN_raw {pins : List (Addr × Obj)} {σ : Sg} {H : Hp} {s : Shared} (I : Inv X pins σ H s) {t : Addr} {ns : List Int} (h : H t = some (.tup (ns.map V.int))) : TupN s.heap (.ref t) ns := by
  obtain ⟨_, its, rv, ⟨o, e1, e2, n, e3⟩⟩ := I.hok t _ h
  exact ⟨t, o, _, n, rfl, e1, e2, e3, by simpa using rv.ints⟩
def vOf : Value → V
  | .ref a => .ref a
  | _ => .non
theorem pr_mem {α β : Type} {R : α → β → Prop} : ∀ {l : List α} {m : List β}, Paired R l m → ∀ y ∈ m, ∃ x ∈ l, R x y
  | _, _, .nil, y, h => by cases h
  | _, _, .cons r p, y, h => by
    rcases List.mem_cons.mp h with rfl | h
    · exact ⟨_, List.mem_cons_self, r⟩
    · obtain ⟨x, hx, rx⟩ := pr_mem p y h
      exact ⟨x, List.mem_cons_of_mem _ hx, rx⟩
theorem pr_mem' {α β : Type} {R : α → β → Prop} : ∀ {l : List α} {m : List β}, Paired R l m → ∀ x ∈ l, ∃ y ∈ m, R x y
  | _, _, .nil, y, h => by cases h
  | _, _, .cons r p, y, h => by
    rcases List.mem_cons.mp h with rfl | h
    · exact ⟨_, List.mem_cons_self, r⟩
    · obtain ⟨x, hx, rx⟩ := pr_mem' p y h
      exact ⟨x, List.mem_cons_of_mem _ hx, rx⟩
theorem cr_sortN (hu : X.A.units + 2 < cLine) : CallR X (.builtin "sorted") (rSortN X.K) := by
  intro pins s σ H vs us Q I r h
  obtain ⟨a, xs, nss, rfl, hs, hp, q⟩ := h
  obtain ⟨its, rv, hl, hz⟩ := I.list hs
  rw [Vals.ref1 r]
  have hit : ∀ u ∈ its, ∃ (t : Addr) (ns : List Int), u = Value.ref t ∧ V.ref t ∈ xs ∧ H t = some (.tup (ns.map V.int)) := fun u hu => by
    obtain ⟨x, hx, rx⟩ := pr_mem rv u hu
    obtain ⟨ns, _, t, rfl, e⟩ := pr_mem' hp x hx
    cases rx
    exact ⟨t, ns, rfl, hx, e⟩
  have tn : ∀ u ∈ its, ∃ ns, TupN s.heap u ns := fun u hu => by
    obtain ⟨t, ns, rfl, _, e⟩ := hit u hu
    exact ⟨ns, tupN_raw I e⟩
  have hns : its.map (ivT s.heap) = nss := by
    clear hit tn hl hz q hs
    induction hp generalizing its with
    | nil => cases rv; rfl
    | cons p hp ih =>
      cases rv with
      | cons r1 r2 =>
        obtain ⟨t, rfl, e⟩ := p
        cases r1
        rw [List.map_cons, (tupN_raw I e).iv, ih _ r2]
  refine SrtO.sorted_ord (swoT s.heap) hl.isList (by rw [← rv.length]; exact hz) (fun h2 h₁ a' ha' kk => ?_) fun out h1 h2 => ?_
  · have k1 : ∀ u ∈ its, ∃ ns, TupN h₁ u ns := fun u hu => by
      obtain ⟨ns, t⟩ := tn u hu
      exact ⟨ns, t.keeps fun b o e _ => (kk b o e).2⟩
    have z := tuples_sortable (prog := X.prog) (w := X.w) (A := X.A.in1.in1) (s := { s with heap := h₁ }) (a := a') (vs := its) (by simp only [Around.in1_units]; omega) h2 k1 (fun o e => by
      have e' : some o = some (seqObj "list" its.toArray 0) := e.symm.trans ha'
      cases e'
      intro c
      exact absurd (Value.type.inj c) (by decide))
    intro h' keep
    obtain ⟨κ, z1, z2⟩ := z h' keep
    refine ⟨κ, z1, fun p q hm hm' => ?_⟩
    have e : SrtO.lt2 (ltT h₁) p q = SrtO.lt2 (ltT s.heap) p q := by
      obtain ⟨ns, t⟩ := tn p.1 hm
      obtain ⟨ms, t'⟩ := tn q.1 hm'
      show ltT h₁ p.1 q.1 = ltT s.heap p.1 q.1
      unfold ltT
      rw [t.iv, t'.iv, (t.keeps fun b o e _ => (kk b o e).2).iv, (t'.keeps fun b o e _ => (kk b o e).2).iv]
    have zz := z2 p q hm hm'
    rw [e] at zz
    exact zz
  · obtain ⟨ep, he'⟩ := PyProof.Rows.sortedAll_at s.heap its out.toArray
    have hperm : out.Perm its := h2.perm
    have hso : out.map (ivT s.heap) = sortN nss := by
      refine sorted_uniq (List.pairwise_map.mpr (h1.imp fun {x y} z => z)) (sortN_sorted _) ?_
      rw [← hns]
      exact (hperm.map _).trans (sortN_perm _).symm
    have hout : ∀ u ∈ out, ∃ (t : Addr) (ns : List Int), u = Value.ref t ∧ V.ref t ∈ xs ∧ H t = some (.tup (ns.map V.int)) := fun u hu => hit u (hperm.mem_iff.mp hu)
    have hv : ∀ {l : List Value}, (∀ u ∈ l, ∃ (t : Addr) (ns : List Int), u = Value.ref t ∧ V.ref t ∈ xs ∧ H t = some (.tup (ns.map V.int))) → Vals (l.map vOf) l ∧ Paired (fun x ns => ∃ t, x = V.ref t ∧ V.ref t ∈ xs ∧ H t = some (.tup (ns.map V.int))) (l.map vOf) (l.map (ivT s.heap)) := fun {l} => by
      induction l with
      | nil => exact fun _ => ⟨.nil, .nil⟩
      | cons u l ih =>
        intro hh
        obtain ⟨i1, i2⟩ := ih fun u hu => hh u (List.mem_cons_of_mem _ hu)
        obtain ⟨t, ns, rfl, m, e⟩ := hh u List.mem_cons_self
        exact ⟨.cons rfl i1, .cons ⟨t, rfl, m, by rw [(tupN_raw I e).iv]; exact e⟩ i2⟩
    obtain ⟨v1, v2⟩ := hv hout
    rw [hso] at v2
    have hlen : (out.map vOf).length ≤ sizeLine := by
      rw [List.length_map, hperm.length_eq, ← rv.length]
      exact hz
    exact ⟨.ref _, upd H (s.heap.objs.size + 1) (.lst (out.map vOf)), I.laid (t' := s.toks) (fun _ _ => PyProof.Rows.sortedAll_old) (Nat.le_succ _) ⟨hlen, out, ep, v1, he'⟩, rfl, q _ _ v2 (I.hok.fresh (Nat.le_succ _))⟩
theorem sortN_ok {live : Bool} : OpA D w Wx (rSortN K) (fSortN live) := by
  intro σ F H as μ us vs Q S r P
  unfold fSortN at P
  split at P
  · rename_i u
    obtain ⟨v, rfl, h⟩ := rw1 r
    split at P
    · rename_i ws q
      split at P
      · rename_i nss qn
        obtain ⟨a, xs, rfl, e, rr⟩ := getL_ok S q h
        have e0 := rowsW_eq qn
        subst e0
        have hT : ∀ {x : V} {ns : List Int}, RW D w F as (.t (rowT ns)) x → ∃ t, x = V.ref t ∧ F t = some (.tup (ns.map V.int)) := fun {x ns} r => by
          simp only [RW, rowT, RT] at r
          obtain ⟨t, vs, rfl, e, r⟩ := r
          rw [rts_ints r] at e
          exact ⟨t, rfl, e⟩
        have pp : ∀ {nss : List (List Int)} {xs : List V}, RWs D w F as (nss.map fun ns => .t (rowT ns)) xs → Paired (fun x ns => ∃ t, x = V.ref t ∧ H t = some (.tup (ns.map V.int))) xs nss := fun {nss} => by
          induction nss with
          | nil => intro xs r; simp only [List.map_nil, RWs] at r; subst r; exact .nil
          | cons ns nss ih =>
            intro xs r
            simp only [List.map_cons, RWs] at r
            obtain ⟨v, r', rfl, r1, r2⟩ := r
            obtain ⟨t, e1, e2⟩ := hT r1
            exact .cons ⟨t, e1, S.sub _ _ e2⟩ (ih r2)
        have hall : ∀ t ns, V.ref t ∈ xs → H t = some (.tup (ns.map V.int)) → RW D w F as (.t (rowT ns)) (.ref t) := fun t ns hm e => by
          obtain ⟨i, hi⟩ := List.mem_iff_getElem?.mp hm
          obtain ⟨u, hu, ru⟩ := rr.at' hi
          rw [List.getElem?_map] at hu
          cases qi : nss[i]? with
          | none => rw [qi] at hu; cases hu
          | some ms =>
            rw [qi] at hu
            cases hu
            obtain ⟨t', e1, e2⟩ := hT ru
            cases e1
            have e3 := S.sub _ _ e2
            rw [e] at e3
            have e4 : ns.map V.int = ms.map V.int := by simpa using e3
            have e5 : ns = ms := by
              have := congrArg (List.map fun v => match v with | V.int i => i | _ => 0) e4
              simpa [List.map_map, Function.comp_def] using this
            subst e5
            exact ru
        refine ⟨a, xs, nss, rfl, .inl e, pp rr, fun ys p hy hp => Po.lst P S ?_ hp⟩
        generalize hm : sortN nss = mss at hy
        clear hm
        induction hy with
        | nil => simp [RWs]
        | cons p hy ih =>
          obtain ⟨t, rfl, m, e⟩ := p
          simp only [List.map_cons, RWs]
          exact ⟨_, _, rfl, hall _ _ m e, ih⟩
      · exact P.elim
    · exact P.elim
  · exact P.elim
/-! ### all -/
def boolsW : List W → Option (List Bool)
  | [] => some []
  | .t (.bl b) :: us => (boolsW us).map (b :: ·)
  | _ :: _ => none
theorem boolsW_ok {F : Hp} {as : List Addr} : ∀ {us : List W} {ys : List Bool} {vs : List V}, boolsW us = some ys → RWs D w F as us vs → vs = ys.map V.bl
  | [], ys, vs, h, r => by
    simp only [boolsW, Option.some.injEq] at h; subst h
    simpa only [RWs, List.map_nil] using r
  | u :: us, ys, vs, h, r => by
    cases u with
    | t t =>
      cases t <;> simp only [boolsW, reduceCtorEq] at h
      rename_i x
      cases q : boolsW us with
      | none => rw [q] at h; simp at h
      | some zs =>
        rw [q] at h
        simp only [Option.map_some, Option.some.injEq] at h; subst h
        simp only [RWs, RW, RT] at r
        obtain ⟨v, vs', rfl, rfl, r⟩ := r
        simp [boolsW_ok q r]
    | ref n => simp [boolsW] at h
    | tup ws => simp [boolsW] at h
def fAll (us : List W) (μ : Mem) : R W := match us with
  | [u] => match getL u μ with
    | some ws => match boolsW ws with
      | some bs => .ok (.t (.bl (bs.all id))) μ
      | none => .stuck
    | none => .stuck
  | _ => .stuck
theorem all_ok : OpA D w Wx (rAll K) fAll := by
  intro σ F H as μ us vs Q S r P
  unfold fAll at P
  split at P
  · obtain ⟨v, rfl, h⟩ := rw1 r
    split at P
    · rename_i ws q
      split at P
      · rename_i bs qb
        obtain ⟨a, vs, rfl, e, r⟩ := getL_ok S q h
        rw [boolsW_ok qb r] at e
        exact ⟨a, bs, rfl, .inl e, Po.now P S (by simp only [relW, RW, RT])⟩
      · exact P.elim
    · exact P.elim
  · exact P.elim
/-! ### zip -/
def zips : List W → List W → List W
  | a :: as, b :: bs => mkTup [a, b] :: zips as bs
  | _, _ => []
theorem zips_at : ∀ {as bs : List W} {i : Nat} {y : W}, (zips as bs)[i]? = some y → ∃ a b, as[i]? = some a ∧ bs[i]? = some b ∧ y = mkTup [a, b]
  | a :: as, b :: bs, 0, y, h => by
    simp only [zips, List.getElem?_cons_zero, Option.some.injEq] at h
    exact ⟨a, b, rfl, rfl, h.symm⟩
  | a :: as, b :: bs, i + 1, y, h => by
    simp only [zips, List.getElem?_cons_succ] at h
    obtain ⟨a', b', h1, h2, h3⟩ := zips_at h
    exact ⟨a', b', by simpa using h1, by simpa using h2, h3⟩
  | [], bs, i, y, h => by simp [zips] at h
  | a :: as, [], i, y, h => by simp [zips] at h
theorem zips_len : ∀ {as bs : List W}, (zips as bs).length = min as.length bs.length
  | a :: as, b :: bs => by simp only [zips, List.length_cons, zips_len (as := as) (bs := bs)]; omega
  | [], bs => by simp [zips]
  | a :: as, [] => by simp [zips]
def kZip (us : List W) (μ : Mem) : R WK := match us with
  | [u, v] => match getL u μ, getL v μ with
    | some xs, some ys => mkWK (fun μ => getL u μ = some xs ∧ getL v μ = some ys) (zips xs ys) μ
    | _, _ => .stuck
  | _ => .stuck
def iZp (ms : MA) : MI := fun e μ => (ms e μ).bind kZip
theorem walks_zip {u v : W} {xs ys : List W} {a b : Addr} {F : Hp} {as : List Addr} (r : RW D w F as u (.ref a)) (r' : RW D w F as v (.ref b)) : Walks D w (Itz K a b) (fun μ => getL u μ = some xs ∧ getL v μ = some ys) (zips xs ys) F as := by
  intro i F' H as' μ S hs ha hg
  obtain ⟨a', vs, z1, z2, rr⟩ := getL_ok S hg.1 (RW.mono hs ha _ _ r)
  cases z1
  obtain ⟨b', us, y1, y2, rr'⟩ := getL_ok S hg.2 (RW.mono hs ha _ _ r')
  cases y1
  refine ⟨fun y hy => ?_, fun hi => ⟨vs, us, .inl z2, .inl y2, by rw [← rr.len, ← rr'.len]; rw [zips_len] at hi; omega⟩⟩
  obtain ⟨x, x', h1, h1', rfl⟩ := zips_at hy
  obtain ⟨v1, h2, h3⟩ := rr.at_ h1
  obtain ⟨v2, h2', h3'⟩ := rr'.at_ h1'
  refine ⟨⟨vs, us, v1, v2, .inl z2, .inl y2, h2, h2'⟩, fun v' H' ⟨T, p, p', ev, hT, eH, hc, hc'⟩ => ?_⟩
  subst ev eH
  have h4 := hc vs (.inl z2)
  rw [h2] at h4
  cases h4
  have h4' := hc' us (.inl y2)
  rw [h2'] at h4'
  cases h4'
  exact newTup S hT (by simp only [RWs]; exact ⟨_, _, rfl, h3, _, _, rfl, h3', rfl⟩)
theorem xi_zip {e e2 : Expr} {ms : MA} {p pos tpos : Pos} {elts : List Expr} {kk : Nat} (hg : Gl X "zip") (hm : X.mg "zip" = none) (ha : PA X [e, e2] (RdA D w Wx ms)) (hs : starEach [e, e2] X.env = (false, eval e X.env) :: starEach [e2] X.env) (hpl : (backTo pos (starEach [e2] X.env)).any (·.1) = false) :
    PI X (.Tuple elts kk tpos) (.Call (.Name "zip" p) [e, e2] [] pos) (RdI D w Wx (iZp ms)) :=
  PI.weak (pi_zip hg hm ha hs hpl) fun σ H R ⟨F, as, μ, e, S, E, P⟩ => ⟨F, as, μ, e, S, E, PoI.bind P fun us μ1 F1 H1 as1 vs X1 S1 R1 P1 => by
    unfold kZip at P1
    split at P1
    · rename_i u v
      split at P1
      · rename_i xs ys qx qy
        obtain ⟨v1, v2, rfl, r1, r2⟩ := rw2 R1
        obtain ⟨a, vs, rfl, e1, rr⟩ := getL_ok S1 qx r1
        obtain ⟨b, us, rfl, e2, rr'⟩ := getL_ok S1 qy r2
        exact ⟨a, b, vs, us, rfl, .inl e1, .inl e2, RdI.mk S1 P1 (walks_zip r1 r2)⟩
      · exact P1.elim
    · exact P1.elim⟩
/-! ### a[i], b[j] = .. -/
def sSet2 (mv mo mi mo2 mi2 : ME) : MS := fun e μ => (mv e μ).st e fun v μ1 => match getTP v with
  | some [v1, v2] => (mo e μ1).st e fun o μ2 => (mi e μ2).st e fun i μ3 => match setX o i v1 μ3 with
    | some μ4 => (mo2 e μ4).st e fun o μ5 => (mi2 e μ5).st e fun i μ6 => match setX o i v2 μ6 with
      | some μ7 => .nx e μ7
      | none => .stuck
    | none => .stuck
  | _ => .stuck
theorem setX_ok {F H : Hp} {as : List Addr} {μ μ' : Mem} {o i v : W} {x y z : V} {Q : Hp → Prop} (S : Sim D w F H as μ) (h : setX o i v μ = some μ') (r1 : RW D w F as o x) (r2 : RW D w F as i y) (r3 : RW D w F as v z)
    (q : ∀ H', Ext F H as F H' as → Sim D w F H' as μ' → Q H') : rSetX w x y z H Q := by
  unfold setX at h
  cases e : setD o i v μ with
  | some μ4 =>
    simp only [e, Option.some.injEq] at h
    subst h
    exact .inl (setD_ok S e r1 r2 r3 q)
  | none =>
    simp only [e] at h
    exact .inr (setL_ok S h r1 r2 r3 q)
theorem xs_set2 {o i o2 i2 e : Expr} {mv mo mi mo2 mi2 : ME} {p1 p2 tp pos : Pos} {kk : Nat} (hw : X.w = w) (hc : X.calm = true) (hu : X.A.units + 9 < cLine) (hv : PE X e (RdE D w Wx mv)) (ho : PE X o (RdE D w Wx mo)) (hi : PE X i (RdE D w Wx mi)) (ho2 : PE X o2 (RdE D w Wx mo2)) (hi2 : PE X i2 (RdE D w Wx mi2))
    (hn : (assignEach [.Subscript o i p1, .Subscript o2 i2 p2] X.env).length = 2) (hst : (assignEach [.Subscript o i p1, .Subscript o2 i2 p2] X.env).findIdx? (·.1) = none)
    (he1 : (assignEach [.Subscript o i p1, .Subscript o2 i2 p2] X.env).map (·.2) = assign (.Subscript o i p1) X.env :: (assignEach [.Subscript o2 i2 p2] X.env).map (·.2)) (he2 : (assignEach [.Subscript o2 i2 p2] X.env).map (·.2) = assign (.Subscript o2 i2 p2) X.env :: (assignEach [] X.env).map (·.2))
    (hs : swapsWithSole [.Tuple [.Subscript o i p1, .Subscript o2 i2 p2] kk tp] e pos.line X.env = pure false) (hsw : swappedStores [.Tuple [.Subscript o i p1, .Subscript o2 i2 p2] kk tp] e X.env = pure none)
    (h1 : (assignEach [.Tuple [.Subscript o i p1, .Subscript o2 i2 p2] kk tp] X.env).map (·.2) = [assign (.Tuple [.Subscript o i p1, .Subscript o2 i2 p2] kk tp) X.env])
    (ha : ∀ v, assign (.Subscript o i p1) X.env v = (do
      let ov ← holding [v] (eval o X.env)
      let iv ← holding [v, ov] (eval i X.env)
      standAt p1
      holding [v, ov, iv] (setItem ov iv v)
      release [v, ov, iv] []))
    (ha2 : ∀ v, assign (.Subscript o2 i2 p2) X.env v = (do
      let ov ← holding [v] (eval o2 X.env)
      let iv ← holding [v, ov] (eval i2 X.env)
      standAt p2
      holding [v, ov, iv] (setItem ov iv v)
      release [v, ov, iv] [])) : PS X (.Assign [.Tuple [.Subscript o i p1, .Subscript o2 i2 p2] kk tp] e pos) (RdS D w Wx (sSet2 mv mo mi mo2 mi2)) := by
  subst hw
  refine PS.weak (ps_asg hv (pg_tup hc (pgs_cons (pg_sub ho hi (set_X hu) ha) (pgs_cons (pg_sub ho2 hi2 (set_X hu) ha2) pgs_nil he2) he1) hn hst) hs hsw h1) fun N σ H ⟨F, as, μ, e, S, E, P⟩ => ⟨F, as, μ, e, S, E, PoS.ex P E fun u μ1 F1 H1 as1 v X1 S1 E1 R1 P1 => ?_⟩
  split at P1
  · rename_i v1 v2 qt
    obtain ⟨a, vs, rfl, _, e1, rr⟩ := getTP_ok S1 qt R1
    obtain ⟨x1, x2, rfl, rx1, rx2⟩ := rw2 rr
    refine ⟨a, [x1, x2], rfl, .inl e1, rfl, x1, [x2], rfl, F1, as1, μ1, e, S1, E1, PoS.ex P1 E1 fun o μ2 F2 H2 as2 vo X2 S2 E2 R2 P2 => ⟨F2, as2, μ2, e, S2, E2, PoS.ex P2 E2 fun i μ3 F3 H3 as3 vi X3 S3 E3 R3 P3 => ?_⟩⟩
    have X13 := X2.trans X3 S2.there
    split at P3
    · rename_i μ4 q4
      refine setX_ok S3 q4 (RW.mono X3.fs X3.pre _ _ R2) R3 (RW.mono X13.fs X13.pre _ _ rx1) fun H' X' S' => ?_
      have P4 := PoS.from P3 X' S'.there
      have E4 := E3.mono X'.fs X'.pre
      refine ⟨x2, [], rfl, F3, as3, μ4, e, S', E4, PoS.ex P4 E4 fun o μ5 F5 H5 as5 vo X5 S5 E5 R5 P5 => ⟨F5, as5, μ5, e, S5, E5, PoS.ex P5 E5 fun i μ6 F6 H6 as6 vi X6 S6 E6 R6 P6 => ?_⟩⟩
      have X46 := X5.trans X6 S5.there
      split at P6
      · rename_i μ7 q7
        exact setX_ok S6 q7 (RW.mono X6.fs X6.pre _ _ R5) R6 (RW.mono X46.fs X46.pre _ _ (RW.mono X13.fs X13.pre _ _ rx2)) fun H' X' S' => ⟨rfl, P6 F6 H' as6 σ X' S' E6⟩
      · exact P6.elim
    · exact P3.elim
  · exact P1.elim
end
end HQ
/-! HQU: nodes: classes made, methods called, fields. -/
namespace HQ
open PySem PySem.Spec PyProof.Rows L2

/-- the body of a class -/
def clsB : Stmt → List Stmt
  | .ClassDef _ _ _ b .. => b
  | _ => []
/-- a class of the module, by its __init__ -/
def Ck (P : Program) (K : PySem.W.Frag) (mg : Str → Option Value) (base : Heap) (D : Ad) (w : World) (k : Nat) (x : Str) (c n : Nat) (f : MF) : Prop :=
  mg x = some (.ref (D.ca c)) ∧ ∃ fA fd ps, Mk K (D.ca c) fA ∧ FnOk P w K mg base (L2.CX P w) k fA fd ps (spF D w n f) ∧ Binds K fd ps []
/-- a method of the class c -/
def Mtk (P : Program) (K : PySem.W.Frag) (mg : Str → Option Value) (base : Heap) (D : Ad) (w : World) (k : Nat) (m : Str) (c n : Nat) (f : MF) : Prop :=
  Cls K (D.ca c) ∧ ∃ g fd ps, Meth K (D.ca c) m g ∧ FnOk P w K mg base (L2.CX P w) k g fd ps (spF D w n f) ∧ Binds K fd ps []
/-- a new instance, frozen at once or not -/
def mkG (fz : Bool) (c n : Nat) (f : MF) : MF := match fz with
  | true => frzF (mkF c (callF f n [] false))
  | false => mkF c (callF f n [] false)
def tbM (L : List (Nat × MF)) : Nat → Option MF := fun c => L.lookup c
section
variable {X : Cx} {D : Ad} {w : World} {Wx : WX} {k : Nat} {is ls : List Nat} {gs bs : List Str} (c : Sc X D w Wx k is ls gs bs)
include c
theorem make_to (fz : Bool) {x : Str} {ci n kf : Nat} {f : MF} (F : Ck X.prog X.K X.mg X.base D X.w kf x ci n f) (hk : kf + 1 ≤ k) : CallsTo X D w Wx (.ref (D.ca ci)) (mkG fz ci n f) ∧ PySem.W.keepIn X.K (.ref (D.ca ci)) = true := by
  obtain ⟨h1, fA, fd, ps, h2, h3, h4⟩ := F
  have hw := c.hw
  subst hw
  have m : CallsTo X D X.w Wx (.ref (D.ca ci)) (mkF ci (callF f n [] false)) := CallsTo.make h2 h3 (c.room.mono hk) h4 .nil (fun F => by simp only [RTs]) c.tk
  refine ⟨?_, h2.kp⟩
  cases fz with
  | true => exact m.frz
  | false => exact m
theorem nMake (fz : Bool) (j : Nat) {x : Str} (h : gs[j]? = some x) {ci n kf : Nat} {f : MF} (F : Ck X.prog X.K X.mg X.base D X.w kf x ci n f) (hk : kf + 1 ≤ k) {e : Expr} {es : List Expr} {ms : MA} {p pos : Pos} (ha : PA X (e :: es) (RdA D w Wx ms))
    (he : starEach (e :: es) X.env = (false, eval e X.env) :: starEach es X.env) (hpl : (backTo pos (starEach es X.env)).any (·.1) = false) : PE X (.Call (.Name x p) (e :: es) [] pos) (RdE D w Wx (mA (mkG fz ci n f) ms)) :=
  have q := make_to c fz F hk
  xe_callV q.1 (c.gl j x h).1 F.1 q.2 ha (c.gl j x h).2 he hpl
theorem nMake0 (fz : Bool) (j : Nat) {x : Str} (h : gs[j]? = some x) {ci n kf : Nat} {f : MF} (F : Ck X.prog X.K X.mg X.base D X.w kf x ci n f) (hk : kf + 1 ≤ k) {p pos : Pos} : PE X (.Call (.Name x p) [] [] pos) (RdE D w Wx (mA (mkG fz ci n f) aNil)) :=
  have q := make_to c fz F hk
  xe_callV0 q.1 (c.gl j x h).1 F.1 q.2 (c.gl j x h).2
omit c in
theorem mt_nil {m : Str} : MethTo X D w Wx m (tbM []) := fun c f h => by cases h
theorem mt_cons {m : Str} {ci n kf : Nat} {f : MF} {L : List (Nat × MF)} (pu : Bool) (M : Mtk X.prog X.K X.mg X.base D X.w kf m ci n f) (hk : kf ≤ k) (r : MethTo X D w Wx m (tbM L)) : MethTo X D w Wx m (tbM ((ci, callF f n [] pu) :: L)) := fun c' g h => by
  have h : List.lookup c' ((ci, callF f n [] pu) :: L) = some g := h
  by_cases e : c' = ci
  · subst e
    rw [List.lookup_cons, beq_self_eq_true] at h
    cases h
    obtain ⟨h1, g, fd, ps, h2, h3, h4⟩ := M
    have hw := c.hw
    subst hw
    refine ⟨h1, g, h2, fun pins σ H s us vs Q I r ⟨F, as, μ, ws, S, R, P⟩ => ?_⟩
    exact run_fnSD h3 (c.room.mono hk) h4 .nil (passAt c.tk σ) I r (callF_ok S R (fun F => by simp only [RTs]) P)
  · rw [List.lookup_cons, show (c' == ci) = false from beq_eq_false_iff_ne.mpr e] at h
    exact r c' g h
theorem c_u9 : X.A.units + 9 < cLine := by have := c.room.un; omega
end
section
variable {X : Cx} {D : Ad} {w : World} {Wx : WX} {k : Nat} {is ls : List Nat} {gs bs : List Str} (c : Sc X D w Wx k is ls gs bs) {a b e : Expr} {es : List Expr} {ma mb : ME} {ms : MA} {p pos : Pos}
include c
theorem nMulX (live : Bool) (ha : PE X a (RdE D w Wx ma)) (hb : PE X b (RdE D w Wx mb)) : PE X (.BinOp a .Mult b pos) (RdE D w Wx (m2 (fMulX live) ma mb)) := xe_op op_mulX mulX_ok ha hb
theorem nSorted (live : Bool) (j : Nat) (h : bs[j]? = some "sorted") (ha : PA X (e :: es) (RdA D w Wx ms)) (he : starEach (e :: es) X.env = (false, eval e X.env) :: starEach es X.env) (hpl : (backTo pos (starEach es X.env)).any (·.1) = false) :
    PE X (.Call (.Name "sorted" p) (e :: es) [] pos) (RdE D w Wx (mA (fSortN live) ms)) := callB c j h (cr_sortN (by have := c.room.un; omega)) sortN_ok PyProof.Rows.boot_sorted ha he hpl
theorem nAll (j : Nat) (h : bs[j]? = some "all") (ha : PA X (e :: es) (RdA D w Wx ms)) (he : starEach (e :: es) X.env = (false, eval e X.env) :: starEach es X.env) (hpl : (backTo pos (starEach es X.env)).any (·.1) = false) :
    PE X (.Call (.Name "all" p) (e :: es) [] pos) (RdE D w Wx (mA fAll ms)) := callB c j h (cr_all c.calm) all_ok PyProof.Rows.boot_all ha he hpl
end
end HQ
/-! HQX: rules for reading meanings: memory, classes, rows. -/
namespace HQ
open PySem PySem.Spec PyProof.Rows L2

/-! ### memory -/
section
variable {μ ν : Mem} {n m : Nat} {o y : O}
theorem at_lt (h : μ[n]? = some o) : n < μ.length := (List.getElem?_eq_some_iff.mp h).1
theorem at_same (h : μ[n]? = some o) : (μ.set n y)[n]? = some y := List.getElem?_set_self (at_lt h)
theorem at_ne (e : m ≠ n) (h : μ[m]? = some o) : (μ.set n y)[m]? = some o := by rw [List.getElem?_set_ne (Ne.symm e)]; exact h
theorem at_app (h : μ[m]? = some o) : (μ ++ ν)[m]? = some o := by rw [List.getElem?_append_left (at_lt h)]; exact h
theorem at_new : (μ ++ [o])[μ.length]? = some o := by simp
theorem set_same' (h : μ[n]? = some o) : μ.set n o = μ := by
  obtain ⟨hn, rfl⟩ := List.getElem?_eq_some_iff.mp h
  exact List.set_getElem_self hn
end
section
variable {α : Type} {Q : W → Mem → Prop} {QA : List W → Mem → Prop} {QK : WK → Mem → Prop} {X : XV → Mem → Prop} {e : En} {μ : Mem} {nx ct bk nx' ct' bk' : En → Mem → Prop} {rt rt' : W → Mem → Prop} {ex ex' : XV → En → Mem → Prop}
theorem atI_l0 {α : Type} {a : α} {l : List α} : atI (a :: l) 0 = some a := atI_nat (j := 0) rfl
theorem ixN_l0 {m : Nat} : ixN (m + 1) 0 = some 0 := by simp [ixN] <;> omega
theorem atI_l1 {α : Type} {a b : α} {l : List α} : atI (a :: b :: l) 1 = some b := atI_nat (j := 1) rfl
theorem ixN_l1 {m : Nat} : ixN (m + 2) 1 = some 1 := by simp [ixN] <;> omega
theorem atI_l2 {α : Type} {a b c : α} {l : List α} : atI (a :: b :: c :: l) 2 = some c := atI_nat (j := 2) rfl
theorem ixN_l2 {m : Nat} : ixN (m + 3) 2 = some 2 := by simp [ixN] <;> omega
theorem atI_l3 {α : Type} {a b c d : α} {l : List α} : atI (a :: b :: c :: d :: l) 3 = some d := atI_nat (j := 3) rfl
theorem ixN_l3 {m : Nat} : ixN (m + 4) 3 = some 3 := by simp [ixN] <;> omega
theorem atI_l4 {α : Type} {a b c d e : α} {l : List α} : atI (a :: b :: c :: d :: e :: l) 4 = some e := atI_nat (j := 4) rfl
theorem ixN_l4 {m : Nat} : ixN (m + 5) 4 = some 4 := by simp [ixN] <;> omega
theorem atI_l5 {α : Type} {a b c d e f : α} {l : List α} : atI (a :: b :: c :: d :: e :: f :: l) 5 = some f := atI_nat (j := 5) rfl
theorem ixN_l5 {m : Nat} : ixN (m + 6) 5 = some 5 := by simp [ixN] <;> omega
theorem atI_l6 {α : Type} {a b c d e f g : α} {l : List α} : atI (a :: b :: c :: d :: e :: f :: g :: l) 6 = some g := atI_nat (j := 6) rfl
theorem ixN_l6 {m : Nat} : ixN (m + 7) 6 = some 6 := by simp [ixN] <;> omega
theorem atI_l7 {α : Type} {a b c d e f g h : α} {l : List α} : atI (a :: b :: c :: d :: e :: f :: g :: h :: l) 7 = some h := atI_nat (j := 7) rfl
theorem ixN_l7 {m : Nat} : ixN (m + 8) 7 = some 7 := by simp [ixN] <;> omega
theorem atI_l8 {α : Type} {a b c d e f g h i : α} {l : List α} : atI (a :: b :: c :: d :: e :: f :: g :: h :: i :: l) 8 = some i := atI_nat (j := 8) rfl
theorem ixN_l8 {m : Nat} : ixN (m + 9) 8 = some 8 := by simp [ixN] <;> omega
theorem atI_l9 {α : Type} {a b c d e f g h i j : α} {l : List α} : atI (a :: b :: c :: d :: e :: f :: g :: h :: i :: j :: l) 9 = some j := atI_nat (j := 9) rfl
theorem ixN_l9 {m : Nat} : ixN (m + 10) 9 = some 9 := by simp [ixN] <;> omega
theorem atI_l10 {α : Type} {a b c d e f g h i j k : α} {l : List α} : atI (a :: b :: c :: d :: e :: f :: g :: h :: i :: j :: k :: l) 10 = some k := atI_nat (j := 10) rfl
theorem ixN_l10 {m : Nat} : ixN (m + 11) 10 = some 10 := by simp [ixN] <;> omega
theorem atI_l11 {α : Type} {a b c d e f g h i j k m : α} {l : List α} : atI (a :: b :: c :: d :: e :: f :: g :: h :: i :: j :: k :: m :: l) 11 = some m := atI_nat (j := 11) rfl
theorem ixN_l11 {m : Nat} : ixN (m + 12) 11 = some 11 := by simp [ixN] <;> omega
/-! ### fields -/
def fFld (ok : Nat → Str → Bool) (f : Str) (u : W) (μ1 : Mem) : R W := match insAt u μ1 with
  | some (c, ns, ws) => if ok c f = true then (match lookW ns ws f with
    | some v => .ok v μ1
    | none => .stuck) else .stuck
  | none => .stuck
theorem w_mFld {ok : Nat → Str → Bool} {m : ME} {f : Str} (h : Wp (m e μ) (fun u μ1 => Wp (fFld ok f u μ1) Q X) X) : Wp (mFld ok m f e μ) Q X := w_bind h
theorem w_fFld {ok : Nat → Str → Bool} {f : Str} {u : W} {c : Nat} {ns : List Str} {ws : List W} {v : W} (h1 : insAt u μ = some (c, ns, ws)) (h2 : ok c f = true) (h3 : lookW ns ws f = some v) (h : Q v μ) : Wp (fFld ok f u μ) Q X := by
  simp only [fFld, h1, h2, if_true, h3]; exact h
theorem insAt_at {n : Nat} {c : Nat} {ns : List Str} {ws : List W} (h : μ[n]? = some (.ins c ns ws)) : insAt (.ref n) μ = some (c, ns, ws) := by simp only [insAt, h]
theorem ws_fldS {ok : Nat → Str → Bool} {a b : ME} {f : Str} (h : Wp (a e μ) (fun v μ1 => Wp (b e μ1) (fun o μ2 => ∃ n c ns ws, o = .ref n ∧ μ2[n]? = some (.ins c ns ws) ∧ (ok c f = true ∧ ns.length < 1000) ∧ nx e (μ2.set n (.ins c (putW f v ns ws).1 (putW f v ns ws).2))) (fun x μ => ex x e μ)) (fun x μ => ex x e μ)) : WpS (sFldS ok a b f e μ) nx rt ct bk ex :=
  ws_st (h.imp (fun _ _ h => ws_st (h.imp (fun _ _ ⟨n, c, ns, ws, h1, h2, h3, h⟩ => by
    subst h1
    simp only [h2]
    rw [if_pos h3]
    exact h) fun _ _ h => h)) fun _ _ h => h)
/-! ### methods, instances -/
theorem w_mMe {m : Str} {tb : Nat → Option MF} {a : ME} {as : MA} (h : Wp (a e μ) (fun u μ1 => ∃ c ns ws f, insAt u μ1 = some (c, ns, ws) ∧ ns.elem m = false ∧ tb c = some f ∧ Wp (as e μ1) (fun us μ2 => Wp (f (u :: us) μ2) Q X) X) X) : Wp (mMe m tb a as e μ) Q X :=
  w_bind (h.imp (fun _ _ ⟨c, ns, ws, f, h1, h2, h3, h⟩ => by simp only [h1, h2, h3, if_true]; exact w_bind h) fun _ _ h => h)
theorem w_mkF {c n : Nat} {f : MF} {us : List W} (hn : us.length + 1 = n) (h : Wp (f (.ref μ.length :: us) (μ ++ [.ins c [] []])) (fun v ν => v = .t .non ∧ Q (.ref μ.length) ν) X) : Wp (mkG false c n f us μ) Q X := by
  show Wp (mkF c (callF f n [] false) us μ) Q X
  have e : callF f n [] false (.ref μ.length :: us) (μ ++ [.ins c [] []]) = f (.ref μ.length :: us) (μ ++ [.ins c [] []]) := by
    simp only [callF, List.map_nil, List.append_nil, List.length_cons, hn, if_true, Bool.false_eq_true, if_false]
  unfold mkF
  rw [e]
  cases q : f (.ref μ.length :: us) (μ ++ [.ins c [] []]) with
  | ok v ν =>
    rw [q] at h
    obtain ⟨rfl, h⟩ := h
    exact h
  | exc x ν => rw [q] at h; exact h
  | stuck => rw [q] at h; exact h
/-! ### o[i] = v -/
theorem ws_setX {a b c : ME} (h : Wp (a e μ) (fun v μ1 => Wp (b e μ1) (fun o μ2 => Wp (c e μ2) (fun i μ3 => ∃ μ4, setX o i v μ3 = some μ4 ∧ nx e μ4) (fun x μ => ex x e μ)) (fun x μ => ex x e μ)) (fun x μ => ex x e μ)) : WpS (sSetX a b c e μ) nx rt ct bk ex :=
  ws_st (h.imp (fun _ _ h => ws_st (h.imp (fun _ _ h => ws_st (h.imp (fun _ _ ⟨_, c, h⟩ => by simp only [c]; exact h) fun _ _ h => h)) fun _ _ h => h)) fun _ _ h => h)
theorem setX_at {n : Nat} {ws : List W} {k : Int} {j : Nat} {v : W} (h : μ[n]? = some (.lst ws)) (hk : ixN ws.length k = some j) : setX (.ref n) (.t (.int k)) v μ = some (μ.set n (.lst (ws.set j v))) := by
  simp only [setX, setD, h, setL, hk]
theorem ws_set2 {a b c d f : ME} (h : Wp (a e μ) (fun v μ1 => ∃ v1 v2, getTP v = some [v1, v2] ∧ Wp (b e μ1) (fun o μ2 => Wp (c e μ2) (fun i μ3 => ∃ μ4, setX o i v1 μ3 = some μ4 ∧ Wp (d e μ4) (fun o μ5 => Wp (f e μ5) (fun i μ6 => ∃ μ7, setX o i v2 μ6 = some μ7 ∧ nx e μ7) (fun x μ => ex x e μ)) (fun x μ => ex x e μ)) (fun x μ => ex x e μ)) (fun x μ => ex x e μ)) (fun x μ => ex x e μ)) : WpS (sSet2 a b c d f e μ) nx rt ct bk ex :=
  ws_st (h.imp (fun _ _ ⟨_, _, q, h⟩ => by
    simp only [q]
    exact ws_st (h.imp (fun _ _ h => ws_st (h.imp (fun _ _ ⟨_, q, h⟩ => by
      simp only [q]
      exact ws_st (h.imp (fun _ _ h => ws_st (h.imp (fun _ _ ⟨_, q, h⟩ => by
        simp only [q]; exact h) fun _ _ h => h)) fun _ _ h => h)) fun _ _ h => h)) fun _ _ h => h)) fun _ _ h => h)
/-! ### methods of lists -/
theorem w_mBm {ty : W → Mem → Bool} {f : W → List W → Mem → R W} {a : ME} {as : MA} (h : Wp (a e μ) (fun u μ1 => ty u μ1 = true ∧ Wp (as e μ1) (fun us μ2 => Wp (f u us μ2) Q X) X) X) : Wp (mBm ty f a as e μ) Q X :=
  w_bind (h.imp (fun _ _ ⟨h1, h⟩ => by simp only [h1, if_true]; exact w_bind h) fun _ _ h => h)
theorem isLs_at {n : Nat} {ws : List W} (h : μ[n]? = some (.lst ws)) : isLs (.ref n) μ = true := by simp only [isLs, getL_at h, Option.isSome_some]
theorem w_app {n : Nat} {ws : List W} {y : W} (h : μ[n]? = some (.lst ws)) (hl : ws.length < bigL) (q : Q (.t .non) (μ.set n (.lst (ws ++ [y])))) : Wp (fApp (.ref n) [y] μ) Q X := by
  simp only [fApp, lsAt, h, hl, if_true, lsSet]; exact q
theorem w_pop {n : Nat} {ws : List W} {y : W} (h : μ[n]? = some (.lst ws)) (hy : ws.getLast? = some y) (q : Q y (μ.set n (.lst ws.dropLast))) : Wp (fPop (.ref n) [] μ) Q X := by
  simp only [fPop, lsAt, h, hy, lsSet]; exact q
theorem w_pop0 {n : Nat} {ws : List W} {y : W} (h : μ[n]? = some (.lst (y :: ws))) (q : Q y (μ.set n (.lst ws))) : Wp (fPopAt (.ref n) [.t (.int 0)] μ) Q X := by
  have e : seqIndex? 0 (y :: ws).length = some 0 := by
    unfold seqIndex?
    simp
  unfold fPopAt
  simp only [lsAt, h]
  rw [if_pos (by decide)]
  simp only [e, List.getElem?_cons_zero, List.eraseIdx_cons_zero, lsSet]
  exact q
theorem w_listL {live : Bool} {u : W} {ws : List W} (c : getL u μ = some ws) (h : Wp (mkL live ws μ) Q X) : Wp (fList live [u] μ) Q X := by simp only [fList, c]; exact h
theorem w_tupleL {u : W} {ws : List W} (c : getL u μ = some ws) (h : Q (mkPT ws) μ) : Wp (fTuple [u] μ) Q X := by simp only [fTuple, c]; exact h
theorem w_dic0 (h : Q (.t (.dic [] [])) μ) : Wp (mDic0 false e μ) Q X := h
theorem w_dic0l (h : Q (.ref μ.length) (μ ++ [.dic [] []])) : Wp (mDic0 true e μ) Q X := h
theorem w_mulXI {l : Bool} {i j : Int} (c : cMul i j = true) (h : Q (.t (.int (i * j))) μ) : Wp (fMulX l (.t (.int i)) (.t (.int j)) μ) Q X := w_mulI (l := l) c h
theorem w_mulXT {l : Bool} {a : W} {ws : List W} {k : Int} (c : getT a = some ws) (c2 : ws.length ≤ 1000 ∧ 0 < ws.length ∧ -(2 ^ 62) ≤ k ∧ k ≤ 1000) (h : Q (mkTup (List.replicate k.toNat ws).flatten) μ) : Wp (fMulX l a (.t (.int k)) μ) Q X := by
  simp only [fMulX, c]; exact w_if ⟨c2, h⟩
/-! ### rows -/
def rowW (ns : List Int) : W := .t (rowT ns)
theorem w_sortN {live : Bool} {u : W} {nss : List (List Int)} (c : getL u μ = some (nss.map rowW)) (h : Wp (mkL live ((sortN nss).map rowW) μ) Q X) : Wp (fSortN live [u] μ) Q X := by
  have e : rowsW (nss.map rowW) = some nss := rowsW_map nss
  simp only [fSortN, c, e]; exact h
theorem boolsW_map : ∀ bs : List Bool, boolsW (bs.map fun b => .t (.bl b)) = some bs
  | [] => rfl
  | b :: bs => by simp [boolsW, boolsW_map bs]
theorem w_all {u : W} {bs : List Bool} (c : getL u μ = some (bs.map fun b => .t (.bl b))) (h : Q (.t (.bl (bs.all id))) μ) : Wp (fAll [u] μ) Q X := by simp only [fAll, c, boolsW_map]; exact h
theorem w_iZp {ms : MA} (h : Wp (ms e μ) (fun us μ1 => Wp (kZip us μ1) QK X) X) : Wp (iZp ms e μ) QK X := w_bind h
theorem w_kZip {u v : W} {xs ys : List W} (c : getL u μ = some xs) (c2 : getL v μ = some ys) (hl : min xs.length ys.length ≤ bigL) (h : QK ⟨fun μ => getL u μ = some xs ∧ getL v μ = some ys, zips xs ys⟩ μ) : Wp (kZip [u, v] μ) QK X := by
  simp only [kZip, c, c2]; exact w_if ⟨by rw [zips_len]; exact hl, h⟩
theorem w_ltR {ns ms : List Int} (h : Q (.t (.bl (HT.lexLt ns ms))) μ) : Wp (fLt (rowW ns) (rowW ms) μ) Q X := by
  simp only [rowW, rowT, fLt, intsT_map]; exact h
theorem w_addLL {l : Bool} {a b : W} {xs ys : List W} (c : getLT a μ = some xs) (c2 : getLT b μ = some ys) (hl : xs.length + ys.length ≤ bigL) (h : Wp (mkL l (xs ++ ys) μ) Q X) : Wp (fAdd l a b μ) Q X := by
  unfold fAdd
  split
  · simp [getLT] at c
  · simp [getLT] at c
  · unfold fAddS
    simp only [c, c2]
    exact w_if ⟨hl, h⟩
theorem getT_LT {a : W} {ws : List W} (h : getT a = some ws) : getLT a μ = none := by
  cases a with
  | t t => cases t <;> simp [getT] at h <;> rfl
  | ref n => simp [getT] at h
  | tup ws => rfl
theorem w_addTT {l : Bool} {a b : W} {xs ys : List W} (c : getT a = some xs) (c2 : getT b = some ys) (hl : xs.length + ys.length ≤ bigL) (h : Q (mkTup (xs ++ ys)) μ) : Wp (fAdd l a b μ) Q X := by
  unfold fAdd
  split
  · simp [getT] at c
  · simp [getT] at c
  · unfold fAddS
    simp only [getT_LT c, c, c2]
    exact w_if ⟨hl, h⟩
theorem w_slL {live : Bool} {u : W} {ws : List W} {lo hi : Option Int} (c : getL u μ = some ws) (h : Wp (mkL live (cutA ws lo hi) μ) Q X) : Wp (fSl live u lo hi μ) Q X := by
  unfold fSl
  split
  · simp [getL, getLT] at c
  · simp only [c]; exact h
theorem w_isiX {kt : TyC → TyC → Option Bool} {u : W} {n : String} {a : TyC} {r : Bool} (h1 : tyW u μ = some a) (h3 : kt a (.b n) = some r) (h : Q (.t (.bl r)) μ) : Wp (fIsi kt [u, .t (.ty n)] μ) Q X := w_isi h1 rfl h3 h
/-! equality of data -/
theorem toDs_ints (n : Nat) : ∀ ns : List Int, toDs n (ns.map .int) = some (ns.map .int)
  | [] => by simp [toDs]
  | i :: ns => by simp [toDs, toD, toDs_ints n ns]
theorem toD_row (n : Nat) (ns : List Int) : toD (n + 1) (rowT ns) = some (.tuple (ns.map .int)) := by simp [rowT, toD, toDs_ints]
theorem toDs_rows (n : Nat) : ∀ nss : List (List Int), toDs (n + 1) (nss.map rowT) = some (nss.map fun ns => .tuple (ns.map .int))
  | [] => by simp [toDs]
  | ns :: nss => by simp [toDs, toD_row, toDs_rows n nss]
theorem eqvAll_ints : ∀ ns ms : List Int, PyData.eqvAll (ns.map .int) (ms.map .int) = decide (ns = ms)
  | [], [] => by simp [PyData.eqvAll]
  | [], m :: ms => by simp [PyData.eqvAll]
  | n :: ns, [] => by simp [PyData.eqvAll]
  | n :: ns, m :: ms => by
    simp only [List.map_cons, PyData.eqvAll, eqvAll_ints ns ms, PyData.eqv]
    by_cases h : n = m <;> by_cases h2 : ns = ms <;> simp [h, h2]
theorem eqv_row (ns ms : List Int) : PyData.eqv (.tuple (ns.map .int)) (.tuple (ms.map .int)) = decide (ns = ms) := by simp only [PyData.eqv, eqvAll_ints]
theorem eqvAll_rows : ∀ nss mss : List (List Int), PyData.eqvAll (nss.map fun ns => .tuple (ns.map .int)) (mss.map fun ns => .tuple (ns.map .int)) = decide (nss = mss)
  | [], [] => by simp [PyData.eqvAll]
  | [], m :: ms => by simp [PyData.eqvAll]
  | n :: ns, [] => by simp [PyData.eqvAll]
  | n :: ns, m :: ms => by
    simp only [List.map_cons, PyData.eqvAll, eqvAll_rows ns ms, eqv_row]
    by_cases h : n = m <;> by_cases h2 : ns = ms <;> simp [h, h2]
theorem eqv_rows (nss mss : List (List Int)) : PyData.eqv (.list (nss.map fun ns => .tuple (ns.map .int))) (.list (mss.map fun ns => .tuple (ns.map .int))) = decide (nss = mss) := by simp only [PyData.eqv, eqvAll_rows]
/-- u is a list of these rows -/
def RowsL (u : W) (μ : Mem) (nss : List (List Int)) : Prop := toDW u μ = some (.list (nss.map fun ns => .tuple (ns.map .int)))
theorem rowsL_T (nss : List (List Int)) : RowsL (.t (.lst (nss.map rowT))) μ nss := by
  show toD 60 (.lst (nss.map rowT)) = _
  simp [toD, toDs_rows]
theorem rowsL_nil : RowsL (.t (.lst [])) μ [] := rowsL_T []
theorem rowsL_at {n : Nat} {nss : List (List Int)} (h : μ[n]? = some (.lst (nss.map rowW))) : RowsL (.ref n) μ nss := by
  have e : toTs (nss.map rowW) = some (nss.map rowT) := by
    rw [← toTs_map, List.map_map]; rfl
  simp [RowsL, toDW, h, e, toDs_rows]
theorem eqW_rows {u v : W} {a b : List (List Int)} (h1 : RowsL u μ a) (h2 : RowsL v μ b) : eqW u v μ = some (decide (a = b)) := by
  have key : (match toDW u μ, toDW v μ with
      | some d, some e => some (PyData.eqv d e)
      | _, _ => none) = some (decide (a = b)) := by
    rw [h1, h2]
    simp only [eqv_rows]
  unfold eqW
  split
  · rename_i x y
    have : eqSc x y = none := by
      cases x <;> cases y <;> simp only [eqSc] <;> simp [RowsL, toDW, toD] at h1 h2
    simp only [this]
    exact key
  · exact key
theorem eqW_row {a b : List Int} : eqW (rowW a) (rowW b) μ = some (decide (a = b)) := by
  show (match eqSc (rowT a) (rowT b) with
    | some r => some r
    | none => match toD 60 (rowT a), toD 60 (rowT b) with
      | some d, some e => some (PyData.eqv d e)
      | _, _ => none) = _
  rw [toD_row, toD_row]
  simp only [rowT, eqSc, eqv_row]
end
end HQ
namespace HQ
open PySem PySem.Spec PyProof.Rows L2
def top (i : Nat) : Stmt := PySem.Challenge.pw_homequay_k41_heaps.main.body.getD i (.Pass ⟨0, 0, 0, 0⟩)
/-- a method's def in a class -/
def mth (i j : Nat) : Stmt := (clsB (top i)).getD j (.Pass ⟨0, 0, 0, 0⟩)
def freeL : List Str := ["isinstance", "int", "bool", "list", "tuple", "len", "max", "min", "range", "all", "zip", "sorted"]
def okF (c : Nat) (f : Str) : Bool := match c with
  | 0 => [("kept" : Str)].elem f
  | _ => false
structure GF (P : Program) (K : PySem.W.Frag) (mg : Str → Option Value) (base : Heap) (D : Ad) (w : World) : Prop where
  hk : KT K D ktB
  fr : ∀ x, freeL.elem x = true → mg x = none
  cf : ClsF K D okF
  def_is_whole : ∃ fA fd, FunD K "is_whole" "is_whole" (defArgs (top 1)) (defBody (top 1)) (defScope (top 1)) [] [] fA fd ∧ mg "is_whole" = some (.ref fA)
  def_is_row : ∃ fA fd, FunD K "is_row" "is_row" (defArgs (top 3)) (defBody (top 3)) (defScope (top 3)) [] [] fA fd ∧ mg "is_row" = some (.ref fA)
  def_is_heap : ∃ fA fd, FunD K "is_heap" "is_heap" (defArgs (top 4)) (defBody (top 4)) (defScope (top 4)) [] [] fA fd ∧ mg "is_heap" = some (.ref fA)
  def_Heap_init : ∃ fA fd, FunD K "__init__" "Heap.__init__" (defArgs (mth 5 0)) (defBody (mth 5 0)) (defScope (mth 5 0)) [] [] fA fd ∧ Mk K (D.ca 0) fA ∧ mg "Heap" = some (.ref (D.ca 0))
  def__law_cell : ∃ fA fd, FunD K "_law_cell" "_law_cell" (defArgs (top 7)) (defBody (top 7)) (defScope (top 7)) [] [] fA fd ∧ mg "_law_cell" = some (.ref fA)
  def__law_box : ∃ fA fd, FunD K "_law_box" "_law_box" (defArgs (top 8)) (defBody (top 8)) (defScope (top 8)) [] [] fA fd ∧ mg "_law_box" = some (.ref fA)
  def__law_take : ∃ fA fd, FunD K "_law_take" "_law_take" (defArgs (top 9)) (defBody (top 9)) (defScope (top 9)) [] [] fA fd ∧ mg "_law_take" = some (.ref fA)
  def__law_row : ∃ fA fd, FunD K "_law_row" "_law_row" (defArgs (top 11)) (defBody (top 11)) (defScope (top 11)) [] [] fA fd ∧ mg "_law_row" = some (.ref fA)
  def__law_other : ∃ fA fd, FunD K "_law_other" "_law_other" (defArgs (top 13)) (defBody (top 13)) (defScope (top 13)) [] [] fA fd ∧ mg "_law_other" = some (.ref fA)
  def_Heap_swap : ∃ fA fd, FunD K "swap" "Heap.swap" (defArgs (mth 5 3)) (defBody (mth 5 3)) (defScope (mth 5 3)) [] [] fA fd ∧ Meth K (D.ca 0) "swap" fA ∧ Cls K (D.ca 0)
  def_Heap_put : ∃ fA fd, FunD K "put" "Heap.put" (defArgs (mth 5 4)) (defBody (mth 5 4)) (defScope (mth 5 4)) [] [] fA fd ∧ Meth K (D.ca 0) "put" fA ∧ Cls K (D.ca 0)
  def_Heap_rows : ∃ fA fd, FunD K "rows" "Heap.rows" (defArgs (mth 5 2)) (defBody (mth 5 2)) (defScope (mth 5 2)) [] [] fA fd ∧ Meth K (D.ca 0) "rows" fA ∧ Cls K (D.ca 0)
  def_Heap_lesser : ∃ fA fd, FunD K "lesser" "Heap.lesser" (defArgs (mth 5 5)) (defBody (mth 5 5)) (defScope (mth 5 5)) [] [] fA fd ∧ Meth K (D.ca 0) "lesser" fA ∧ Cls K (D.ca 0)
  def_Heap_sink : ∃ fA fd, FunD K "sink" "Heap.sink" (defArgs (mth 5 7)) (defBody (mth 5 7)) (defScope (mth 5 7)) [] [] fA fd ∧ Meth K (D.ca 0) "sink" fA ∧ Cls K (D.ca 0)
  def_Heap_take : ∃ fA fd, FunD K "take" "Heap.take" (defArgs (mth 5 6)) (defBody (mth 5 6)) (defScope (mth 5 6)) [] [] fA fd ∧ Meth K (D.ca 0) "take" fA ∧ Cls K (D.ca 0)
  def__law_taken : ∃ fA fd, FunD K "_law_taken" "_law_taken" (defArgs (top 15)) (defBody (top 15)) (defScope (top 15)) [] [] fA fd ∧ mg "_law_taken" = some (.ref fA)
  def__law_whole : ∃ fA fd, FunD K "_law_whole" "_law_whole" (defArgs (top 10)) (defBody (top 10)) (defScope (top 10)) [] [] fA fd ∧ mg "_law_whole" = some (.ref fA)
  def__law_has_form : ∃ fA fd, FunD K "_law_has_form" "_law_has_form" (defArgs (top 12)) (defBody (top 12)) (defScope (top 12)) [] [] fA fd ∧ mg "_law_has_form" = some (.ref fA)
  def_Heap_many : ∃ fA fd, FunD K "many" "Heap.many" (defArgs (mth 5 1)) (defBody (mth 5 1)) (defScope (mth 5 1)) [] [] fA fd ∧ Meth K (D.ca 0) "many" fA ∧ Cls K (D.ca 0)
  def__law_told : ∃ fA fd, FunD K "_law_told" "_law_told" (defArgs (top 14)) (defBody (top 14)) (defScope (top 14)) [] [] fA fd ∧ mg "_law_told" = some (.ref fA)
  def_law : ∃ fA fd, FunD K "law" "law" (defArgs (top 16)) (defBody (top 16)) (defScope (top 16)) [] [] fA fd ∧ mg "law" = some (.ref fA)
section
variable {P : Program} {K : PySem.W.Frag} {mg : Str → Option Value} {base : Heap} {D : Ad} {w : World}
theorem GF.free (G : GF P K mg base D w) {bs : List Str} (h : (bs.all fun x => freeL.elem x) = true) : ∀ x ∈ bs, mg x = none := fun x hx => G.fr x (List.all_eq_true.mp h x hx)
/-! ### is_whole -/
def N_is_whole : List Str := ["thing"]
noncomputable def m_is_whole : MS := sSeq (sRet (mAndV (mA (fIsi ktB) (aCons (mVar 0) (aCons (mT (.ty "int")) (aNil)))) (mNotV (mA (fIsi ktB) (aCons (mVar 0) (aCons (mT (.ty "bool")) (aNil))))))) (sNil)
noncomputable def F_is_whole : MF := runF 1 1 m_is_whole
theorem sc_is_whole : FnScope N_is_whole ["thing"] (defScope (top 1)) := ⟨rfl, rfl, rfl, by decide +kernel, rfl, by decide +kernel, by decide +kernel⟩
theorem fo_is_whole (G : GF P K mg base D w) {fA : Addr} {fd : FuncData} (FD : FunD K "is_whole" "is_whole" (defArgs (top 1)) (defBody (top 1)) (defScope (top 1)) [] [] fA fd) : FnOk P w K mg base (L2.CX P w) 1 fA fd ["thing"] (spF D w 1 F_is_whole) := by
  refine fn_ok FD sc_is_whole rfl (by decide) fun cdv A outer s H E hr => ?_
  have c := Sc.fn (P := P) (w := w) (D := D) (E := E) (H := H) (K := K) (base := base) (outer := outer) (N := N_is_whole) (is := [0]) (ls := [0]) (gs := []) (bs := ["int", "isinstance", "bool"]) (by kernel_rfl) (G.free (by kernel_rfl)) sc_is_whole.nd hr
  have ow := own_fn (P := P) (w := w) (K := K) (mg := mg) (base := base) (N := N_is_whole) (qual := "is_whole") (scope := defScope (top 1)) (f := fA) (cdv := cdv) (A := A) (outer := outer) (s := s) (H := H) (E := E)
  exact xs_cons (xs_ret (xe_and (nIsi c G.hk 1 rfl (xa_cons (nv c 0 rfl rfl) (xa_cons (nTy c 0 rfl boot_int) (xa_nil) rfl) rfl) rfl rfl) (xe_one (xe_not (nIsi c G.hk 1 rfl (xa_cons (nv c 0 rfl rfl) (xa_cons (nTy c 2 rfl boot_bool) (xa_nil) rfl) rfl) rfl rfl))))) (xs_nil)
theorem ok_is_whole (G : GF P K mg base D w) : Fk P K mg base D w 1 "is_whole" 1 F_is_whole [] := by
  obtain ⟨fA, fd, FD, hm⟩ := G.def_is_whole
  exact ⟨fA, fd, ["thing"], [], [], hm, fo_is_whole G FD, FD.bindsN fun _ _ _ _ _ _ us hl => match us, hl with | [_], _ => rfl, .nil, fun _ => by simp only [RTs], FD.kp⟩
/-! ### is_row -/
def N_is_row : List Str := ["thing", "number"]
noncomputable def m_is_row : MS := sSeq (sRet (mAndV (mA (fIsi ktB) (aCons (mVar 0) (aCons (mT (.ty "tuple")) (aNil)))) (mA fAll (aCons (mLc false (iVal (mVar 0)) (gN 1) (bYes) (mA (callF F_is_whole 1 [] true) (aCons (mVar 1) (aNil))) [1]) (aNil))))) (sNil)
noncomputable def F_is_row : MF := runF 2 1 m_is_row
theorem sc_is_row : FnScope N_is_row ["thing"] (defScope (top 3)) := ⟨rfl, rfl, rfl, by decide +kernel, rfl, by decide +kernel, by decide +kernel⟩
theorem fo_is_row (G : GF P K mg base D w) {fA : Addr} {fd : FuncData} (FD : FunD K "is_row" "is_row" (defArgs (top 3)) (defBody (top 3)) (defScope (top 3)) [] [] fA fd) : FnOk P w K mg base (L2.CX P w) 2 fA fd ["thing"] (spF D w 1 F_is_row) := by
  refine fn_ok FD sc_is_row rfl (by decide) fun cdv A outer s H E hr => ?_
  have c := Sc.fn (P := P) (w := w) (D := D) (E := E) (H := H) (K := K) (base := base) (outer := outer) (N := N_is_row) (is := [0]) (ls := [0]) (gs := []) (bs := ["tuple", "isinstance", "all"]) (by kernel_rfl) (G.free (by kernel_rfl)) sc_is_row.nd hr
  have ow := own_fn (P := P) (w := w) (K := K) (mg := mg) (base := base) (N := N_is_row) (qual := "is_row") (scope := defScope (top 3)) (f := fA) (cdv := cdv) (A := A) (outer := outer) (s := s) (H := H) (E := E)
  exact xs_cons (xs_ret (xe_and (nIsi c G.hk 1 rfl (xa_cons (nv c 0 rfl rfl) (xa_cons (nTy c 0 rfl boot_tuple) (xa_nil) rfl) rfl) rfl rfl) (xe_one (nAll c 2 rfl (xa_cons (nLc c (live := false) (own := [("number", 1)]) (is' := [1]) (ls' := [1]) (gs' := ["is_whole"]) (bs' := []) (by kernel_rfl) (G.free (by kernel_rfl)) (by kernel_rfl) (xi_val (nv c 0 rfl rfl)) (fun s H C cl fp c' => gv c' 1 rfl rfl) (fun s H C cl fp c' => xts_nil) (fun s H C cl fp c' => nCall c' true 0 rfl (ok_is_whole G) (by decide) (xa_cons (nv c' 1 rfl rfl) (xa_nil) rfl) rfl rfl) (fun _ => rfl) (by decide)) (xa_nil) rfl) rfl rfl)))) (xs_nil)
theorem ok_is_row (G : GF P K mg base D w) : Fk P K mg base D w 2 "is_row" 1 F_is_row [] := by
  obtain ⟨fA, fd, FD, hm⟩ := G.def_is_row
  exact ⟨fA, fd, ["thing"], [], [], hm, fo_is_row G FD, FD.bindsN fun _ _ _ _ _ _ us hl => match us, hl with | [_], _ => rfl, .nil, fun _ => by simp only [RTs], FD.kp⟩
/-! ### is_heap -/
def N_is_heap : List Str := ["thing", "k", "row"]
noncomputable def m_is_heap : MS := sSeq (sIf (bOr (bNot (bOf (mA (fIsi ktB) (aCons (mVar 0) (aCons (mT (.ty "list")) (aNil)))))) (bNot (bOf (mA fAll (aCons (mLc false (iVal (mVar 0)) (gN 2) (bYes) (mA (callF F_is_row 1 [] true) (aCons (mVar 2) (aNil))) [2]) (aNil)))))) (sSeq (sRet (mT (.bl false))) (sNil)) (sNil)) (sSeq (sFor (iR2 (aCons (mT (.int 1)) (aCons (mA fLen (aCons (mVar 0) (aNil))) (aNil)))) (gN 1) (sSeq (sIf (bOf (m2 (fLt) (m2 fIdx (mVar 0) (mVar 1)) (m2 fIdx (mVar 0) (m2 fDiv (m2 fSub (mVar 1) (mT (.int 1))) (mT (.int 2)))))) (sSeq (sRet (mT (.bl false))) (sNil)) (sNil)) (sNil))) (sSeq (sRet (mT (.bl true))) (sNil)))
noncomputable def F_is_heap : MF := runF 3 1 m_is_heap
theorem sc_is_heap : FnScope N_is_heap ["thing"] (defScope (top 4)) := ⟨rfl, rfl, rfl, by decide +kernel, rfl, by decide +kernel, by decide +kernel⟩
theorem fo_is_heap (G : GF P K mg base D w) {fA : Addr} {fd : FuncData} (FD : FunD K "is_heap" "is_heap" (defArgs (top 4)) (defBody (top 4)) (defScope (top 4)) [] [] fA fd) : FnOk P w K mg base (L2.CX P w) 3 fA fd ["thing"] (spF D w 1 F_is_heap) := by
  refine fn_ok FD sc_is_heap rfl (by decide) fun cdv A outer s H E hr => ?_
  have c := Sc.fn (P := P) (w := w) (D := D) (E := E) (H := H) (K := K) (base := base) (outer := outer) (N := N_is_heap) (is := [0, 1]) (ls := [0, 1]) (gs := []) (bs := ["list", "isinstance", "all", "range", "len"]) (by kernel_rfl) (G.free (by kernel_rfl)) sc_is_heap.nd hr
  have ow := own_fn (P := P) (w := w) (K := K) (mg := mg) (base := base) (N := N_is_heap) (qual := "is_heap") (scope := defScope (top 4)) (f := fA) (cdv := cdv) (A := A) (outer := outer) (s := s) (H := H) (E := E)
  exact xs_cons (xs_if ((xw_or (xt_not (xt_val (nIsi c G.hk 1 rfl (xa_cons (nv c 0 rfl rfl) (xa_cons (nTy c 0 rfl boot_list) (xa_nil) rfl) rfl) rfl rfl) (fun _ => rfl))) (xw_or1 (xt_not (xt_val (nAll c 2 rfl (xa_cons (nLc c (live := false) (own := [("row", 2)]) (is' := [2]) (ls' := [2]) (gs' := ["is_row"]) (bs' := []) (by kernel_rfl) (G.free (by kernel_rfl)) (by kernel_rfl) (xi_val (nv c 0 rfl rfl)) (fun s H C cl fp c' => gv c' 2 rfl rfl) (fun s H C cl fp c' => xts_nil) (fun s H C cl fp c' => nCall c' true 0 rfl (ok_is_row G) (by decide) (xa_cons (nv c' 2 rfl rfl) (xa_nil) rfl) rfl rfl) (fun _ => rfl) (by decide)) (xa_nil) rfl) rfl rfl) (fun _ => rfl))))).pt) (xs_cons (xs_ret (xe_bl)) (xs_nil)) (xs_nil)) (xs_cons (xs_for ow c.calm (xi_r2 (c.bl 3 _ rfl).1 (c.bl 3 _ rfl).2.1 (xa_cons (xe_int) (xa_cons (nLen c 4 rfl (xa_cons (nv c 0 rfl rfl) (xa_nil) rfl) rfl rfl) (xa_nil) rfl) rfl) rfl rfl) (gv c 1 rfl rfl) (xs_cons (xs_if (tCmp (kLt c) (nIx (nv c 0 rfl rfl) (nv c 1 rfl rfl) (fun _ _ => rfl)) (nIx (nv c 0 rfl rfl) (nDiv c (nSub c (nv c 1 rfl rfl) (xe_int)) (xe_int)) (fun _ _ => rfl)) rfl) (xs_cons (xs_ret (xe_bl)) (xs_nil)) (xs_nil)) (xs_nil)) (fun _ => rfl)) (xs_cons (xs_ret (xe_bl)) (xs_nil)))
theorem ok_is_heap (G : GF P K mg base D w) : Fk P K mg base D w 3 "is_heap" 1 F_is_heap [] := by
  obtain ⟨fA, fd, FD, hm⟩ := G.def_is_heap
  exact ⟨fA, fd, ["thing"], [], [], hm, fo_is_heap G FD, FD.bindsN fun _ _ _ _ _ _ us hl => match us, hl with | [_], _ => rfl, .nil, fun _ => by simp only [RTs], FD.kp⟩
/-! ### Heap_init -/
def N_Heap_init : List Str := ["self"]
noncomputable def m_Heap_init : MS := sSeq (sFldS okF (mLst true (aNil)) (mVar 0) "kept") (sNil)
noncomputable def F_Heap_init : MF := runF 1 1 m_Heap_init
theorem sc_Heap_init : FnScope N_Heap_init ["self"] (defScope (mth 5 0)) := ⟨rfl, rfl, rfl, by decide +kernel, rfl, by decide +kernel, by decide +kernel⟩
theorem fo_Heap_init (G : GF P K mg base D w) {fA : Addr} {fd : FuncData} (FD : FunD K "__init__" "Heap.__init__" (defArgs (mth 5 0)) (defBody (mth 5 0)) (defScope (mth 5 0)) [] [] fA fd) : FnOk P w K mg base (L2.CX P w) 1 fA fd ["self"] (spF D w 1 F_Heap_init) := by
  refine fn_ok FD sc_Heap_init rfl (by decide) fun cdv A outer s H E hr => ?_
  have c := Sc.fn (P := P) (w := w) (D := D) (E := E) (H := H) (K := K) (base := base) (outer := outer) (N := N_Heap_init) (is := [0]) (ls := [0]) (gs := []) (bs := []) (by kernel_rfl) (G.free (by kernel_rfl)) sc_Heap_init.nd hr
  have ow := own_fn (P := P) (w := w) (K := K) (mg := mg) (base := base) (N := N_Heap_init) (qual := "Heap.__init__") (scope := defScope (mth 5 0)) (f := fA) (cdv := cdv) (A := A) (outer := outer) (s := s) (H := H) (E := E)
  exact xs_cons (xs_fld G.cf (xe_lst (live := true) (xa_nil)) (nv c 0 rfl rfl) rfl) (xs_nil)
theorem ok_Heap_init (G : GF P K mg base D w) : Ck P K mg base D w 1 "Heap" 0 1 F_Heap_init := by
  obtain ⟨fA, fd, FD, hm, hc⟩ := G.def_Heap_init
  exact ⟨hc, fA, fd, ["self"], hm, fo_Heap_init G FD, FD.bindsN fun _ _ _ _ _ _ us hl => match us, hl with | [_], _ => rfl⟩
/-! ### _law_cell -/
def N__law_cell : List Str := ["_law_script", "_law_k"]
noncomputable def m__law_cell : MS := sSeq (sIf (bOf (m2 (fLt) (mVar 1) (mA fLen (aCons (mVar 0) (aNil))))) (sSeq (sRet (m2 fIdx (mVar 0) (mVar 1))) (sNil)) (sNil)) (sSeq (sIf (bOf (m2 (fEq false) (mVar 0) (mLst false (aNil)))) (sSeq (sRet (m2 (fAdd false) (m2 (fMulX false) (mT (.int 40503)) (mVar 1)) (mT (.int 11)))) (sNil)) (sNil)) (sSeq (sRet (m2 (fAdd false) (m2 fDiv (m2 fIdx (mVar 0) (m2 fMod (m2 (fMulX false) (mVar 1) (mT (.int 5))) (mA fLen (aCons (mVar 0) (aNil))))) (m2 (fAdd false) (mVar 1) (mT (.int 2)))) (m2 (fMulX false) (mT (.int 7919)) (mVar 1)))) (sNil)))
noncomputable def F__law_cell : MF := runF 2 2 m__law_cell
theorem sc__law_cell : FnScope N__law_cell ["_law_script", "_law_k"] (defScope (top 7)) := ⟨rfl, rfl, rfl, by decide +kernel, rfl, by decide +kernel, by decide +kernel⟩
theorem fo__law_cell (G : GF P K mg base D w) {fA : Addr} {fd : FuncData} (FD : FunD K "_law_cell" "_law_cell" (defArgs (top 7)) (defBody (top 7)) (defScope (top 7)) [] [] fA fd) : FnOk P w K mg base (L2.CX P w) 1 fA fd ["_law_script", "_law_k"] (spF D w 2 F__law_cell) := by
  refine fn_ok FD sc__law_cell rfl (by decide) fun cdv A outer s H E hr => ?_
  have c := Sc.fn (P := P) (w := w) (D := D) (E := E) (H := H) (K := K) (base := base) (outer := outer) (N := N__law_cell) (is := [0, 1]) (ls := [0, 1]) (gs := []) (bs := ["len"]) (by kernel_rfl) (G.free (by kernel_rfl)) sc__law_cell.nd hr
  have ow := own_fn (P := P) (w := w) (K := K) (mg := mg) (base := base) (N := N__law_cell) (qual := "_law_cell") (scope := defScope (top 7)) (f := fA) (cdv := cdv) (A := A) (outer := outer) (s := s) (H := H) (E := E)
  exact xs_cons (xs_if (tCmp (kLt c) (nv c 1 rfl rfl) (nLen c 0 rfl (xa_cons (nv c 0 rfl rfl) (xa_nil) rfl) rfl rfl) rfl) (xs_cons (xs_ret (nIx (nv c 0 rfl rfl) (nv c 1 rfl rfl) (fun _ _ => rfl))) (xs_nil)) (xs_nil)) (xs_cons (xs_if (tCmp (kEq c) (nv c 0 rfl rfl) (xe_lst (live := false) (xa_nil)) rfl) (xs_cons (xs_ret (nAdd c false (nMulX c false (xe_int) (nv c 1 rfl rfl)) (xe_int))) (xs_nil)) (xs_nil)) (xs_cons (xs_ret (nAdd c false (nDiv c (nIx (nv c 0 rfl rfl) (nMod c (nMulX c false (nv c 1 rfl rfl) (xe_int)) (nLen c 0 rfl (xa_cons (nv c 0 rfl rfl) (xa_nil) rfl) rfl rfl)) (fun _ _ => rfl)) (nAdd c false (nv c 1 rfl rfl) (xe_int))) (nMulX c false (xe_int) (nv c 1 rfl rfl)))) (xs_nil)))
theorem ok__law_cell (G : GF P K mg base D w) : Fk P K mg base D w 1 "_law_cell" 2 F__law_cell [] := by
  obtain ⟨fA, fd, FD, hm⟩ := G.def__law_cell
  exact ⟨fA, fd, ["_law_script", "_law_k"], [], [], hm, fo__law_cell G FD, FD.bindsN fun _ _ _ _ _ _ us hl => match us, hl with | [_, _], _ => rfl, .nil, fun _ => by simp only [RTs], FD.kp⟩
/-! ### _law_box -/
def N__law_box : List Str := ["_law_script", "_law_k", "_law_cell_here"]
noncomputable def m__law_box : MS := sSeq (sAsg (mA (callF F__law_cell 2 [] false) (aCons (mVar 0) (aCons (mVar 1) (aNil)))) (gN 2)) (sSeq (sRet (mLst true (aCons (mA fMax (aCons (mT (.int 0)) (aCons (m2 fSub (mVar 2) (m2 fPow (mT (.int 10)) (mT (.int 18)))) (aNil)))) (aCons (m2 fMod (mVar 2) (mT (.int 2147483587))) (aCons (mT (.int 0)) (aNil)))))) (sNil))
noncomputable def F__law_box : MF := runF 3 2 m__law_box
theorem sc__law_box : FnScope N__law_box ["_law_script", "_law_k"] (defScope (top 8)) := ⟨rfl, rfl, rfl, by decide +kernel, rfl, by decide +kernel, by decide +kernel⟩
theorem fo__law_box (G : GF P K mg base D w) {fA : Addr} {fd : FuncData} (FD : FunD K "_law_box" "_law_box" (defArgs (top 8)) (defBody (top 8)) (defScope (top 8)) [] [] fA fd) : FnOk P w K mg base (L2.CX P w) 2 fA fd ["_law_script", "_law_k"] (spF D w 2 F__law_box) := by
  refine fn_ok FD sc__law_box rfl (by decide) fun cdv A outer s H E hr => ?_
  have c := Sc.fn (P := P) (w := w) (D := D) (E := E) (H := H) (K := K) (base := base) (outer := outer) (N := N__law_box) (is := [0, 1, 2]) (ls := [0, 1, 2]) (gs := ["_law_cell"]) (bs := ["max"]) (by kernel_rfl) (G.free (by kernel_rfl)) sc__law_box.nd hr
  have ow := own_fn (P := P) (w := w) (K := K) (mg := mg) (base := base) (N := N__law_box) (qual := "_law_box") (scope := defScope (top 8)) (f := fA) (cdv := cdv) (A := A) (outer := outer) (s := s) (H := H) (E := E)
  exact xs_cons (xs_asg (nCall c false 0 rfl (ok__law_cell G) (by decide) (xa_cons (nv c 0 rfl rfl) (xa_cons (nv c 1 rfl rfl) (xa_nil) rfl) rfl) rfl rfl) (gv c 2 rfl rfl) rfl rfl rfl) (xs_cons (xs_ret (xe_lst (live := true) (xa_cons (nMax c 0 rfl (xa_cons (xe_int) (xa_cons (nSub c (nv c 2 rfl rfl) (nPow c (xe_int) (xe_int))) (xa_nil) rfl) rfl) rfl rfl) (xa_cons (nMod c (nv c 2 rfl rfl) (xe_int)) (xa_cons (xe_int) (xa_nil) rfl) rfl) rfl))) (xs_nil))
theorem ok__law_box (G : GF P K mg base D w) : Fk P K mg base D w 2 "_law_box" 2 F__law_box [] := by
  obtain ⟨fA, fd, FD, hm⟩ := G.def__law_box
  exact ⟨fA, fd, ["_law_script", "_law_k"], [], [], hm, fo__law_box G FD, FD.bindsN fun _ _ _ _ _ _ us hl => match us, hl with | [_, _], _ => rfl, .nil, fun _ => by simp only [RTs], FD.kp⟩
/-! ### _law_take -/
def N__law_take : List Str := ["_law_box_here", "_law_many", "_law_digit", "_law_number"]
noncomputable def m__law_take : MS := sSeq (sIf (bOf (m2 (fGt) (m2 fIdx (mVar 0) (mT (.int 0))) (mT (.int 0)))) (sSeq (sAsg (m2 fMod (m2 fIdx (mVar 0) (mT (.int 0))) (mVar 1)) (gN 2)) (sSeq (sSetX (m2 fDiv (m2 fIdx (mVar 0) (mT (.int 0))) (mVar 1)) (mVar 0) (mT (.int 0))) (sSeq (sRet (mVar 2)) (sNil)))) (sNil)) (sSeq (sSetX (m2 (fAdd false) (m2 fIdx (mVar 0) (mT (.int 2))) (mT (.int 1))) (mVar 0) (mT (.int 2))) (sSeq (sAsg (m2 fMod (m2 (fMulX false) (m2 (fAdd false) (m2 fIdx (mVar 0) (mT (.int 1))) (m2 (fMulX false) (mT (.int 7919)) (m2 fIdx (mVar 0) (mT (.int 2))))) (mT (.int 69621))) (mT (.int 2147483647))) (gN 3)) (sSeq (sAsg (m2 fMod (m2 (fAdd false) (m2 (fMulX false) (mVar 3) (mVar 3)) (m2 fIdx (mVar 0) (mT (.int 2)))) (mT (.int 2147483629))) (gN 3)) (sSeq (sRet (m2 fMod (m2 fDiv (m2 fMod (m2 (fMulX false) (mVar 3) (mVar 3)) (mT (.int 2147483587))) (mT (.int 16))) (mVar 1))) (sNil)))))
noncomputable def F__law_take : MF := runF 4 2 m__law_take
theorem sc__law_take : FnScope N__law_take ["_law_box_here", "_law_many"] (defScope (top 9)) := ⟨rfl, rfl, rfl, by decide +kernel, rfl, by decide +kernel, by decide +kernel⟩
theorem fo__law_take (G : GF P K mg base D w) {fA : Addr} {fd : FuncData} (FD : FunD K "_law_take" "_law_take" (defArgs (top 9)) (defBody (top 9)) (defScope (top 9)) [] [] fA fd) : FnOk P w K mg base (L2.CX P w) 1 fA fd ["_law_box_here", "_law_many"] (spF D w 2 F__law_take) := by
  refine fn_ok FD sc__law_take rfl (by decide) fun cdv A outer s H E hr => ?_
  have c := Sc.fn (P := P) (w := w) (D := D) (E := E) (H := H) (K := K) (base := base) (outer := outer) (N := N__law_take) (is := [0, 1, 2, 3]) (ls := [0, 1, 2, 3]) (gs := []) (bs := []) (by kernel_rfl) (G.free (by kernel_rfl)) sc__law_take.nd hr
  have ow := own_fn (P := P) (w := w) (K := K) (mg := mg) (base := base) (N := N__law_take) (qual := "_law_take") (scope := defScope (top 9)) (f := fA) (cdv := cdv) (A := A) (outer := outer) (s := s) (H := H) (E := E)
  exact xs_cons (xs_if (tCmp (kGt c) (nIx (nv c 0 rfl rfl) (xe_int) (fun _ _ => rfl)) (xe_int) rfl) (xs_cons (xs_asg (nMod c (nIx (nv c 0 rfl rfl) (xe_int) (fun _ _ => rfl)) (nv c 1 rfl rfl)) (gv c 2 rfl rfl) rfl rfl rfl) (xs_cons (xs_setX c.hw (c_u9 c) (nDiv c (nIx (nv c 0 rfl rfl) (xe_int) (fun _ _ => rfl)) (nv c 1 rfl rfl)) (nv c 0 rfl rfl) (xe_int) rfl rfl rfl (fun _ => rfl)) (xs_cons (xs_ret (nv c 2 rfl rfl)) (xs_nil)))) (xs_nil)) (xs_cons (xs_setX c.hw (c_u9 c) (nAdd c false (nIx (nv c 0 rfl rfl) (xe_int) (fun _ _ => rfl)) (xe_int)) (nv c 0 rfl rfl) (xe_int) rfl rfl rfl (fun _ => rfl)) (xs_cons (xs_asg (nMod c (nMulX c false (nAdd c false (nIx (nv c 0 rfl rfl) (xe_int) (fun _ _ => rfl)) (nMulX c false (xe_int) (nIx (nv c 0 rfl rfl) (xe_int) (fun _ _ => rfl)))) (xe_int)) (xe_int)) (gv c 3 rfl rfl) rfl rfl rfl) (xs_cons (xs_asg (nMod c (nAdd c false (nMulX c false (nv c 3 rfl rfl) (nv c 3 rfl rfl)) (nIx (nv c 0 rfl rfl) (xe_int) (fun _ _ => rfl))) (xe_int)) (gv c 3 rfl rfl) rfl rfl rfl) (xs_cons (xs_ret (nMod c (nDiv c (nMod c (nMulX c false (nv c 3 rfl rfl) (nv c 3 rfl rfl)) (xe_int)) (xe_int)) (nv c 1 rfl rfl))) (xs_nil)))))
theorem ok__law_take (G : GF P K mg base D w) : Fk P K mg base D w 1 "_law_take" 2 F__law_take [] := by
  obtain ⟨fA, fd, FD, hm⟩ := G.def__law_take
  exact ⟨fA, fd, ["_law_box_here", "_law_many"], [], [], hm, fo__law_take G FD, FD.bindsN fun _ _ _ _ _ _ us hl => match us, hl with | [_, _], _ => rfl, .nil, fun _ => by simp only [RTs], FD.kp⟩
/-! ### _law_row -/
def N__law_row : List Str := ["_law_box_here", "_law_kept", "_law_way", "_law_row_here", "_law_k", "_law_number"]
noncomputable def m__law_row : MS := sSeq (sAsg (mA (callF F__law_take 2 [] false) (aCons (mVar 0) (aCons (mT (.int 4)) (aNil)))) (gN 2)) (sSeq (sIf (bAnd (bOf (m2 (fLt) (mVar 2) (mT (.int 2)))) (bOf (m2 (fEq true) (mVar 1) (mLst false (aNil))))) (sSeq (sRet (m2 (fAdd false) (m2 fIdx (mVar 1) (mA (callF F__law_take 2 [] false) (aCons (mVar 0) (aCons (mA fLen (aCons (mVar 1) (aNil))) (aNil))))) (m2 (fMulX false) (mTup (aCons (m2 fSub (mA (callF F__law_take 2 [] false) (aCons (mVar 0) (aCons (mT (.int 3)) (aNil)))) (mT (.int 1))) (aNil))) (mVar 2)))) (sNil)) (sNil)) (sSeq (sAsg (mTup (aNil)) (gN 3)) (sSeq (sFor (iR1 (aCons (mA (callF F__law_take 2 [] false) (aCons (mVar 0) (aCons (mT (.int 4)) (aNil)))) (aNil))) (gN 4) (sSeq (sAsg (m2 fSub (mA (callF F__law_take 2 [] false) (aCons (mVar 0) (aCons (mT (.int 5)) (aNil)))) (mT (.int 2))) (gN 5)) (sSeq (sIf (bOf (m2 (fEq false) (mA (callF F__law_take 2 [] false) (aCons (mVar 0) (aCons (mT (.int 2)) (aNil)))) (mT (.int 1)))) (sSeq (sAsg (m2 fSub (mA (callF F__law_take 2 [] false) (aCons (mVar 0) (aCons (m2 fPow (mT (.int 10)) (mT (.int 30))) (aNil)))) (m2 (fMulX false) (mT (.int 5)) (m2 fPow (mT (.int 10)) (mT (.int 29))))) (gN 5)) (sNil)) (sNil)) (sSeq (sAsg (m2 (fAdd false) (mVar 3) (mTup (aCons (mVar 5) (aNil)))) (gN 3)) (sNil))))) (sSeq (sRet (mVar 3)) (sNil)))))
noncomputable def F__law_row : MF := runF 6 2 m__law_row
theorem sc__law_row : FnScope N__law_row ["_law_box_here", "_law_kept"] (defScope (top 11)) := ⟨rfl, rfl, rfl, by decide +kernel, rfl, by decide +kernel, by decide +kernel⟩
theorem fo__law_row (G : GF P K mg base D w) {fA : Addr} {fd : FuncData} (FD : FunD K "_law_row" "_law_row" (defArgs (top 11)) (defBody (top 11)) (defScope (top 11)) [] [] fA fd) : FnOk P w K mg base (L2.CX P w) 2 fA fd ["_law_box_here", "_law_kept"] (spF D w 2 F__law_row) := by
  refine fn_ok FD sc__law_row rfl (by decide) fun cdv A outer s H E hr => ?_
  have c := Sc.fn (P := P) (w := w) (D := D) (E := E) (H := H) (K := K) (base := base) (outer := outer) (N := N__law_row) (is := [0, 1, 2, 3, 4, 5]) (ls := [0, 1, 2, 3, 4, 5]) (gs := ["_law_take"]) (bs := ["len", "range"]) (by kernel_rfl) (G.free (by kernel_rfl)) sc__law_row.nd hr
  have ow := own_fn (P := P) (w := w) (K := K) (mg := mg) (base := base) (N := N__law_row) (qual := "_law_row") (scope := defScope (top 11)) (f := fA) (cdv := cdv) (A := A) (outer := outer) (s := s) (H := H) (E := E)
  exact xs_cons (xs_asg (nCall c false 0 rfl (ok__law_take G) (by decide) (xa_cons (nv c 0 rfl rfl) (xa_cons (xe_int) (xa_nil) rfl) rfl) rfl rfl) (gv c 2 rfl rfl) rfl rfl rfl) (xs_cons (xs_if ((xw_and (tCmp (kLt c) (nv c 2 rfl rfl) (xe_int) rfl) (xw_and1 (tCmp (kNe c) (nv c 1 rfl rfl) (xe_lst (live := false) (xa_nil)) rfl))).pt) (xs_cons (xs_ret (nAdd c false (nIx (nv c 1 rfl rfl) (nCall c false 0 rfl (ok__law_take G) (by decide) (xa_cons (nv c 0 rfl rfl) (xa_cons (nLen c 0 rfl (xa_cons (nv c 1 rfl rfl) (xa_nil) rfl) rfl rfl) (xa_nil) rfl) rfl) rfl rfl) (fun _ _ => rfl)) (nMulX c false (xe_tup (xa_cons (nSub c (nCall c false 0 rfl (ok__law_take G) (by decide) (xa_cons (nv c 0 rfl rfl) (xa_cons (xe_int) (xa_nil) rfl) rfl) rfl rfl) (xe_int)) (xa_nil) rfl)) (nv c 2 rfl rfl)))) (xs_nil)) (xs_nil)) (xs_cons (xs_asg (xe_tup (xa_nil)) (gv c 3 rfl rfl) rfl rfl rfl) (xs_cons (xs_for ow c.calm (xi_r1 (c.bl 1 _ rfl).1 (c.bl 1 _ rfl).2.1 (xa_cons (nCall c false 0 rfl (ok__law_take G) (by decide) (xa_cons (nv c 0 rfl rfl) (xa_cons (xe_int) (xa_nil) rfl) rfl) rfl rfl) (xa_nil) rfl) rfl) (gv c 4 rfl rfl) (xs_cons (xs_asg (nSub c (nCall c false 0 rfl (ok__law_take G) (by decide) (xa_cons (nv c 0 rfl rfl) (xa_cons (xe_int) (xa_nil) rfl) rfl) rfl rfl) (xe_int)) (gv c 5 rfl rfl) rfl rfl rfl) (xs_cons (xs_if (tCmp (kEq c) (nCall c false 0 rfl (ok__law_take G) (by decide) (xa_cons (nv c 0 rfl rfl) (xa_cons (xe_int) (xa_nil) rfl) rfl) rfl rfl) (xe_int) rfl) (xs_cons (xs_asg (nSub c (nCall c false 0 rfl (ok__law_take G) (by decide) (xa_cons (nv c 0 rfl rfl) (xa_cons (nPow c (xe_int) (xe_int)) (xa_nil) rfl) rfl) rfl rfl) (nMulX c false (xe_int) (nPow c (xe_int) (xe_int)))) (gv c 5 rfl rfl) rfl rfl rfl) (xs_nil)) (xs_nil)) (xs_cons (xs_asg (nAdd c false (nv c 3 rfl rfl) (xe_tup (xa_cons (nv c 5 rfl rfl) (xa_nil) rfl))) (gv c 3 rfl rfl) rfl rfl rfl) (xs_nil)))) (fun _ => rfl)) (xs_cons (xs_ret (nv c 3 rfl rfl)) (xs_nil)))))
theorem ok__law_row (G : GF P K mg base D w) : Fk P K mg base D w 2 "_law_row" 2 F__law_row [] := by
  obtain ⟨fA, fd, FD, hm⟩ := G.def__law_row
  exact ⟨fA, fd, ["_law_box_here", "_law_kept"], [], [], hm, fo__law_row G FD, FD.bindsN fun _ _ _ _ _ _ us hl => match us, hl with | [_, _], _ => rfl, .nil, fun _ => by simp only [RTs], FD.kp⟩
/-! ### _law_other -/
def N__law_other : List Str := ["_law_box_here", "_law_rows", "_law_way", "_law_found", "_law_at", "_law_to"]
noncomputable def m__law_other : MS := sSeq (sAsg (mA (callF F__law_take 2 [] false) (aCons (mVar 0) (aCons (mT (.int 7)) (aNil)))) (gN 2)) (sSeq (sAsg (mA (fList true) (aCons (mVar 1) (aNil))) (gN 3)) (sSeq (sAsg (mA (callF F__law_take 2 [] false) (aCons (mVar 0) (aCons (m2 (fAdd false) (mA fLen (aCons (mVar 1) (aNil))) (mT (.int 1))) (aNil)))) (gN 4)) (sSeq (sIf (bAnd (bOf (m2 (fEq false) (mVar 2) (mT (.int 0)))) (bOf (m2 (fEq true) (mVar 1) (mLst false (aNil))))) (sSeq (sAsg (mA (callF F__law_take 2 [] false) (aCons (mVar 0) (aCons (mA fLen (aCons (mVar 1) (aNil))) (aNil)))) (gN 5)) (sSeq (sSetX (m2 fIdx (mVar 1) (mVar 5)) (mVar 3) (m2 fMod (mVar 4) (mA fLen (aCons (mVar 1) (aNil))))) (sSeq (sSetX (m2 fIdx (mVar 1) (m2 fMod (mVar 4) (mA fLen (aCons (mVar 1) (aNil))))) (mVar 3) (mVar 5)) (sNil)))) (sNil)) (sSeq (sIf (bOf (m2 (fEq false) (mVar 2) (mT (.int 1)))) (sSeq (sAsg (m2 (fAdd false) (m2 (fAdd false) (mSl false (mVar 1) (oNone) (oSome (mVar 4))) (mLst false (aCons (mA (callF F__law_row 2 [] false) (aCons (mVar 0) (aCons (mVar 1) (aNil)))) (aNil)))) (mSl false (mVar 1) (oSome (m2 (fAdd false) (mVar 4) (mT (.int 1)))) (oNone))) (gN 3)) (sNil)) (sNil)) (sSeq (sIf (bOf (m2 (fEq false) (mVar 2) (mT (.int 2)))) (sSeq (sEx (mBm isLs fApp (mVar 3) (aCons (mA (callF F__law_row 2 [] false) (aCons (mVar 0) (aCons (mVar 1) (aNil)))) aNil))) (sNil)) (sNil)) (sSeq (sIf (bOf (m2 (fEq false) (mVar 2) (mT (.int 3)))) (sSeq (sAsg (m2 (fAdd false) (m2 (fAdd false) (mSl false (mVar 1) (oNone) (oSome (mVar 4))) (mLst false (aCons (m2 fIdx (mLst false (aCons (mLst false (aCons (mT (.int 0)) (aNil))) (aCons (mTup (aCons (mT (.bl true)) (aNil))) (aCons (mTup (aCons (mT (.int 0)) (aCons (mT .non) (aNil)))) (aCons (mT (.int 0)) (aCons (mTup (aCons (mT (.str "0")) (aNil))) (aNil))))))) (mA (callF F__law_take 2 [] false) (aCons (mVar 0) (aCons (mT (.int 5)) (aNil))))) (aNil)))) (mSl false (mVar 1) (oSome (mVar 4)) (oNone))) (gN 3)) (sNil)) (sNil)) (sSeq (sIf (bOf (m2 (fEq false) (mVar 2) (mT (.int 4)))) (sSeq (sRet (m2 fIdx (mLst false (aCons (mA fTuple (aCons (mVar 1) (aNil))) (aCons (mT .non) (aCons (mT (.int 7)) (aCons (mT (.str "rows")) (aCons (mDic0 false) (aNil))))))) (mA (callF F__law_take 2 [] false) (aCons (mVar 0) (aCons (mT (.int 5)) (aNil)))))) (sNil)) (sNil)) (sSeq (sRet (mVar 3)) (sNil)))))))))
noncomputable def F__law_other : MF := runF 6 2 m__law_other
theorem sc__law_other : FnScope N__law_other ["_law_box_here", "_law_rows"] (defScope (top 13)) := ⟨rfl, rfl, rfl, by decide +kernel, rfl, by decide +kernel, by decide +kernel⟩
theorem fo__law_other (G : GF P K mg base D w) {fA : Addr} {fd : FuncData} (FD : FunD K "_law_other" "_law_other" (defArgs (top 13)) (defBody (top 13)) (defScope (top 13)) [] [] fA fd) : FnOk P w K mg base (L2.CX P w) 3 fA fd ["_law_box_here", "_law_rows"] (spF D w 2 F__law_other) := by
  refine fn_ok FD sc__law_other rfl (by decide) fun cdv A outer s H E hr => ?_
  have c := Sc.fn (P := P) (w := w) (D := D) (E := E) (H := H) (K := K) (base := base) (outer := outer) (N := N__law_other) (is := [0, 1, 2, 3, 4, 5]) (ls := [0, 1, 2, 3, 4, 5]) (gs := ["_law_take", "_law_row"]) (bs := ["list", "len", "tuple"]) (by kernel_rfl) (G.free (by kernel_rfl)) sc__law_other.nd hr
  have ow := own_fn (P := P) (w := w) (K := K) (mg := mg) (base := base) (N := N__law_other) (qual := "_law_other") (scope := defScope (top 13)) (f := fA) (cdv := cdv) (A := A) (outer := outer) (s := s) (H := H) (E := E)
  exact xs_cons (xs_asg (nCall c false 0 rfl (ok__law_take G) (by decide) (xa_cons (nv c 0 rfl rfl) (xa_cons (xe_int) (xa_nil) rfl) rfl) rfl rfl) (gv c 2 rfl rfl) rfl rfl rfl) (xs_cons (xs_asg (nList c true 0 rfl (xa_cons (nv c 1 rfl rfl) (xa_nil) rfl) rfl rfl) (gv c 3 rfl rfl) rfl rfl rfl) (xs_cons (xs_asg (nCall c false 0 rfl (ok__law_take G) (by decide) (xa_cons (nv c 0 rfl rfl) (xa_cons (nAdd c false (nLen c 1 rfl (xa_cons (nv c 1 rfl rfl) (xa_nil) rfl) rfl rfl) (xe_int)) (xa_nil) rfl) rfl) rfl rfl) (gv c 4 rfl rfl) rfl rfl rfl) (xs_cons (xs_if ((xw_and (tCmp (kEq c) (nv c 2 rfl rfl) (xe_int) rfl) (xw_and1 (tCmp (kNe c) (nv c 1 rfl rfl) (xe_lst (live := false) (xa_nil)) rfl))).pt) (xs_cons (xs_asg (nCall c false 0 rfl (ok__law_take G) (by decide) (xa_cons (nv c 0 rfl rfl) (xa_cons (nLen c 1 rfl (xa_cons (nv c 1 rfl rfl) (xa_nil) rfl) rfl rfl) (xa_nil) rfl) rfl) rfl rfl) (gv c 5 rfl rfl) rfl rfl rfl) (xs_cons (xs_setX c.hw (c_u9 c) (nIx (nv c 1 rfl rfl) (nv c 5 rfl rfl) (fun _ _ => rfl)) (nv c 3 rfl rfl) (nMod c (nv c 4 rfl rfl) (nLen c 1 rfl (xa_cons (nv c 1 rfl rfl) (xa_nil) rfl) rfl rfl)) rfl rfl rfl (fun _ => rfl)) (xs_cons (xs_setX c.hw (c_u9 c) (nIx (nv c 1 rfl rfl) (nMod c (nv c 4 rfl rfl) (nLen c 1 rfl (xa_cons (nv c 1 rfl rfl) (xa_nil) rfl) rfl rfl)) (fun _ _ => rfl)) (nv c 3 rfl rfl) (nv c 5 rfl rfl) rfl rfl rfl (fun _ => rfl)) (xs_nil)))) (xs_nil)) (xs_cons (xs_if (tCmp (kEq c) (nv c 2 rfl rfl) (xe_int) rfl) (xs_cons (xs_asg (nAdd c false (nAdd c false (xe_sl (live := false) (nv c 1 rfl rfl) (xo_none) (xo_some (nv c 4 rfl rfl))) (xe_lst (live := false) (xa_cons (nCall c false 1 rfl (ok__law_row G) (by decide) (xa_cons (nv c 0 rfl rfl) (xa_cons (nv c 1 rfl rfl) (xa_nil) rfl) rfl) rfl rfl) (xa_nil) rfl))) (xe_sl (live := false) (nv c 1 rfl rfl) (xo_some (nAdd c false (nv c 4 rfl rfl) (xe_int))) (xo_none))) (gv c 3 rfl rfl) rfl rfl rfl) (xs_nil)) (xs_nil)) (xs_cons (xs_if (tCmp (kEq c) (nv c 2 rfl rfl) (xe_int) rfl) (xs_cons (xs_ex (nAppend c (nv c 3 rfl rfl) (nCall c false 1 rfl (ok__law_row G) (by decide) (xa_cons (nv c 0 rfl rfl) (xa_cons (nv c 1 rfl rfl) (xa_nil) rfl) rfl) rfl rfl) rfl rfl rfl rfl) rfl) (xs_nil)) (xs_nil)) (xs_cons (xs_if (tCmp (kEq c) (nv c 2 rfl rfl) (xe_int) rfl) (xs_cons (xs_asg (nAdd c false (nAdd c false (xe_sl (live := false) (nv c 1 rfl rfl) (xo_none) (xo_some (nv c 4 rfl rfl))) (xe_lst (live := false) (xa_cons (nIx (xe_lst (live := false) (xa_cons (xe_lst (live := false) (xa_cons (xe_int) (xa_nil) rfl)) (xa_cons (xe_tup (xa_cons (xe_bl) (xa_nil) rfl)) (xa_cons (xe_tup (xa_cons (xe_int) (xa_cons (xe_non) (xa_nil) rfl) rfl)) (xa_cons (xe_int) (xa_cons (xe_tup (xa_cons (xe_str) (xa_nil) rfl)) (xa_nil) rfl) rfl) rfl) rfl) rfl)) (nCall c false 0 rfl (ok__law_take G) (by decide) (xa_cons (nv c 0 rfl rfl) (xa_cons (xe_int) (xa_nil) rfl) rfl) rfl rfl) (fun _ _ => rfl)) (xa_nil) rfl))) (xe_sl (live := false) (nv c 1 rfl rfl) (xo_some (nv c 4 rfl rfl)) (xo_none))) (gv c 3 rfl rfl) rfl rfl rfl) (xs_nil)) (xs_nil)) (xs_cons (xs_if (tCmp (kEq c) (nv c 2 rfl rfl) (xe_int) rfl) (xs_cons (xs_ret (nIx (xe_lst (live := false) (xa_cons (nTuple c 2 rfl (xa_cons (nv c 1 rfl rfl) (xa_nil) rfl) rfl rfl) (xa_cons (xe_non) (xa_cons (xe_int) (xa_cons (xe_str) (xa_cons (xe_dic0 (live := false) c.hw) (xa_nil) rfl) rfl) rfl) rfl) rfl)) (nCall c false 0 rfl (ok__law_take G) (by decide) (xa_cons (nv c 0 rfl rfl) (xa_cons (xe_int) (xa_nil) rfl) rfl) rfl rfl) (fun _ _ => rfl))) (xs_nil)) (xs_nil)) (xs_cons (xs_ret (nv c 3 rfl rfl)) (xs_nil)))))))))
theorem ok__law_other (G : GF P K mg base D w) : Fk P K mg base D w 3 "_law_other" 2 F__law_other [] := by
  obtain ⟨fA, fd, FD, hm⟩ := G.def__law_other
  exact ⟨fA, fd, ["_law_box_here", "_law_rows"], [], [], hm, fo__law_other G FD, FD.bindsN fun _ _ _ _ _ _ us hl => match us, hl with | [_, _], _ => rfl, .nil, fun _ => by simp only [RTs], FD.kp⟩
/-! ### Heap_swap -/
def N_Heap_swap : List Str := ["self", "one", "other"]
noncomputable def m_Heap_swap : MS := sSeq (sSet2 (mTup (aCons (m2 fIdx (mFld okF (mVar 0) "kept") (mVar 2)) (aCons (m2 fIdx (mFld okF (mVar 0) "kept") (mVar 1)) (aNil)))) (mFld okF (mVar 0) "kept") (mVar 1) (mFld okF (mVar 0) "kept") (mVar 2)) (sNil)
noncomputable def F_Heap_swap : MF := runF 3 3 m_Heap_swap
theorem sc_Heap_swap : FnScope N_Heap_swap ["self", "one", "other"] (defScope (mth 5 3)) := ⟨rfl, rfl, rfl, by decide +kernel, rfl, by decide +kernel, by decide +kernel⟩
theorem fo_Heap_swap (G : GF P K mg base D w) {fA : Addr} {fd : FuncData} (FD : FunD K "swap" "Heap.swap" (defArgs (mth 5 3)) (defBody (mth 5 3)) (defScope (mth 5 3)) [] [] fA fd) : FnOk P w K mg base (L2.CX P w) 1 fA fd ["self", "one", "other"] (spF D w 3 F_Heap_swap) := by
  refine fn_ok FD sc_Heap_swap rfl (by decide) fun cdv A outer s H E hr => ?_
  have c := Sc.fn (P := P) (w := w) (D := D) (E := E) (H := H) (K := K) (base := base) (outer := outer) (N := N_Heap_swap) (is := [0, 1, 2]) (ls := [0, 1, 2]) (gs := []) (bs := []) (by kernel_rfl) (G.free (by kernel_rfl)) sc_Heap_swap.nd hr
  have ow := own_fn (P := P) (w := w) (K := K) (mg := mg) (base := base) (N := N_Heap_swap) (qual := "Heap.swap") (scope := defScope (mth 5 3)) (f := fA) (cdv := cdv) (A := A) (outer := outer) (s := s) (H := H) (E := E)
  exact xs_cons (xs_set2 c.hw c.calm (c_u9 c) (xe_tup (xa_cons (nIx (xe_fld G.cf (nv c 0 rfl rfl) rfl) (nv c 2 rfl rfl) (fun _ _ => rfl)) (xa_cons (nIx (xe_fld G.cf (nv c 0 rfl rfl) rfl) (nv c 1 rfl rfl) (fun _ _ => rfl)) (xa_nil) rfl) rfl)) (xe_fld G.cf (nv c 0 rfl rfl) rfl) (nv c 1 rfl rfl) (xe_fld G.cf (nv c 0 rfl rfl) rfl) (nv c 2 rfl rfl) rfl rfl rfl rfl rfl rfl rfl (fun _ => rfl) (fun _ => rfl)) (xs_nil)
theorem ok_Heap_swap (G : GF P K mg base D w) : Mtk P K mg base D w 1 "swap" 0 3 F_Heap_swap := by
  obtain ⟨fA, fd, FD, hm, hc⟩ := G.def_Heap_swap
  exact ⟨hc, fA, fd, ["self", "one", "other"], hm, fo_Heap_swap G FD, FD.bindsN fun _ _ _ _ _ _ us hl => match us, hl with | [_, _, _], _ => rfl⟩
/-! ### Heap_put -/
def N_Heap_put : List Str := ["self", "row", "k"]
noncomputable def m_Heap_put : MS := sSeq (sEx (mBm isLs fApp (mFld okF (mVar 0) "kept") (aCons (mVar 1) aNil))) (sSeq (sAsg (m2 fSub (mA fLen (aCons (mFld okF (mVar 0) "kept") (aNil))) (mT (.int 1))) (gN 2)) (sSeq (whM (bAnd (bOf (m2 (fGt) (mVar 2) (mT (.int 0)))) (bOf (m2 (fLt) (m2 fIdx (mFld okF (mVar 0) "kept") (mVar 2)) (m2 fIdx (mFld okF (mVar 0) "kept") (m2 fDiv (m2 fSub (mVar 2) (mT (.int 1))) (mT (.int 2))))))) (sSeq (sEx (mMe "swap" (tbM [(0, callF F_Heap_swap 3 [] false)]) (mVar 0) (aCons (mVar 2) (aCons (m2 fDiv (m2 fSub (mVar 2) (mT (.int 1))) (mT (.int 2))) (aNil))))) (sSeq (sAsg (m2 fDiv (m2 fSub (mVar 2) (mT (.int 1))) (mT (.int 2))) (gN 2)) (sNil))) 1000) (sNil)))
noncomputable def F_Heap_put : MF := runF 3 2 m_Heap_put
theorem sc_Heap_put : FnScope N_Heap_put ["self", "row"] (defScope (mth 5 4)) := ⟨rfl, rfl, rfl, by decide +kernel, rfl, by decide +kernel, by decide +kernel⟩
theorem fo_Heap_put (G : GF P K mg base D w) {fA : Addr} {fd : FuncData} (FD : FunD K "put" "Heap.put" (defArgs (mth 5 4)) (defBody (mth 5 4)) (defScope (mth 5 4)) [] [] fA fd) : FnOk P w K mg base (L2.CX P w) 2 fA fd ["self", "row"] (spF D w 2 F_Heap_put) := by
  refine fn_ok FD sc_Heap_put rfl (by decide) fun cdv A outer s H E hr => ?_
  have c := Sc.fn (P := P) (w := w) (D := D) (E := E) (H := H) (K := K) (base := base) (outer := outer) (N := N_Heap_put) (is := [0, 1, 2]) (ls := [0, 1, 2]) (gs := []) (bs := ["len"]) (by kernel_rfl) (G.free (by kernel_rfl)) sc_Heap_put.nd hr
  have ow := own_fn (P := P) (w := w) (K := K) (mg := mg) (base := base) (N := N_Heap_put) (qual := "Heap.put") (scope := defScope (mth 5 4)) (f := fA) (cdv := cdv) (A := A) (outer := outer) (s := s) (H := H) (E := E)
  exact xs_cons (xs_ex (nAppend c (xe_fld G.cf (nv c 0 rfl rfl) rfl) (nv c 1 rfl rfl) rfl rfl rfl rfl) rfl) (xs_cons (xs_asg (nSub c (nLen c 0 rfl (xa_cons (xe_fld G.cf (nv c 0 rfl rfl) rfl) (xa_nil) rfl) rfl rfl) (xe_int)) (gv c 2 rfl rfl) rfl rfl rfl) (xs_cons (xs_while 1000 ow ((xw_and (tCmp (kGt c) (nv c 2 rfl rfl) (xe_int) rfl) (xw_and1 (tCmp (kLt c) (nIx (xe_fld G.cf (nv c 0 rfl rfl) rfl) (nv c 2 rfl rfl) (fun _ _ => rfl)) (nIx (xe_fld G.cf (nv c 0 rfl rfl) rfl) (nDiv c (nSub c (nv c 2 rfl rfl) (xe_int)) (xe_int)) (fun _ _ => rfl)) rfl))).pt) (xs_cons (xs_ex (xe_meth (mt_cons c false (ok_Heap_swap G) (by decide) (mt_nil)) (nv c 0 rfl rfl) (xa_cons (nv c 2 rfl rfl) (xa_cons (nDiv c (nSub c (nv c 2 rfl rfl) (xe_int)) (xe_int)) (xa_nil) rfl) rfl) rfl rfl rfl) rfl) (xs_cons (xs_asg (nDiv c (nSub c (nv c 2 rfl rfl) (xe_int)) (xe_int)) (gv c 2 rfl rfl) rfl rfl rfl) (xs_nil)))) (xs_nil)))
theorem ok_Heap_put (G : GF P K mg base D w) : Mtk P K mg base D w 2 "put" 0 2 F_Heap_put := by
  obtain ⟨fA, fd, FD, hm, hc⟩ := G.def_Heap_put
  exact ⟨hc, fA, fd, ["self", "row"], hm, fo_Heap_put G FD, FD.bindsN fun _ _ _ _ _ _ us hl => match us, hl with | [_, _], _ => rfl⟩
/-! ### Heap_rows -/
def N_Heap_rows : List Str := ["self"]
noncomputable def m_Heap_rows : MS := sSeq (sRet (mA (fList true) (aCons (mFld okF (mVar 0) "kept") (aNil)))) (sNil)
noncomputable def F_Heap_rows : MF := runF 1 1 m_Heap_rows
theorem sc_Heap_rows : FnScope N_Heap_rows ["self"] (defScope (mth 5 2)) := ⟨rfl, rfl, rfl, by decide +kernel, rfl, by decide +kernel, by decide +kernel⟩
theorem fo_Heap_rows (G : GF P K mg base D w) {fA : Addr} {fd : FuncData} (FD : FunD K "rows" "Heap.rows" (defArgs (mth 5 2)) (defBody (mth 5 2)) (defScope (mth 5 2)) [] [] fA fd) : FnOk P w K mg base (L2.CX P w) 1 fA fd ["self"] (spF D w 1 F_Heap_rows) := by
  refine fn_ok FD sc_Heap_rows rfl (by decide) fun cdv A outer s H E hr => ?_
  have c := Sc.fn (P := P) (w := w) (D := D) (E := E) (H := H) (K := K) (base := base) (outer := outer) (N := N_Heap_rows) (is := [0]) (ls := [0]) (gs := []) (bs := ["list"]) (by kernel_rfl) (G.free (by kernel_rfl)) sc_Heap_rows.nd hr
  have ow := own_fn (P := P) (w := w) (K := K) (mg := mg) (base := base) (N := N_Heap_rows) (qual := "Heap.rows") (scope := defScope (mth 5 2)) (f := fA) (cdv := cdv) (A := A) (outer := outer) (s := s) (H := H) (E := E)
  exact xs_cons (xs_ret (nList c true 0 rfl (xa_cons (xe_fld G.cf (nv c 0 rfl rfl) rfl) (xa_nil) rfl) rfl rfl)) (xs_nil)
theorem ok_Heap_rows (G : GF P K mg base D w) : Mtk P K mg base D w 1 "rows" 0 1 F_Heap_rows := by
  obtain ⟨fA, fd, FD, hm, hc⟩ := G.def_Heap_rows
  exact ⟨hc, fA, fd, ["self"], hm, fo_Heap_rows G FD, FD.bindsN fun _ _ _ _ _ _ us hl => match us, hl with | [_], _ => rfl⟩
/-! ### Heap_lesser -/
def N_Heap_lesser : List Str := ["self", "k", "beneath"]
noncomputable def m_Heap_lesser : MS := sSeq (sAsg (m2 (fAdd false) (m2 (fMulX false) (mT (.int 2)) (mVar 1)) (mT (.int 1))) (gN 2)) (sSeq (sIf (bOf (m2 (fGe) (mVar 2) (mA fLen (aCons (mFld okF (mVar 0) "kept") (aNil))))) (sSeq (sRet (mT .non)) (sNil)) (sNil)) (sSeq (sIf (bAnd (bOf (m2 (fLt) (m2 (fAdd false) (mVar 2) (mT (.int 1))) (mA fLen (aCons (mFld okF (mVar 0) "kept") (aNil))))) (bOf (m2 (fLt) (m2 fIdx (mFld okF (mVar 0) "kept") (m2 (fAdd false) (mVar 2) (mT (.int 1)))) (m2 fIdx (mFld okF (mVar 0) "kept") (mVar 2))))) (sSeq (sRet (m2 (fAdd false) (mVar 2) (mT (.int 1)))) (sNil)) (sNil)) (sSeq (sRet (mVar 2)) (sNil))))
noncomputable def F_Heap_lesser : MF := runF 3 2 m_Heap_lesser
theorem sc_Heap_lesser : FnScope N_Heap_lesser ["self", "k"] (defScope (mth 5 5)) := ⟨rfl, rfl, rfl, by decide +kernel, rfl, by decide +kernel, by decide +kernel⟩
theorem fo_Heap_lesser (G : GF P K mg base D w) {fA : Addr} {fd : FuncData} (FD : FunD K "lesser" "Heap.lesser" (defArgs (mth 5 5)) (defBody (mth 5 5)) (defScope (mth 5 5)) [] [] fA fd) : FnOk P w K mg base (L2.CX P w) 1 fA fd ["self", "k"] (spF D w 2 F_Heap_lesser) := by
  refine fn_ok FD sc_Heap_lesser rfl (by decide) fun cdv A outer s H E hr => ?_
  have c := Sc.fn (P := P) (w := w) (D := D) (E := E) (H := H) (K := K) (base := base) (outer := outer) (N := N_Heap_lesser) (is := [0, 1, 2]) (ls := [0, 1, 2]) (gs := []) (bs := ["len"]) (by kernel_rfl) (G.free (by kernel_rfl)) sc_Heap_lesser.nd hr
  have ow := own_fn (P := P) (w := w) (K := K) (mg := mg) (base := base) (N := N_Heap_lesser) (qual := "Heap.lesser") (scope := defScope (mth 5 5)) (f := fA) (cdv := cdv) (A := A) (outer := outer) (s := s) (H := H) (E := E)
  exact xs_cons (xs_asg (nAdd c false (nMulX c false (xe_int) (nv c 1 rfl rfl)) (xe_int)) (gv c 2 rfl rfl) rfl rfl rfl) (xs_cons (xs_if (tCmp (kGe c) (nv c 2 rfl rfl) (nLen c 0 rfl (xa_cons (xe_fld G.cf (nv c 0 rfl rfl) rfl) (xa_nil) rfl) rfl rfl) rfl) (xs_cons (xs_ret (xe_non)) (xs_nil)) (xs_nil)) (xs_cons (xs_if ((xw_and (tCmp (kLt c) (nAdd c false (nv c 2 rfl rfl) (xe_int)) (nLen c 0 rfl (xa_cons (xe_fld G.cf (nv c 0 rfl rfl) rfl) (xa_nil) rfl) rfl rfl) rfl) (xw_and1 (tCmp (kLt c) (nIx (xe_fld G.cf (nv c 0 rfl rfl) rfl) (nAdd c false (nv c 2 rfl rfl) (xe_int)) (fun _ _ => rfl)) (nIx (xe_fld G.cf (nv c 0 rfl rfl) rfl) (nv c 2 rfl rfl) (fun _ _ => rfl)) rfl))).pt) (xs_cons (xs_ret (nAdd c false (nv c 2 rfl rfl) (xe_int))) (xs_nil)) (xs_nil)) (xs_cons (xs_ret (nv c 2 rfl rfl)) (xs_nil))))
theorem ok_Heap_lesser (G : GF P K mg base D w) : Mtk P K mg base D w 1 "lesser" 0 2 F_Heap_lesser := by
  obtain ⟨fA, fd, FD, hm, hc⟩ := G.def_Heap_lesser
  exact ⟨hc, fA, fd, ["self", "k"], hm, fo_Heap_lesser G FD, FD.bindsN fun _ _ _ _ _ _ us hl => match us, hl with | [_, _], _ => rfl⟩
/-! ### Heap_sink -/
def N_Heap_sink : List Str := ["self", "k", "beneath"]
noncomputable def m_Heap_sink : MS := sSeq (sAsg (mT (.int 0)) (gN 1)) (sSeq (sAsg (mMe "lesser" (tbM [(0, callF F_Heap_lesser 2 [] false)]) (mVar 0) (aCons (mVar 1) (aNil))) (gN 2)) (sSeq (whM (bAnd (bOf (m2 (fIsN true) (mVar 2) (mT .non))) (bOf (m2 (fLt) (m2 fIdx (mFld okF (mVar 0) "kept") (mVar 2)) (m2 fIdx (mFld okF (mVar 0) "kept") (mVar 1))))) (sSeq (sEx (mMe "swap" (tbM [(0, callF F_Heap_swap 3 [] false)]) (mVar 0) (aCons (mVar 1) (aCons (mVar 2) (aNil))))) (sSeq (sAsg (mVar 2) (gN 1)) (sSeq (sAsg (mMe "lesser" (tbM [(0, callF F_Heap_lesser 2 [] false)]) (mVar 0) (aCons (mVar 1) (aNil))) (gN 2)) (sNil)))) 1000) (sNil)))
noncomputable def F_Heap_sink : MF := runF 3 1 m_Heap_sink
theorem sc_Heap_sink : FnScope N_Heap_sink ["self"] (defScope (mth 5 7)) := ⟨rfl, rfl, rfl, by decide +kernel, rfl, by decide +kernel, by decide +kernel⟩
theorem fo_Heap_sink (G : GF P K mg base D w) {fA : Addr} {fd : FuncData} (FD : FunD K "sink" "Heap.sink" (defArgs (mth 5 7)) (defBody (mth 5 7)) (defScope (mth 5 7)) [] [] fA fd) : FnOk P w K mg base (L2.CX P w) 2 fA fd ["self"] (spF D w 1 F_Heap_sink) := by
  refine fn_ok FD sc_Heap_sink rfl (by decide) fun cdv A outer s H E hr => ?_
  have c := Sc.fn (P := P) (w := w) (D := D) (E := E) (H := H) (K := K) (base := base) (outer := outer) (N := N_Heap_sink) (is := [0, 1, 2]) (ls := [0, 1, 2]) (gs := []) (bs := []) (by kernel_rfl) (G.free (by kernel_rfl)) sc_Heap_sink.nd hr
  have ow := own_fn (P := P) (w := w) (K := K) (mg := mg) (base := base) (N := N_Heap_sink) (qual := "Heap.sink") (scope := defScope (mth 5 7)) (f := fA) (cdv := cdv) (A := A) (outer := outer) (s := s) (H := H) (E := E)
  exact xs_cons (xs_asg (xe_int) (gv c 1 rfl rfl) rfl rfl rfl) (xs_cons (xs_asg (xe_meth (mt_cons c false (ok_Heap_lesser G) (by decide) (mt_nil)) (nv c 0 rfl rfl) (xa_cons (nv c 1 rfl rfl) (xa_nil) rfl) rfl rfl rfl) (gv c 2 rfl rfl) rfl rfl rfl) (xs_cons (xs_while 1000 ow ((xw_and (tCmp (kIsN c) (nv c 2 rfl rfl) (xe_non) rfl) (xw_and1 (tCmp (kLt c) (nIx (xe_fld G.cf (nv c 0 rfl rfl) rfl) (nv c 2 rfl rfl) (fun _ _ => rfl)) (nIx (xe_fld G.cf (nv c 0 rfl rfl) rfl) (nv c 1 rfl rfl) (fun _ _ => rfl)) rfl))).pt) (xs_cons (xs_ex (xe_meth (mt_cons c false (ok_Heap_swap G) (by decide) (mt_nil)) (nv c 0 rfl rfl) (xa_cons (nv c 1 rfl rfl) (xa_cons (nv c 2 rfl rfl) (xa_nil) rfl) rfl) rfl rfl rfl) rfl) (xs_cons (xs_asg (nv c 2 rfl rfl) (gv c 1 rfl rfl) rfl rfl rfl) (xs_cons (xs_asg (xe_meth (mt_cons c false (ok_Heap_lesser G) (by decide) (mt_nil)) (nv c 0 rfl rfl) (xa_cons (nv c 1 rfl rfl) (xa_nil) rfl) rfl rfl rfl) (gv c 2 rfl rfl) rfl rfl rfl) (xs_nil))))) (xs_nil)))
theorem ok_Heap_sink (G : GF P K mg base D w) : Mtk P K mg base D w 2 "sink" 0 1 F_Heap_sink := by
  obtain ⟨fA, fd, FD, hm, hc⟩ := G.def_Heap_sink
  exact ⟨hc, fA, fd, ["self"], hm, fo_Heap_sink G FD, FD.bindsN fun _ _ _ _ _ _ us hl => match us, hl with | [_], _ => rfl⟩
/-! ### Heap_take -/
def N_Heap_take : List Str := ["self", "least", "last"]
noncomputable def m_Heap_take : MS := sSeq (sIf (bOf (m2 (fEq false) (mFld okF (mVar 0) "kept") (mLst false (aNil)))) (sSeq (sRet (mT .non)) (sNil)) (sNil)) (sSeq (sAsg (m2 fIdx (mFld okF (mVar 0) "kept") (mT (.int 0))) (gN 1)) (sSeq (sAsg (mBm isLs fPop (mFld okF (mVar 0) "kept") aNil) (gN 2)) (sSeq (sIf (bOf (m2 (fEq true) (mFld okF (mVar 0) "kept") (mLst false (aNil)))) (sSeq (sSetX (mVar 2) (mFld okF (mVar 0) "kept") (mT (.int 0))) (sSeq (sEx (mMe "sink" (tbM [(0, callF F_Heap_sink 1 [] false)]) (mVar 0) aNil)) (sNil))) (sNil)) (sSeq (sRet (mVar 1)) (sNil)))))
noncomputable def F_Heap_take : MF := runF 3 1 m_Heap_take
theorem sc_Heap_take : FnScope N_Heap_take ["self"] (defScope (mth 5 6)) := ⟨rfl, rfl, rfl, by decide +kernel, rfl, by decide +kernel, by decide +kernel⟩
theorem fo_Heap_take (G : GF P K mg base D w) {fA : Addr} {fd : FuncData} (FD : FunD K "take" "Heap.take" (defArgs (mth 5 6)) (defBody (mth 5 6)) (defScope (mth 5 6)) [] [] fA fd) : FnOk P w K mg base (L2.CX P w) 3 fA fd ["self"] (spF D w 1 F_Heap_take) := by
  refine fn_ok FD sc_Heap_take rfl (by decide) fun cdv A outer s H E hr => ?_
  have c := Sc.fn (P := P) (w := w) (D := D) (E := E) (H := H) (K := K) (base := base) (outer := outer) (N := N_Heap_take) (is := [0, 1, 2]) (ls := [0, 1, 2]) (gs := []) (bs := []) (by kernel_rfl) (G.free (by kernel_rfl)) sc_Heap_take.nd hr
  have ow := own_fn (P := P) (w := w) (K := K) (mg := mg) (base := base) (N := N_Heap_take) (qual := "Heap.take") (scope := defScope (mth 5 6)) (f := fA) (cdv := cdv) (A := A) (outer := outer) (s := s) (H := H) (E := E)
  exact xs_cons (xs_if (tCmp (kEq c) (xe_fld G.cf (nv c 0 rfl rfl) rfl) (xe_lst (live := false) (xa_nil)) rfl) (xs_cons (xs_ret (xe_non)) (xs_nil)) (xs_nil)) (xs_cons (xs_asg (nIx (xe_fld G.cf (nv c 0 rfl rfl) rfl) (xe_int) (fun _ _ => rfl)) (gv c 1 rfl rfl) rfl rfl rfl) (xs_cons (xs_asg (nPop c (xe_fld G.cf (nv c 0 rfl rfl) rfl) rfl rfl) (gv c 2 rfl rfl) rfl rfl rfl) (xs_cons (xs_if (tCmp (kNe c) (xe_fld G.cf (nv c 0 rfl rfl) rfl) (xe_lst (live := false) (xa_nil)) rfl) (xs_cons (xs_setX c.hw (c_u9 c) (nv c 2 rfl rfl) (xe_fld G.cf (nv c 0 rfl rfl) rfl) (xe_int) rfl rfl rfl (fun _ => rfl)) (xs_cons (xs_ex (xe_meth0 (mt_cons c false (ok_Heap_sink G) (by decide) (mt_nil)) (nv c 0 rfl rfl) rfl) rfl) (xs_nil))) (xs_nil)) (xs_cons (xs_ret (nv c 1 rfl rfl)) (xs_nil)))))
theorem ok_Heap_take (G : GF P K mg base D w) : Mtk P K mg base D w 3 "take" 0 1 F_Heap_take := by
  obtain ⟨fA, fd, FD, hm, hc⟩ := G.def_Heap_take
  exact ⟨hc, fA, fd, ["self"], hm, fo_Heap_take G FD, FD.bindsN fun _ _ _ _ _ _ us hl => match us, hl with | [_], _ => rfl⟩
/-! ### _law_taken -/
def N__law_taken : List Str := ["_law_heap", "_law_kept", "_law_found"]
noncomputable def m__law_taken : MS := sSeq (sAsg (mMe "take" (tbM [(0, callF F_Heap_take 1 [] false)]) (mVar 0) aNil) (gN 2)) (sSeq (sIf (bOf (m2 (fEq false) (mVar 1) (mLst false (aNil)))) (sSeq (sRet (m2 (fIsN false) (mVar 2) (mT .non))) (sNil)) (sNil)) (sSeq (sRet (mAndV (mA (fIsi ktB) (aCons (mVar 2) (aCons (mT (.ty "tuple")) (aNil)))) (m2 (fEq false) (mVar 2) (mBm isLs fPopAt (mVar 1) (aCons (mT (.int 0)) aNil))))) (sNil)))
noncomputable def F__law_taken : MF := runF 3 2 m__law_taken
theorem sc__law_taken : FnScope N__law_taken ["_law_heap", "_law_kept"] (defScope (top 15)) := ⟨rfl, rfl, rfl, by decide +kernel, rfl, by decide +kernel, by decide +kernel⟩
theorem fo__law_taken (G : GF P K mg base D w) {fA : Addr} {fd : FuncData} (FD : FunD K "_law_taken" "_law_taken" (defArgs (top 15)) (defBody (top 15)) (defScope (top 15)) [] [] fA fd) : FnOk P w K mg base (L2.CX P w) 4 fA fd ["_law_heap", "_law_kept"] (spF D w 2 F__law_taken) := by
  refine fn_ok FD sc__law_taken rfl (by decide) fun cdv A outer s H E hr => ?_
  have c := Sc.fn (P := P) (w := w) (D := D) (E := E) (H := H) (K := K) (base := base) (outer := outer) (N := N__law_taken) (is := [0, 1, 2]) (ls := [0, 1, 2]) (gs := []) (bs := ["tuple", "isinstance"]) (by kernel_rfl) (G.free (by kernel_rfl)) sc__law_taken.nd hr
  have ow := own_fn (P := P) (w := w) (K := K) (mg := mg) (base := base) (N := N__law_taken) (qual := "_law_taken") (scope := defScope (top 15)) (f := fA) (cdv := cdv) (A := A) (outer := outer) (s := s) (H := H) (E := E)
  exact xs_cons (xs_asg (xe_meth0 (mt_cons c false (ok_Heap_take G) (by decide) (mt_nil)) (nv c 0 rfl rfl) rfl) (gv c 2 rfl rfl) rfl rfl rfl) (xs_cons (xs_if (tCmp (kEq c) (nv c 1 rfl rfl) (xe_lst (live := false) (xa_nil)) rfl) (xs_cons (xs_ret (nCmp (kIs c) (nv c 2 rfl rfl) (xe_non) rfl)) (xs_nil)) (xs_nil)) (xs_cons (xs_ret (xe_and (nIsi c G.hk 1 rfl (xa_cons (nv c 2 rfl rfl) (xa_cons (nTy c 0 rfl boot_tuple) (xa_nil) rfl) rfl) rfl rfl) (xe_one (nCmp (kEq c) (nv c 2 rfl rfl) (nPopAt c (nv c 1 rfl rfl) (xe_int) rfl rfl rfl rfl) rfl)))) (xs_nil)))
theorem ok__law_taken (G : GF P K mg base D w) : Fk P K mg base D w 4 "_law_taken" 2 F__law_taken [] := by
  obtain ⟨fA, fd, FD, hm⟩ := G.def__law_taken
  exact ⟨fA, fd, ["_law_heap", "_law_kept"], [], [], hm, fo__law_taken G FD, FD.bindsN fun _ _ _ _ _ _ us hl => match us, hl with | [_, _], _ => rfl, .nil, fun _ => by simp only [RTs], FD.kp⟩
/-! ### _law_whole -/
def N__law_whole : List Str := ["_law_found"]
noncomputable def m__law_whole : MS := sSeq (sRet (mAndV (mA (fIsi ktB) (aCons (mVar 0) (aCons (mT (.ty "int")) (aNil)))) (mNotV (mA (fIsi ktB) (aCons (mVar 0) (aCons (mT (.ty "bool")) (aNil))))))) (sNil)
noncomputable def F__law_whole : MF := runF 1 1 m__law_whole
theorem sc__law_whole : FnScope N__law_whole ["_law_found"] (defScope (top 10)) := ⟨rfl, rfl, rfl, by decide +kernel, rfl, by decide +kernel, by decide +kernel⟩
theorem fo__law_whole (G : GF P K mg base D w) {fA : Addr} {fd : FuncData} (FD : FunD K "_law_whole" "_law_whole" (defArgs (top 10)) (defBody (top 10)) (defScope (top 10)) [] [] fA fd) : FnOk P w K mg base (L2.CX P w) 1 fA fd ["_law_found"] (spF D w 1 F__law_whole) := by
  refine fn_ok FD sc__law_whole rfl (by decide) fun cdv A outer s H E hr => ?_
  have c := Sc.fn (P := P) (w := w) (D := D) (E := E) (H := H) (K := K) (base := base) (outer := outer) (N := N__law_whole) (is := [0]) (ls := [0]) (gs := []) (bs := ["int", "isinstance", "bool"]) (by kernel_rfl) (G.free (by kernel_rfl)) sc__law_whole.nd hr
  have ow := own_fn (P := P) (w := w) (K := K) (mg := mg) (base := base) (N := N__law_whole) (qual := "_law_whole") (scope := defScope (top 10)) (f := fA) (cdv := cdv) (A := A) (outer := outer) (s := s) (H := H) (E := E)
  exact xs_cons (xs_ret (xe_and (nIsi c G.hk 1 rfl (xa_cons (nv c 0 rfl rfl) (xa_cons (nTy c 0 rfl boot_int) (xa_nil) rfl) rfl) rfl rfl) (xe_one (xe_not (nIsi c G.hk 1 rfl (xa_cons (nv c 0 rfl rfl) (xa_cons (nTy c 2 rfl boot_bool) (xa_nil) rfl) rfl) rfl rfl))))) (xs_nil)
theorem ok__law_whole (G : GF P K mg base D w) : Fk P K mg base D w 1 "_law_whole" 1 F__law_whole [] := by
  obtain ⟨fA, fd, FD, hm⟩ := G.def__law_whole
  exact ⟨fA, fd, ["_law_found"], [], [], hm, fo__law_whole G FD, FD.bindsN fun _ _ _ _ _ _ us hl => match us, hl with | [_], _ => rfl, .nil, fun _ => by simp only [RTs], FD.kp⟩
/-! ### _law_has_form -/
def N__law_has_form : List Str := ["_law_thing", "_law_row_here", "_law_k", "_law_number"]
noncomputable def m__law_has_form : MS := sSeq (sIf (bNot (bOf (mA (fIsi ktB) (aCons (mVar 0) (aCons (mT (.ty "list")) (aNil)))))) (sSeq (sRet (mT (.bl false))) (sNil)) (sNil)) (sSeq (sFor (iVal (mVar 0)) (gN 1) (sSeq (sIf (bOr (bNot (bOf (mA (fIsi ktB) (aCons (mVar 1) (aCons (mT (.ty "tuple")) (aNil)))))) (bNot (bOf (mA fAll (aCons (mLc false (iVal (mVar 1)) (gN 3) (bYes) (mA (callF F__law_whole 1 [] true) (aCons (mVar 3) (aNil))) [3]) (aNil)))))) (sSeq (sRet (mT (.bl false))) (sNil)) (sNil)) (sNil))) (sSeq (sFor (iR2 (aCons (mT (.int 1)) (aCons (mA fLen (aCons (mVar 0) (aNil))) (aNil)))) (gN 2) (sSeq (sIf (bOf (m2 (fLt) (m2 fIdx (mVar 0) (mVar 2)) (m2 fIdx (mVar 0) (m2 fDiv (m2 fSub (mVar 2) (mT (.int 1))) (mT (.int 2)))))) (sSeq (sRet (mT (.bl false))) (sNil)) (sNil)) (sNil))) (sSeq (sRet (mT (.bl true))) (sNil))))
noncomputable def F__law_has_form : MF := runF 4 1 m__law_has_form
theorem sc__law_has_form : FnScope N__law_has_form ["_law_thing"] (defScope (top 12)) := ⟨rfl, rfl, rfl, by decide +kernel, rfl, by decide +kernel, by decide +kernel⟩
theorem fo__law_has_form (G : GF P K mg base D w) {fA : Addr} {fd : FuncData} (FD : FunD K "_law_has_form" "_law_has_form" (defArgs (top 12)) (defBody (top 12)) (defScope (top 12)) [] [] fA fd) : FnOk P w K mg base (L2.CX P w) 2 fA fd ["_law_thing"] (spF D w 1 F__law_has_form) := by
  refine fn_ok FD sc__law_has_form rfl (by decide) fun cdv A outer s H E hr => ?_
  have c := Sc.fn (P := P) (w := w) (D := D) (E := E) (H := H) (K := K) (base := base) (outer := outer) (N := N__law_has_form) (is := [0, 1, 2]) (ls := [0, 1, 2]) (gs := []) (bs := ["list", "isinstance", "tuple", "all", "range", "len"]) (by kernel_rfl) (G.free (by kernel_rfl)) sc__law_has_form.nd hr
  have ow := own_fn (P := P) (w := w) (K := K) (mg := mg) (base := base) (N := N__law_has_form) (qual := "_law_has_form") (scope := defScope (top 12)) (f := fA) (cdv := cdv) (A := A) (outer := outer) (s := s) (H := H) (E := E)
  exact xs_cons (xs_if (xt_not (xt_val (nIsi c G.hk 1 rfl (xa_cons (nv c 0 rfl rfl) (xa_cons (nTy c 0 rfl boot_list) (xa_nil) rfl) rfl) rfl rfl) (fun _ => rfl))) (xs_cons (xs_ret (xe_bl)) (xs_nil)) (xs_nil)) (xs_cons (xs_for ow c.calm (xi_val (nv c 0 rfl rfl)) (gv c 1 rfl rfl) (xs_cons (xs_if ((xw_or (xt_not (xt_val (nIsi c G.hk 1 rfl (xa_cons (nv c 1 rfl rfl) (xa_cons (nTy c 2 rfl boot_tuple) (xa_nil) rfl) rfl) rfl rfl) (fun _ => rfl))) (xw_or1 (xt_not (xt_val (nAll c 3 rfl (xa_cons (nLc c (live := false) (own := [("_law_number", 3)]) (is' := [3]) (ls' := [3]) (gs' := ["_law_whole"]) (bs' := []) (by kernel_rfl) (G.free (by kernel_rfl)) (by kernel_rfl) (xi_val (nv c 1 rfl rfl)) (fun s H C cl fp c' => gv c' 3 rfl rfl) (fun s H C cl fp c' => xts_nil) (fun s H C cl fp c' => nCall c' true 0 rfl (ok__law_whole G) (by decide) (xa_cons (nv c' 3 rfl rfl) (xa_nil) rfl) rfl rfl) (fun _ => rfl) (by decide)) (xa_nil) rfl) rfl rfl) (fun _ => rfl))))).pt) (xs_cons (xs_ret (xe_bl)) (xs_nil)) (xs_nil)) (xs_nil)) (fun _ => rfl)) (xs_cons (xs_for ow c.calm (xi_r2 (c.bl 4 _ rfl).1 (c.bl 4 _ rfl).2.1 (xa_cons (xe_int) (xa_cons (nLen c 5 rfl (xa_cons (nv c 0 rfl rfl) (xa_nil) rfl) rfl rfl) (xa_nil) rfl) rfl) rfl rfl) (gv c 2 rfl rfl) (xs_cons (xs_if (tCmp (kLt c) (nIx (nv c 0 rfl rfl) (nv c 2 rfl rfl) (fun _ _ => rfl)) (nIx (nv c 0 rfl rfl) (nDiv c (nSub c (nv c 2 rfl rfl) (xe_int)) (xe_int)) (fun _ _ => rfl)) rfl) (xs_cons (xs_ret (xe_bl)) (xs_nil)) (xs_nil)) (xs_nil)) (fun _ => rfl)) (xs_cons (xs_ret (xe_bl)) (xs_nil))))
theorem ok__law_has_form (G : GF P K mg base D w) : Fk P K mg base D w 2 "_law_has_form" 1 F__law_has_form [] := by
  obtain ⟨fA, fd, FD, hm⟩ := G.def__law_has_form
  exact ⟨fA, fd, ["_law_thing"], [], [], hm, fo__law_has_form G FD, FD.bindsN fun _ _ _ _ _ _ us hl => match us, hl with | [_], _ => rfl, .nil, fun _ => by simp only [RTs], FD.kp⟩
/-! ### Heap_many -/
def N_Heap_many : List Str := ["self"]
noncomputable def m_Heap_many : MS := sSeq (sRet (mA fLen (aCons (mFld okF (mVar 0) "kept") (aNil)))) (sNil)
noncomputable def F_Heap_many : MF := runF 1 1 m_Heap_many
theorem sc_Heap_many : FnScope N_Heap_many ["self"] (defScope (mth 5 1)) := ⟨rfl, rfl, rfl, by decide +kernel, rfl, by decide +kernel, by decide +kernel⟩
theorem fo_Heap_many (G : GF P K mg base D w) {fA : Addr} {fd : FuncData} (FD : FunD K "many" "Heap.many" (defArgs (mth 5 1)) (defBody (mth 5 1)) (defScope (mth 5 1)) [] [] fA fd) : FnOk P w K mg base (L2.CX P w) 1 fA fd ["self"] (spF D w 1 F_Heap_many) := by
  refine fn_ok FD sc_Heap_many rfl (by decide) fun cdv A outer s H E hr => ?_
  have c := Sc.fn (P := P) (w := w) (D := D) (E := E) (H := H) (K := K) (base := base) (outer := outer) (N := N_Heap_many) (is := [0]) (ls := [0]) (gs := []) (bs := ["len"]) (by kernel_rfl) (G.free (by kernel_rfl)) sc_Heap_many.nd hr
  have ow := own_fn (P := P) (w := w) (K := K) (mg := mg) (base := base) (N := N_Heap_many) (qual := "Heap.many") (scope := defScope (mth 5 1)) (f := fA) (cdv := cdv) (A := A) (outer := outer) (s := s) (H := H) (E := E)
  exact xs_cons (xs_ret (nLen c 0 rfl (xa_cons (xe_fld G.cf (nv c 0 rfl rfl) rfl) (xa_nil) rfl) rfl rfl)) (xs_nil)
theorem ok_Heap_many (G : GF P K mg base D w) : Mtk P K mg base D w 1 "many" 0 1 F_Heap_many := by
  obtain ⟨fA, fd, FD, hm, hc⟩ := G.def_Heap_many
  exact ⟨hc, fA, fd, ["self"], hm, fo_Heap_many G FD, FD.bindsN fun _ _ _ _ _ _ us hl => match us, hl with | [_], _ => rfl⟩
/-! ### _law_told -/
def N__law_told : List Str := ["_law_heap", "_law_kept", "_law_rows"]
noncomputable def m__law_told : MS := sSeq (sAsg (mMe "rows" (tbM [(0, callF F_Heap_rows 1 [] false)]) (mVar 0) aNil) (gN 2)) (sSeq (sIf (bOr (bNot (bOf (mA (callF F__law_has_form 1 [] false) (aCons (mVar 2) (aNil))))) (bOr (bOf (m2 (fEq true) (mA (fSortN false) (aCons (mVar 2) (aNil))) (mVar 1))) (bOr (bNot (bOf (mA (callF F__law_whole 1 [] true) (aCons (mMe "many" (tbM [(0, callF F_Heap_many 1 [] false)]) (mVar 0) aNil) (aNil))))) (bOf (m2 (fEq true) (mMe "many" (tbM [(0, callF F_Heap_many 1 [] false)]) (mVar 0) aNil) (mA fLen (aCons (mVar 1) (aNil)))))))) (sSeq (sRet (mT (.bl false))) (sNil)) (sNil)) (sSeq (sEx (mBm isLs fApp (mVar 2) (aCons (mTup (aCons (mT (.int 0)) (aNil))) aNil))) (sSeq (sRet (m2 (fEq false) (mMe "many" (tbM [(0, callF F_Heap_many 1 [] false)]) (mVar 0) aNil) (mA fLen (aCons (mVar 1) (aNil))))) (sNil))))
noncomputable def F__law_told : MF := runF 3 2 m__law_told
theorem sc__law_told : FnScope N__law_told ["_law_heap", "_law_kept"] (defScope (top 14)) := ⟨rfl, rfl, rfl, by decide +kernel, rfl, by decide +kernel, by decide +kernel⟩
theorem fo__law_told (G : GF P K mg base D w) {fA : Addr} {fd : FuncData} (FD : FunD K "_law_told" "_law_told" (defArgs (top 14)) (defBody (top 14)) (defScope (top 14)) [] [] fA fd) : FnOk P w K mg base (L2.CX P w) 3 fA fd ["_law_heap", "_law_kept"] (spF D w 2 F__law_told) := by
  refine fn_ok FD sc__law_told rfl (by decide) fun cdv A outer s H E hr => ?_
  have c := Sc.fn (P := P) (w := w) (D := D) (E := E) (H := H) (K := K) (base := base) (outer := outer) (N := N__law_told) (is := [0, 1, 2]) (ls := [0, 1, 2]) (gs := ["_law_has_form", "_law_whole"]) (bs := ["sorted", "len"]) (by kernel_rfl) (G.free (by kernel_rfl)) sc__law_told.nd hr
  have ow := own_fn (P := P) (w := w) (K := K) (mg := mg) (base := base) (N := N__law_told) (qual := "_law_told") (scope := defScope (top 14)) (f := fA) (cdv := cdv) (A := A) (outer := outer) (s := s) (H := H) (E := E)
  exact xs_cons (xs_asg (xe_meth0 (mt_cons c false (ok_Heap_rows G) (by decide) (mt_nil)) (nv c 0 rfl rfl) rfl) (gv c 2 rfl rfl) rfl rfl rfl) (xs_cons (xs_if ((xw_or (xt_not (xt_val (nCall c false 0 rfl (ok__law_has_form G) (by decide) (xa_cons (nv c 2 rfl rfl) (xa_nil) rfl) rfl rfl) (fun _ => rfl))) (xw_or (tCmp (kNe c) (nSorted c false 0 rfl (xa_cons (nv c 2 rfl rfl) (xa_nil) rfl) rfl rfl) (nv c 1 rfl rfl) rfl) (xw_or (xt_not (xt_val (nCall c true 1 rfl (ok__law_whole G) (by decide) (xa_cons (xe_meth0 (mt_cons c false (ok_Heap_many G) (by decide) (mt_nil)) (nv c 0 rfl rfl) rfl) (xa_nil) rfl) rfl rfl) (fun _ => rfl))) (xw_or1 (tCmp (kNe c) (xe_meth0 (mt_cons c false (ok_Heap_many G) (by decide) (mt_nil)) (nv c 0 rfl rfl) rfl) (nLen c 1 rfl (xa_cons (nv c 1 rfl rfl) (xa_nil) rfl) rfl rfl) rfl))))).pt) (xs_cons (xs_ret (xe_bl)) (xs_nil)) (xs_nil)) (xs_cons (xs_ex (nAppend c (nv c 2 rfl rfl) (xe_tup (xa_cons (xe_int) (xa_nil) rfl)) rfl rfl rfl rfl) rfl) (xs_cons (xs_ret (nCmp (kEq c) (xe_meth0 (mt_cons c false (ok_Heap_many G) (by decide) (mt_nil)) (nv c 0 rfl rfl) rfl) (nLen c 1 rfl (xa_cons (nv c 1 rfl rfl) (xa_nil) rfl) rfl rfl) rfl)) (xs_nil))))
theorem ok__law_told (G : GF P K mg base D w) : Fk P K mg base D w 3 "_law_told" 2 F__law_told [] := by
  obtain ⟨fA, fd, FD, hm⟩ := G.def__law_told
  exact ⟨fA, fd, ["_law_heap", "_law_kept"], [], [], hm, fo__law_told G FD, FD.bindsN fun _ _ _ _ _ _ us hl => match us, hl with | [_, _], _ => rfl, .nil, fun _ => by simp only [RTs], FD.kp⟩
/-! ### law -/
def N_law : List Str := ["_law_script", "_law_heaps", "_law_kept", "_law_k", "_law_box_here", "_law_at", "_law_row_here", "_law_thing", "_law_found", "_law_heap", "_law_rows", "_law_turn"]
noncomputable def m_law : MS := sSeq (sAsg (mLst true (aCons (mA (mkG false 0 1 F_Heap_init) aNil) (aCons (mA (mkG false 0 1 F_Heap_init) aNil) (aNil)))) (gN 1)) (sSeq (sAsg (mLst true (aCons (mLst true (aNil)) (aCons (mLst true (aNil)) (aNil)))) (gN 2)) (sSeq (sFor (iR1 (aCons (mA fMax (aCons (mT (.int 3)) (aCons (mA fMin (aCons (mT (.int 60)) (aCons (mA fLen (aCons (mVar 0) (aNil))) (aNil)))) (aNil)))) (aNil))) (gN 3) (sSeq (sAsg (mA (callF F__law_box 2 [] false) (aCons (mVar 0) (aCons (mVar 3) (aNil)))) (gN 4)) (sSeq (sAsg (mA (callF F__law_take 2 [] false) (aCons (mVar 4) (aCons (mT (.int 2)) (aNil)))) (gN 5)) (sSeq (sIf (bOf (m2 (fLt) (mA (callF F__law_take 2 [] false) (aCons (mVar 4) (aCons (mT (.int 3)) (aNil)))) (mT (.int 2)))) (sSeq (sAsg (mA (callF F__law_row 2 [] false) (aCons (mVar 4) (aCons (m2 fIdx (mVar 2) (mVar 5)) (aNil)))) (gN 6)) (sSeq (sEx (mMe "put" (tbM [(0, callF F_Heap_put 2 [] false)]) (m2 fIdx (mVar 1) (mVar 5)) (aCons (mVar 6) (aNil)))) (sSeq (sSetX (mA (fSortN true) (aCons (m2 (fAdd false) (m2 fIdx (mVar 2) (mVar 5)) (mLst false (aCons (mVar 6) (aNil)))) (aNil))) (mVar 2) (mVar 5)) (sNil)))) (sSeq (sIf (bNot (bOf (mA (callF F__law_taken 2 [] false) (aCons (m2 fIdx (mVar 1) (mVar 5)) (aCons (m2 fIdx (mVar 2) (mVar 5)) (aNil)))))) (sSeq (sRet (mT (.bl false))) (sNil)) (sNil)) (sNil))) (sSeq (sAsg (mA (callF F__law_other 2 [] false) (aCons (mVar 4) (aCons (mMe "rows" (tbM [(0, callF F_Heap_rows 1 [] false)]) (m2 fIdx (mVar 1) (mVar 5)) aNil) (aNil)))) (gN 7)) (sSeq (sAsg (mA (callF F_is_heap 1 [] false) (aCons (mVar 7) (aNil))) (gN 8)) (sSeq (sIf (bOr (bNot (bOf (mA (fIsi ktB) (aCons (mVar 8) (aCons (mT (.ty "bool")) (aNil)))))) (bOf (m2 (fEq true) (mVar 8) (mA (callF F__law_has_form 1 [] false) (aCons (mVar 7) (aNil)))))) (sSeq (sRet (mT (.bl false))) (sNil)) (sNil)) (sSeq (sIf (bOr (bNot (bOf (mA (callF F__law_told 2 [] false) (aCons (m2 fIdx (mVar 1) (mT (.int 0))) (aCons (m2 fIdx (mVar 2) (mT (.int 0))) (aNil)))))) (bNot (bOf (mA (callF F__law_told 2 [] false) (aCons (m2 fIdx (mVar 1) (mT (.int 1))) (aCons (m2 fIdx (mVar 2) (mT (.int 1))) (aNil))))))) (sSeq (sRet (mT (.bl false))) (sNil)) (sNil)) (sNil))))))))) (sSeq (sFor (iZp (aCons (mVar 1) (aCons (mVar 2) (aNil)))) (gT [9, 10]) (sSeq (sFor (iR1 (aCons (m2 (fAdd false) (mA fLen (aCons (mVar 10) (aNil))) (mT (.int 1))) (aNil))) (gN 11) (sSeq (sIf (bOr (bNot (bOf (mA (callF F__law_taken 2 [] false) (aCons (mVar 9) (aCons (mVar 10) (aNil)))))) (bOf (m2 (fEq true) (mMe "many" (tbM [(0, callF F_Heap_many 1 [] false)]) (mVar 9) aNil) (mA fLen (aCons (mVar 10) (aNil)))))) (sSeq (sRet (mT (.bl false))) (sNil)) (sNil)) (sNil))) (sNil))) (sSeq (sRet (mA (callF F_is_heap 1 [] false) (aCons (mLst true (aNil)) (aNil)))) (sNil)))))
noncomputable def F_law : MF := runF 12 1 m_law
theorem sc_law : FnScope N_law ["_law_script"] (defScope (top 16)) := ⟨rfl, rfl, rfl, by decide +kernel, rfl, by decide +kernel, by decide +kernel⟩
theorem fo_law (G : GF P K mg base D w) {fA : Addr} {fd : FuncData} (FD : FunD K "law" "law" (defArgs (top 16)) (defBody (top 16)) (defScope (top 16)) [] [] fA fd) : FnOk P w K mg base (L2.CX P w) 5 fA fd ["_law_script"] (spF D w 1 F_law) := by
  refine fn_ok FD sc_law rfl (by decide) fun cdv A outer s H E hr => ?_
  have c := Sc.fn (P := P) (w := w) (D := D) (E := E) (H := H) (K := K) (base := base) (outer := outer) (N := N_law) (is := [0, 1, 2, 3, 4, 5, 6, 7, 8, 9, 10, 11]) (ls := [0, 1, 2, 3, 4, 5, 6, 7, 8, 9, 10, 11]) (gs := ["Heap", "_law_box", "_law_take", "_law_row", "_law_taken", "_law_other", "is_heap", "_law_has_form", "_law_told"]) (bs := ["range", "len", "min", "max", "sorted", "bool", "isinstance", "zip"]) (by kernel_rfl) (G.free (by kernel_rfl)) sc_law.nd hr
  have ow := own_fn (P := P) (w := w) (K := K) (mg := mg) (base := base) (N := N_law) (qual := "law") (scope := defScope (top 16)) (f := fA) (cdv := cdv) (A := A) (outer := outer) (s := s) (H := H) (E := E)
  exact xs_cons (xs_asg (xe_lst (live := true) (xa_cons (nMake0 c false 0 rfl (ok_Heap_init G) (by decide)) (xa_cons (nMake0 c false 0 rfl (ok_Heap_init G) (by decide)) (xa_nil) rfl) rfl)) (gv c 1 rfl rfl) rfl rfl rfl) (xs_cons (xs_asg (xe_lst (live := true) (xa_cons (xe_lst (live := true) (xa_nil)) (xa_cons (xe_lst (live := true) (xa_nil)) (xa_nil) rfl) rfl)) (gv c 2 rfl rfl) rfl rfl rfl) (xs_cons (xs_for ow c.calm (xi_r1 (c.bl 0 _ rfl).1 (c.bl 0 _ rfl).2.1 (xa_cons (nMax c 3 rfl (xa_cons (xe_int) (xa_cons (nMin c 2 rfl (xa_cons (xe_int) (xa_cons (nLen c 1 rfl (xa_cons (nv c 0 rfl rfl) (xa_nil) rfl) rfl rfl) (xa_nil) rfl) rfl) rfl rfl) (xa_nil) rfl) rfl) rfl rfl) (xa_nil) rfl) rfl) (gv c 3 rfl rfl) (xs_cons (xs_asg (nCall c false 1 rfl (ok__law_box G) (by decide) (xa_cons (nv c 0 rfl rfl) (xa_cons (nv c 3 rfl rfl) (xa_nil) rfl) rfl) rfl rfl) (gv c 4 rfl rfl) rfl rfl rfl) (xs_cons (xs_asg (nCall c false 2 rfl (ok__law_take G) (by decide) (xa_cons (nv c 4 rfl rfl) (xa_cons (xe_int) (xa_nil) rfl) rfl) rfl rfl) (gv c 5 rfl rfl) rfl rfl rfl) (xs_cons (xs_if (tCmp (kLt c) (nCall c false 2 rfl (ok__law_take G) (by decide) (xa_cons (nv c 4 rfl rfl) (xa_cons (xe_int) (xa_nil) rfl) rfl) rfl rfl) (xe_int) rfl) (xs_cons (xs_asg (nCall c false 3 rfl (ok__law_row G) (by decide) (xa_cons (nv c 4 rfl rfl) (xa_cons (nIx (nv c 2 rfl rfl) (nv c 5 rfl rfl) (fun _ _ => rfl)) (xa_nil) rfl) rfl) rfl rfl) (gv c 6 rfl rfl) rfl rfl rfl) (xs_cons (xs_ex (xe_meth (mt_cons c false (ok_Heap_put G) (by decide) (mt_nil)) (nIx (nv c 1 rfl rfl) (nv c 5 rfl rfl) (fun _ _ => rfl)) (xa_cons (nv c 6 rfl rfl) (xa_nil) rfl) rfl rfl rfl) rfl) (xs_cons (xs_setX c.hw (c_u9 c) (nSorted c true 4 rfl (xa_cons (nAdd c false (nIx (nv c 2 rfl rfl) (nv c 5 rfl rfl) (fun _ _ => rfl)) (xe_lst (live := false) (xa_cons (nv c 6 rfl rfl) (xa_nil) rfl))) (xa_nil) rfl) rfl rfl) (nv c 2 rfl rfl) (nv c 5 rfl rfl) rfl rfl rfl (fun _ => rfl)) (xs_nil)))) (xs_cons (xs_if (xt_not (xt_val (nCall c false 4 rfl (ok__law_taken G) (by decide) (xa_cons (nIx (nv c 1 rfl rfl) (nv c 5 rfl rfl) (fun _ _ => rfl)) (xa_cons (nIx (nv c 2 rfl rfl) (nv c 5 rfl rfl) (fun _ _ => rfl)) (xa_nil) rfl) rfl) rfl rfl) (fun _ => rfl))) (xs_cons (xs_ret (xe_bl)) (xs_nil)) (xs_nil)) (xs_nil))) (xs_cons (xs_asg (nCall c false 5 rfl (ok__law_other G) (by decide) (xa_cons (nv c 4 rfl rfl) (xa_cons (xe_meth0 (mt_cons c false (ok_Heap_rows G) (by decide) (mt_nil)) (nIx (nv c 1 rfl rfl) (nv c 5 rfl rfl) (fun _ _ => rfl)) rfl) (xa_nil) rfl) rfl) rfl rfl) (gv c 7 rfl rfl) rfl rfl rfl) (xs_cons (xs_asg (nCall c false 6 rfl (ok_is_heap G) (by decide) (xa_cons (nv c 7 rfl rfl) (xa_nil) rfl) rfl rfl) (gv c 8 rfl rfl) rfl rfl rfl) (xs_cons (xs_if ((xw_or (xt_not (xt_val (nIsi c G.hk 6 rfl (xa_cons (nv c 8 rfl rfl) (xa_cons (nTy c 5 rfl boot_bool) (xa_nil) rfl) rfl) rfl rfl) (fun _ => rfl))) (xw_or1 (tCmp (kNe c) (nv c 8 rfl rfl) (nCall c false 7 rfl (ok__law_has_form G) (by decide) (xa_cons (nv c 7 rfl rfl) (xa_nil) rfl) rfl rfl) rfl))).pt) (xs_cons (xs_ret (xe_bl)) (xs_nil)) (xs_nil)) (xs_cons (xs_if ((xw_or (xt_not (xt_val (nCall c false 8 rfl (ok__law_told G) (by decide) (xa_cons (nIx (nv c 1 rfl rfl) (xe_int) (fun _ _ => rfl)) (xa_cons (nIx (nv c 2 rfl rfl) (xe_int) (fun _ _ => rfl)) (xa_nil) rfl) rfl) rfl rfl) (fun _ => rfl))) (xw_or1 (xt_not (xt_val (nCall c false 8 rfl (ok__law_told G) (by decide) (xa_cons (nIx (nv c 1 rfl rfl) (xe_int) (fun _ _ => rfl)) (xa_cons (nIx (nv c 2 rfl rfl) (xe_int) (fun _ _ => rfl)) (xa_nil) rfl) rfl) rfl rfl) (fun _ => rfl))))).pt) (xs_cons (xs_ret (xe_bl)) (xs_nil)) (xs_nil)) (xs_nil)))))))) (fun _ => rfl)) (xs_cons (xs_for ow c.calm (xi_zip (c.bl 7 _ rfl).1 (c.bl 7 _ rfl).2.1 (xa_cons (nv c 1 rfl rfl) (xa_cons (nv c 2 rfl rfl) (xa_nil) rfl) rfl) rfl rfl) (xg_tup c.calm (gs_cons c 9 rfl rfl (gs_cons c 10 rfl rfl (gs_nil) rfl) rfl) rfl rfl) (xs_cons (xs_for ow c.calm (xi_r1 (c.bl 0 _ rfl).1 (c.bl 0 _ rfl).2.1 (xa_cons (nAdd c false (nLen c 1 rfl (xa_cons (nv c 10 rfl rfl) (xa_nil) rfl) rfl rfl) (xe_int)) (xa_nil) rfl) rfl) (gv c 11 rfl rfl) (xs_cons (xs_if ((xw_or (xt_not (xt_val (nCall c false 4 rfl (ok__law_taken G) (by decide) (xa_cons (nv c 9 rfl rfl) (xa_cons (nv c 10 rfl rfl) (xa_nil) rfl) rfl) rfl rfl) (fun _ => rfl))) (xw_or1 (tCmp (kNe c) (xe_meth0 (mt_cons c false (ok_Heap_many G) (by decide) (mt_nil)) (nv c 9 rfl rfl) rfl) (nLen c 1 rfl (xa_cons (nv c 10 rfl rfl) (xa_nil) rfl) rfl rfl) rfl))).pt) (xs_cons (xs_ret (xe_bl)) (xs_nil)) (xs_nil)) (xs_nil)) (fun _ => rfl)) (xs_nil)) (fun _ => rfl)) (xs_cons (xs_ret (nCall c false 6 rfl (ok_is_heap G) (by decide) (xa_cons (xe_lst (live := true) (xa_nil)) (xa_nil) rfl) rfl rfl)) (xs_nil)))))
theorem ok_law (G : GF P K mg base D w) : Fk P K mg base D w 5 "law" 1 F_law [] := by
  obtain ⟨fA, fd, FD, hm⟩ := G.def_law
  exact ⟨fA, fd, ["_law_script"], [], [], hm, fo_law G FD, FD.bindsN fun _ _ _ _ _ _ us hl => match us, hl with | [_], _ => rfl, .nil, fun _ => by simp only [RTs], FD.kp⟩
end
end HQ
namespace HP
section
variable {α : Type} (lt : α → α → Bool)
/-- a total order, by its strict part -/
structure Ord : Prop where
  tot : ∀ a b, lt a b = false → lt b a = false → a = b
  asy : ∀ a b, lt a b = true → lt b a = false
  trn : ∀ a b c, lt b a = false → lt c b = false → lt c a = false
def Heap (l : List α) : Prop := ∀ (k : Nat) a b, 0 < k → l[k]? = some a → l[(k - 1) / 2]? = some b → lt a b = false
structure Up (l : List α) (k : Nat) : Prop where
  one : ∀ (j : Nat) a b, 0 < j → j ≠ k → l[j]? = some a → l[(j - 1) / 2]? = some b → lt a b = false
  two : ∀ (j : Nat) a b, 0 < j → 0 < k → (j - 1) / 2 = k → l[j]? = some a → l[(k - 1) / 2]? = some b → lt a b = false
structure Down (l : List α) (k : Nat) : Prop where
  one : ∀ (j : Nat) a b, 0 < j → (j - 1) / 2 ≠ k → l[j]? = some a → l[(j - 1) / 2]? = some b → lt a b = false
  two : ∀ (j : Nat) a b, 0 < j → 0 < k → (j - 1) / 2 = k → l[j]? = some a → l[(k - 1) / 2]? = some b → lt a b = false
def swp (l : List α) (i j : Nat) (x y : α) : List α := (l.set i y).set j x
variable {lt}
theorem swp_at {l : List α} {i j : Nat} {x y : α} (hi : l[i]? = some x) (hj : l[j]? = some y) (m : Nat) : (swp l i j x y)[m]? = if m = j then some x else if m = i then some y else l[m]? := by
  unfold swp
  have li := (List.getElem?_eq_some_iff.mp hi).1
  have lj := (List.getElem?_eq_some_iff.mp hj).1
  by_cases h1 : m = j
  · subst h1; rw [if_pos rfl, List.getElem?_set_self (by simpa using lj)]
  · rw [if_neg h1, List.getElem?_set_ne (Ne.symm h1)]
    by_cases h2 : m = i
    · subst h2; rw [if_pos rfl, List.getElem?_set_self li]
    · rw [if_neg h2, List.getElem?_set_ne (Ne.symm h2)]
theorem swp_len {l : List α} {i j : Nat} {x y : α} : (swp l i j x y).length = l.length := by simp [swp]
theorem swp_perm {l : List α} {i j : Nat} {x y : α} (hi : l[i]? = some x) (hj : l[j]? = some y) : (swp l i j x y).Perm l := by
  obtain ⟨li, ei⟩ := List.getElem?_eq_some_iff.mp hi
  obtain ⟨lj, ej⟩ := List.getElem?_eq_some_iff.mp hj
  subst ei ej
  exact List.set_set_perm li lj
theorem up_start {l : List α} {x : α} (h : Heap lt l) : Up lt (l ++ [x]) l.length := by
  have g : ∀ (j : Nat) a, j ≠ l.length → (l ++ [x])[j]? = some a → l[j]? = some a := fun j a hj e => by
    have := (List.getElem?_eq_some_iff.mp e).1
    simp at this
    rw [List.getElem?_append_left (by omega)] at e; exact e
  refine ⟨fun j a b h0 hk ha hb => ?_, fun j a b h0 hk e ha hb => ?_⟩
  · have ha' := g j a hk ha
    have lj := (List.getElem?_eq_some_iff.mp ha').1
    exact h j a b h0 ha' (g _ b (by omega) hb)
  · have := (List.getElem?_eq_some_iff.mp ha).1
    simp at this
    omega
theorem up_end0 {l : List α} (h : Up lt l 0) : Heap lt l := fun k a b h0 ha hb => h.one k a b h0 (by omega) ha hb
theorem up_end {l : List α} {k : Nat} {a b : α} (h : Up lt l k) (ha : l[k]? = some a) (hb : l[(k - 1) / 2]? = some b) (n : lt a b = false) : Heap lt l := fun j a' b' h0 ha' hb' => by
  by_cases e : j = k
  · subst e; rw [ha] at ha'; rw [hb] at hb'; cases ha'; cases hb'; exact n
  · exact h.one j a' b' h0 e ha' hb'
theorem up_step (O : Ord lt) {l : List α} {k : Nat} {a b : α} (hk : 0 < k) (h : Up lt l k) (ha : l[k]? = some a) (hb : l[(k - 1) / 2]? = some b) (n : lt a b = true) : Up lt (swp l k ((k - 1) / 2) a b) ((k - 1) / 2) := by
  have hp : (k - 1) / 2 < k := by omega
  refine ⟨fun j x y h0 hj hx hy => ?_, fun j x y h0 hp0 e hx hy => ?_⟩
  · rw [swp_at ha hb, if_neg hj] at hx
    rw [swp_at ha hb] at hy
    by_cases e : j = k
    · subst e
      rw [if_pos rfl] at hx hy
      cases hx; cases hy
      exact O.asy _ _ n
    · rw [if_neg e] at hx
      by_cases e1 : (j - 1) / 2 = (k - 1) / 2
      · rw [if_pos e1] at hy
        cases hy
        exact O.trn _ _ _ (O.asy _ _ n) (h.one j x b h0 e hx (by rw [e1]; exact hb))
      · rw [if_neg e1] at hy
        by_cases e2 : (j - 1) / 2 = k
        · rw [if_pos e2] at hy
          cases hy
          exact h.two j x b h0 hk e2 hx hb
        · rw [if_neg e2] at hy
          exact h.one j x y h0 e hx hy
  · rw [swp_at ha hb, if_neg (by omega), if_neg (by omega)] at hy
    have hpp := h.one ((k - 1) / 2) b y hp0 (by omega) hb hy
    rw [swp_at ha hb, if_neg (by omega)] at hx
    by_cases e1 : j = k
    · rw [if_pos e1] at hx
      cases hx
      exact hpp
    · rw [if_neg e1] at hx
      exact O.trn _ _ _ hpp (h.one j x b h0 e1 hx (by rw [e]; exact hb))
theorem down_end {l : List α} {k : Nat} (h : Down lt l k) (hc : ∀ (j : Nat) a b, 0 < j → (j - 1) / 2 = k → l[j]? = some a → l[k]? = some b → lt a b = false) : Heap lt l := fun j a b h0 ha hb => by
  by_cases e : (j - 1) / 2 = k
  · rw [e] at hb; exact hc j a b h0 e ha hb
  · exact h.one j a b h0 e ha hb
theorem down_step (O : Ord lt) {l : List α} {k c : Nat} {a b : α} (hc0 : 0 < c) (hc : (c - 1) / 2 = k) (h : Down lt l k) (ha : l[k]? = some a) (hb : l[c]? = some b) (n : lt b a = true)
    (hm : ∀ (j : Nat) x, 0 < j → (j - 1) / 2 = k → l[j]? = some x → lt x b = false) : Down lt (swp l k c a b) c := by
  have hkc : k < c := by omega
  refine ⟨fun j x y h0 hj hx hy => ?_, fun j x y h0 hp0 e hx hy => ?_⟩
  · rw [swp_at ha hb] at hx hy
    rw [if_neg hj] at hy
    by_cases e1 : (j - 1) / 2 = k
    · rw [if_pos e1] at hy
      cases hy
      by_cases e2 : j = c
      · rw [if_pos e2] at hx
        cases hx
        exact O.asy _ _ n
      · rw [if_neg e2, if_neg (by omega)] at hx
        exact hm j x h0 e1 hx
    · rw [if_neg e1] at hy
      rw [if_neg (fun z => e1 (by rw [z]; exact hc))] at hx
      by_cases e2 : j = k
      · rw [if_pos e2] at hx
        cases hx
        rw [e2] at hy
        exact h.two c b y hc0 (by omega) hc hb hy
      · rw [if_neg e2] at hx
        exact h.one j x y h0 e1 hx hy
  · rw [swp_at ha hb, if_neg (by omega), if_neg (by omega)] at hx
    rw [hc] at hy
    rw [swp_at ha hb, if_neg (by omega), if_pos rfl] at hy
    cases hy
    exact h.one j x b h0 (by omega) hx (by rw [e]; exact hb)
theorem down_start {l : List α} {x : α} (h : Heap lt l) : Down lt (l.dropLast.set 0 x) 0 := by
  have g : ∀ (j : Nat) a, j ≠ 0 → (l.dropLast.set 0 x)[j]? = some a → l[j]? = some a := fun j a hj e => by
    rw [List.getElem?_set_ne (Ne.symm hj)] at e
    have := (List.getElem?_eq_some_iff.mp e).1
    rw [List.dropLast_eq_take] at e this
    rw [List.length_take] at this
    rw [List.getElem?_take_of_lt (by omega)] at e; exact e
  exact ⟨fun j a b h0 hj ha hb => h j a b h0 (g j a (by omega) ha) (g _ b hj hb), fun j a b h0 h1 => by omega⟩
theorem heap_min (O : Ord lt) (refl : ∀ a, lt a a = false) {l : List α} (h : Heap lt l) {m : α} (hm : l[0]? = some m) : ∀ (k : Nat) a, l[k]? = some a → lt a m = false := fun k => by
  induction k using Nat.strongRecOn with
  | _ k ih =>
    intro a ha
    by_cases e : k = 0
    · subst e; rw [hm] at ha; cases ha; exact refl _
    · have lk := (List.getElem?_eq_some_iff.mp ha).1
      have hb : l[(k - 1) / 2]? = some (l[(k - 1) / 2]'(by omega)) := List.getElem?_eq_getElem (by omega)
      exact O.trn _ _ _ (ih _ (by omega) _ hb) (h k a _ (by omega) ha hb)
/-- sorted lists of the same are the same -/
theorem sorted_eq (O : Ord lt) : ∀ {l m : List α}, l.Pairwise (fun a b => lt b a = false) → m.Pairwise (fun a b => lt b a = false) → l.Perm m → l = m
  | [], m, _, _, p => (List.nil_perm.mp p).symm ▸ rfl
  | a :: l, m, h1, h2, p => by
    cases m with
    | nil => exact absurd p.symm (by simp)
    | cons b m =>
      have e : a = b := by
        have ha : a ∈ b :: m := p.mem_iff.mp List.mem_cons_self
        have hb : b ∈ a :: l := p.mem_iff.mpr List.mem_cons_self
        rcases List.mem_cons.mp ha with z | z
        · exact z
        · rcases List.mem_cons.mp hb with y | y
          · exact y.symm
          · exact O.tot _ _ ((List.pairwise_cons.mp h2).1 _ z |> fun q => (List.pairwise_cons.mp h1).1 _ y |> fun q2 => by
              first | exact q | exact q2) ((List.pairwise_cons.mp h1).1 _ y |> fun q => (List.pairwise_cons.mp h2).1 _ z |> fun q2 => by
              first | exact q | exact q2)
      subst e
      rw [sorted_eq O (List.pairwise_cons.mp h1).2 (List.pairwise_cons.mp h2).2 (List.perm_cons _ |>.mp p)]
theorem take_perm {l : List α} {x y : α} (hx : l[0]? = some x) (hy : l.getLast? = some y) (h2 : 2 ≤ l.length) : (l.dropLast.set 0 y).Perm l.tail := by
  match l, hx, h2 with
  | a :: b :: r, hx, _ =>
    have e : (a :: b :: r).dropLast.set 0 y = y :: (b :: r).dropLast := by simp
    rw [e]
    have hy' : (b :: r).getLast? = some y := by simpa using hy
    have e2 : (b :: r) = (b :: r).dropLast ++ [y] := by
      obtain ⟨ys, e⟩ := List.getLast?_eq_some_iff.mp hy'
      rw [e]; simp
    show (y :: (b :: r).dropLast).Perm (b :: r)
    conv => rhs; rw [e2]
    exact (List.perm_append_comm (l₁ := [y]) (l₂ := (b :: r).dropLast))
end
end HP
namespace HQ
open PySem PySem.Spec PyProof.Rows L2
local macro_rules | `(tactic| walk_at "ix") => `(tactic| first | assumption | with_reducible exact atI_l0 | with_reducible exact atI_l1 | with_reducible exact atI_l2 | with_reducible exact atI_l3 | with_reducible exact atI_l4 | with_reducible exact atI_l5 | with_reducible exact atI_l6 | with_reducible exact atI_l7 | with_reducible exact atI_l8 | with_reducible exact atI_l9 | with_reducible exact atI_l10 | with_reducible exact atI_l11)
local macro_rules | `(tactic| walk_at "side") => `(tactic| first | omega | assumption | (simp only [bigL]; omega) | decide)
local macro_rules | `(tactic| walk_at "w") => `(tactic| first
  | with_reducible refine ws_sSeq ?_
  | ((with_reducible refine' w_var ?wv ?_); (case' wv => exact rfl))
  | with_reducible refine w_T ?_
  | with_reducible refine w_m2 ?_
  | with_reducible refine w_mA ?_
  | with_reducible refine w_aCons ?_
  | with_reducible refine w_aNil ?_
  | with_reducible refine ws_asgN ?_
  | with_reducible refine ws_ret ?_
  | with_reducible refine ws_if ?_
  | with_reducible refine w_bOf ?_
  | with_reducible refine w_asB ?_
  | with_reducible refine ws_nil ?_
  | with_reducible refine w_bNot ?_
  | with_reducible refine w_bAnd ?_
  | with_reducible refine w_bOr ?_
  | with_reducible refine w_andV ?_
  | with_reducible refine w_orV ?_
  | with_reducible refine w_notV ?_
  | with_reducible refine w_mChain ?_
  | with_reducible refine w_mIf ?_
  | with_reducible refine w_m1 ?_
  | with_reducible refine w_sub ?_
  | with_reducible refine w_addI ?_
  | with_reducible refine w_neg ?_
  | with_reducible refine w_gt ?_
  | with_reducible refine w_lt ?_
  | with_reducible refine w_ge ?_
  | with_reducible refine w_le ?_
  | with_reducible refine w_leS ?_
  | with_reducible refine w_isN ?_
  | with_reducible refine w_isNn ?_
  | with_reducible refine w_neI ?_
  | with_reducible refine w_neS ?_
  | with_reducible refine w_neB ?_
  | with_reducible refine w_eqI ?_
  | with_reducible refine w_eqS ?_
  | with_reducible refine w_eqB ?_
  | with_reducible refine w_max ?_
  | with_reducible refine w_min ?_
  | with_reducible refine w_intI ?_
  | with_reducible refine w_intB ?_
  | ((with_reducible refine w_mod ?wc ?_); (case' wc => walk_at "side"))
  | ((with_reducible refine w_div ?wc ?wd ?_); (case' wc => walk_at "side"); (case' wd => walk_at "side"))
  | ((with_reducible refine w_mulI ?wc ?_); (case' wc => exact cmul_of (by walk_at "side") (by walk_at "side")))
  | ((with_reducible refine w_pow ?wc ?_); (case' wc => decide))
  | with_reducible refine w_mTup ?_
  | with_reducible refine w_mLst ?_
  | with_reducible refine w_mSl ?_
  | with_reducible refine w_oNone ?_
  | with_reducible refine w_oSome ?_
  | with_reducible refine w_mM1 ?_
  | with_reducible refine w_mDic1 ?_
  | with_reducible refine w_mkLl ?_
  | ((with_reducible refine' w_mkL ?wc ?_); (case' wc => exact rfl))
  | with_reducible refine ws_retN ?_
  | with_reducible refine ws_cont ?_
  | with_reducible refine ws_brk ?_
  | with_reducible refine ws_ex ?_
  | with_reducible refine ws_asgT ?_
  | with_reducible refine ws_setL ?_
  | with_reducible refine ws_for ?_
  | with_reducible refine w_iVal ?_
  | with_reducible refine w_iR1 ?_
  | with_reducible refine w_iR2 ?_
  | with_reducible refine w_iEnu ?_
  | with_reducible refine w_mLc ?_
  | with_reducible refine w_bYes ?_
  | with_reducible refine p_iteT ?_
  | with_reducible refine p_iteF ?_
  | with_reducible refine p_iteNT ?_
  | with_reducible refine p_iteNF ?_
  | ((with_reducible refine And.intro ?wl ?_); (case' wl => first | exact Nat.le_of_ble_eq_true rfl))
  | ((with_reducible refine' w_isi (r := true) ?w1 ?w2 ?w3 ?_); (case' w1 => exact rfl); (case' w2 => exact rfl); (case' w3 => exact rfl))
  | ((with_reducible refine' w_isi (r := false) ?w1 ?w2 ?w3 ?_); (case' w1 => exact rfl); (case' w2 => exact rfl); (case' w3 => exact rfl))
  | ((with_reducible refine w_call ?wc ?_); (case' wc => exact rfl))
  | ((with_reducible refine' w_ix_L ?w1 ?w2 ?_); (case' w1 => first | assumption | with_reducible exact rfl); (case' w2 => walk_at "ix"))
  | ((with_reducible refine' w_ix_T ?w1 ?w2 ?_); (case' w1 => first | exact rfl | assumption); (case' w2 => walk_at "ix"))
  | ((with_reducible refine' w_len_L ?w1 ?_); (case' w1 => first | assumption | exact rfl))
  | ((with_reducible refine' w_len_T ?w1 ?_); (case' w1 => exact rfl))
  | ((with_reducible refine w_len_str ?wc ?_); (case' wc => walk_at "side"))
  | ((with_reducible refine w_kStr ?wc ?_); (case' wc => walk_at "side"))
  | ((with_reducible refine w_kEnuS ?wc ?_); (case' wc => walk_at "side"))
  | ((with_reducible refine w_strI ?wc ?_); (case' wc => walk_at "side"))
  | ((with_reducible refine w_addS ?wc ?_); (case' wc => walk_at "side")))
local macro_rules | `(tactic| walk_at "ne") => `(tactic| first | assumption | (apply Ne.symm; assumption) | omega | decide)
local macro_rules | `(tactic| walk_at "mem") => `(tactic| first
  | assumption
  | with_reducible exact at_new
  | ((with_reducible apply at_same); walk_at "mem")
  | ((with_reducible refine at_ne ?hne ?hat); (case' hne => walk_at "ne"); (case' hat => walk_at "mem"))
  | ((with_reducible apply at_app); walk_at "mem"))
local macro_rules | `(tactic| walk_at "x") => `(tactic| first
  | walk_at "w"
  | with_reducible refine w_mFld ?_
  | ((with_reducible refine' w_fFld ?w1 ?w2 ?w3 ?_); (case' w1 => (with_reducible apply insAt_at); walk_at "mem"); (case' w2 => exact rfl); (case' w3 => exact rfl))
  | with_reducible refine w_mMe ?_
  | with_reducible refine ws_setX ?_
  | with_reducible refine ws_set2 ?_
  | with_reducible refine ws_fldS ?_
  | with_reducible refine w_mBm ?_
  | ((with_reducible refine And.intro ?wl ?_); (case' wl => (with_reducible apply isLs_at); walk_at "mem"))
  | with_reducible refine w_iZp ?_
  | with_reducible refine w_dic0 ?_
  | with_reducible refine w_dic0l ?_
  | with_reducible refine w_ltR ?_
  | ((with_reducible refine w_mulXI ?wc ?_); (case' wc => exact cmul_of (by walk_at "side") (by walk_at "side")))
  | ((with_reducible refine' w_ix_L ?w1 ?w2 ?_); (case' w1 => (with_reducible apply getL_at); walk_at "mem"); (case' w2 => walk_at "ix"))
  | ((with_reducible refine' w_len_L ?w1 ?_); (case' w1 => (with_reducible apply getL_at); walk_at "mem")))
theorem ordN : HP.Ord HT.lexLt := ⟨lex_tot, lex_asy, lex_trn⟩
/-! ### a heap in the memory: its object at h, its list at k -/
structure HeapAt (μ : Mem) (h k : Nat) (A : List (List Int)) : Prop where
  ob : μ[h]? = some (.ins 0 ["kept"] [.ref k])
  ls : μ[k]? = some (.lst (A.map rowW))
  ne : h ≠ k
theorem HeapAt.put {μ : Mem} {h k : Nat} {A B : List (List Int)} (a : HeapAt μ h k A) : HeapAt (μ.set k (.lst (B.map rowW))) h k B := ⟨at_ne a.ne a.ob, at_same a.ls, a.ne⟩
theorem atI_row {A : List (List Int)} {i : Nat} {x : List Int} (h : A[i]? = some x) : atI (A.map rowW) (i : Int) = some (rowW x) := atI_nat (by rw [List.getElem?_map, h]; rfl)
theorem ixN_row {A : List (List Int)} {i : Nat} {x : List Int} (h : A[i]? = some x) : ixN (A.map rowW).length (i : Int) = some i := by
  have := (List.getElem?_eq_some_iff.mp h).1
  simp only [List.length_map, ixN]
  simp
  omega
section
variable {μ : Mem} {h k : Nat} {A : List (List Int)} {Q : W → Mem → Prop} {X : XV → Mem → Prop}
theorem swap_ok {i j : Nat} {i' j' : Int} {x y : List Int} (a : HeapAt μ h k A) (hi : i' = i) (hj : j' = j) (hx : A[i]? = some x) (hy : A[j]? = some y) (q : Q (.t .non) (μ.set k (.lst ((HP.swp A i j x y).map rowW)))) :
    Wp (F_Heap_swap [.ref h, .t (.int i'), .t (.int j')] μ) Q X := by
  subst hi hj
  have a1 := a.ob
  have a2 := a.ls
  have a3 := a.ne
  have z1 := atI_row hx
  have z2 := atI_row hy
  refine w_run rfl ?_
  simp only [List.map_cons, List.map_nil, List.cons_append, List.nil_append, List.replicate, Nat.reduceSub]
  rw [m_Heap_swap]
  repeat walk_at "x"
  refine ⟨_, _, rfl, ?_⟩
  repeat walk_at "x"
  refine ⟨_, setX_at a2 (ixN_row hx), ?_⟩
  repeat walk_at "x"
  have z3 : ixN ((A.map rowW).set i (rowW y)).length (j : Int) = some j := by
    rw [List.length_set]; exact ixN_row hy
  refine ⟨_, setX_at (at_same a2) z3, ?_⟩
  repeat walk_at "x"
  refine w_fin (by simp) ?_
  rw [List.set_set]
  have e : ((A.map rowW).set i (rowW y)).set j (rowW x) = (HP.swp A i j x y).map rowW := by
    simp only [HP.swp, List.map_set]
  show Q _ (List.set μ k (O.lst (((List.map rowW A).set i (rowW y)).set j (rowW x))))
  rw [e]
  exact q
theorem put_ok {ns : List Int} (a : HeapAt μ h k A) (hp : HP.Heap HT.lexLt A) (hl : A.length ≤ 200) (q : ∀ B : List (List Int), B.Perm (ns :: A) → HP.Heap HT.lexLt B → Q (.t .non) (μ.set k (.lst (B.map rowW)))) :
    Wp (F_Heap_put [.ref h, rowW ns] μ) Q X := by
  have a1 := a.ob
  have a2 := a.ls
  have a3 := a.ne
  refine w_run rfl ?_
  simp only [List.map_cons, List.map_nil, List.cons_append, List.nil_append, List.replicate, Nat.reduceSub]
  rw [m_Heap_put]
  repeat walk_at "x"
  refine w_app a2 (by simp [bigL]; omega) ?_
  repeat walk_at "x"
  refine w_while (m := A.length) (I := fun m e ν => ∃ (B : List (List Int)), e = [some (.ref h), some (rowW ns), some (.t (.int (m : Nat)))] ∧ ν = μ.set k (.lst (B.map rowW)) ∧ B.Perm (ns :: A) ∧ m < B.length ∧ HP.Up HT.lexLt B m) (by omega)
    ⟨A ++ [ns], by simp [List.set], by simp [rowW], List.perm_append_comm (l₂ := [ns]), by simp, HP.up_start hp⟩ ?_
  rintro m e ν ⟨B, rfl, rfl, pm, hm, up⟩
  have b : HeapAt (μ.set k (.lst (B.map rowW))) h k B := a.put
  have b1 := b.ob
  have b2 := b.ls
  repeat walk_at "x"
  refine p_D (fun hc => ?_) (fun hc => ?_)
  · have hm0 : 0 < m := by omega
    have hx : B[m]? = some B[m] := List.getElem?_eq_getElem hm
    have hpl : (m - 1) / 2 < B.length := by omega
    have hy : B[(m - 1) / 2]? = some B[(m - 1) / 2] := List.getElem?_eq_getElem hpl
    have ep : ((m : Int) - 1) / 2 = (((m - 1) / 2 : Nat) : Int) := by omega
    have z1 := atI_row hx
    have z2 := atI_row hy
    rw [← ep] at z2
    repeat walk_at "x"
    refine p_iteB (fun hc => ?_) (fun hc => ?_)
    · repeat walk_at "x"
      refine ⟨0, _, _, _, insAt_at b1, rfl, rfl, ?_⟩
      repeat walk_at "x"
      refine w_call rfl (swap_ok b rfl ep hx hy ?_)
      repeat walk_at "x"
      refine ⟨(m - 1) / 2, by omega, HP.swp B m ((m - 1) / 2) B[m] B[(m - 1) / 2], by simp [List.set, ep], by rw [List.set_set], (HP.swp_perm hx hy).trans pm, by rw [HP.swp_len]; exact hpl, HP.up_step ordN hm0 up hx hy hc⟩
    · repeat walk_at "x"
      refine w_fin (by simp) (q B pm (HP.up_end up hx hy hc))
  · repeat walk_at "x"
    have e0 : m = 0 := by omega
    subst e0
    exact w_fin (by simp) (q B pm (HP.up_end0 up))
theorem lesser_ok {i : Nat} {i' : Int} (a : HeapAt μ h k A) (hi : i' = i) (hl : A.length ≤ 300) (hi2 : i ≤ 300) (q1 : A.length ≤ 2 * i + 1 → Q (.t .non) μ)
    (q2 : ∀ (c : Nat) b, 0 < c → (c - 1) / 2 = i → A[c]? = some b → (∀ (j : Nat) x, 0 < j → (j - 1) / 2 = i → A[j]? = some x → HT.lexLt x b = false) → Q (.t (.int c)) μ) :
    Wp (F_Heap_lesser [.ref h, .t (.int i')] μ) Q X := by
  subst hi
  have a1 := a.ob
  have a2 := a.ls
  refine w_run rfl ?_
  simp only [List.map_cons, List.map_nil, List.cons_append, List.nil_append, List.replicate, Nat.reduceSub]
  rw [m_Heap_lesser]
  repeat walk_at "x"
  refine p_D (fun hc => ?_) (fun hc => ?_)
  · repeat walk_at "x"
    exact w_fin (Nat.le_refl _) (q1 (by simp only [List.length_map] at hc; omega))
  simp only [List.length_map] at hc
  have l1 : 2 * i + 1 < A.length := by omega
  have hx : A[2 * i + 1]? = some A[2 * i + 1] := List.getElem?_eq_getElem l1
  have z1 := atI_row hx
  have e1 : ((2 * i + 1 : Nat) : Int) = 2 * (i : Int) + 1 := by omega
  rw [e1] at z1
  repeat walk_at "x"
  refine p_D (fun hd => ?_) (fun hd => ?_)
  · simp only [List.length_map] at hd
    have l2 : 2 * i + 2 < A.length := by omega
    have hy : A[2 * i + 2]? = some A[2 * i + 2] := List.getElem?_eq_getElem l2
    have z2 := atI_row hy
    have e2 : ((2 * i + 2 : Nat) : Int) = 2 * (i : Int) + 1 + 1 := by omega
    rw [e2] at z2
    repeat walk_at "x"
    have cases_j : ∀ (j : Nat) x, 0 < j → (j - 1) / 2 = i → A[j]? = some x → (j = 2 * i + 1 ∧ x = A[2 * i + 1]) ∨ (j = 2 * i + 2 ∧ x = A[2 * i + 2]) := fun j x h0 h1 h2 => by
      have : j = 2 * i + 1 ∨ j = 2 * i + 2 := by omega
      rcases this with e | e
      · subst e; rw [hx] at h2; cases h2; exact .inl ⟨rfl, rfl⟩
      · subst e; rw [hy] at h2; cases h2; exact .inr ⟨rfl, rfl⟩
    refine p_iteB (fun he => ?_) (fun he => ?_)
    · repeat walk_at "x"
      refine w_fin (Nat.le_refl _) ?_
      rw [← e2]
      refine q2 (2 * i + 2) _ (by omega) (by omega) hy fun j x h0 h1 h2 => ?_
      rcases cases_j j x h0 h1 h2 with ⟨_, rfl⟩ | ⟨_, rfl⟩
      · exact lex_asy _ _ he
      · exact lex_refl _
    · repeat walk_at "x"
      refine w_fin (Nat.le_refl _) ?_
      rw [← e1]
      refine q2 (2 * i + 1) _ (by omega) (by omega) hx fun j x h0 h1 h2 => ?_
      rcases cases_j j x h0 h1 h2 with ⟨_, rfl⟩ | ⟨_, rfl⟩
      · exact lex_refl _
      · exact he
  · repeat walk_at "x"
    simp only [List.length_map] at hd
    refine w_fin (Nat.le_refl _) ?_
    rw [← e1]
    refine q2 (2 * i + 1) _ (by omega) (by omega) hx fun j x h0 h1 h2 => ?_
    have : j = 2 * i + 1 := by
      have := (List.getElem?_eq_some_iff.mp h2).1
      omega
    subst this
    rw [hx] at h2; cases h2
    exact lex_refl _
theorem sink_ok (a : HeapAt μ h k A) (dn : HP.Down HT.lexLt A 0) (hl : A.length ≤ 200) (h0 : 0 < A.length) (q : ∀ B : List (List Int), B.Perm A → HP.Heap HT.lexLt B → Q (.t .non) (μ.set k (.lst (B.map rowW)))) :
    Wp (F_Heap_sink [.ref h] μ) Q X := by
  have a1 := a.ob
  have a2 := a.ls
  have a3 := a.ne
  refine w_run rfl ?_
  simp only [List.map_cons, List.map_nil, List.cons_append, List.nil_append, List.replicate, Nat.reduceSub]
  rw [m_Heap_sink]
  repeat walk_at "x"
  refine ⟨0, _, _, _, insAt_at a1, rfl, rfl, ?_⟩
  repeat walk_at "x"
  have go : ∀ (u : W) (hu : u = .t .non ∧ A.length ≤ 2 * 0 + 1 ∨ ∃ (c : Nat) (b : List Int), u = .t (.int c) ∧ 0 < c ∧ (c - 1) / 2 = 0 ∧ A[c]? = some b ∧ ∀ (j : Nat) x, 0 < j → (j - 1) / 2 = 0 → A[j]? = some x → HT.lexLt x b = false),
      WpS (whM (bAnd (bOf (m2 (fIsN true) (mVar 2) (mT .non))) (bOf (m2 (fLt) (m2 fIdx (mFld okF (mVar 0) "kept") (mVar 2)) (m2 fIdx (mFld okF (mVar 0) "kept") (mVar 1))))) (sSeq (sEx (mMe "swap" (tbM [(0, callF F_Heap_swap 3 [] false)]) (mVar 0) (aCons (mVar 1) (aCons (mVar 2) (aNil))))) (sSeq (sAsg (mVar 2) (gN 1)) (sSeq (sAsg (mMe "lesser" (tbM [(0, callF F_Heap_lesser 2 [] false)]) (mVar 0) (aCons (mVar 1) (aNil))) (gN 2)) (sNil)))) 1000 [some (.ref h), some (.t (.int 0)), some u] μ)
        (fun _ ν => ∃ B : List (List Int), B.Perm A ∧ HP.Heap HT.lexLt B ∧ ν = μ.set k (.lst (B.map rowW))) (fun u ν => Wp (fin μ.length u ν) Q X) noE noE (fun x _ ν => X x ν) := fun u hu => by
    refine w_while (m := 300) (I := fun m e ν => ∃ (B : List (List Int)) (i : Nat) (u : W), e = [some (.ref h), some (.t (.int i)), some u] ∧ ν = μ.set k (.lst (B.map rowW)) ∧ B.Perm A ∧ HP.Down HT.lexLt B i ∧ i < B.length ∧ m + i = 300 ∧
      (u = .t .non ∧ B.length ≤ 2 * i + 1 ∨ ∃ (c : Nat) (b : List Int), u = .t (.int c) ∧ 0 < c ∧ (c - 1) / 2 = i ∧ B[c]? = some b ∧ ∀ (j : Nat) x, 0 < j → (j - 1) / 2 = i → B[j]? = some x → HT.lexLt x b = false)) (by omega)
      ⟨A, 0, u, rfl, (set_same' a2).symm, List.Perm.refl _, dn, h0, rfl, hu⟩ ?_
    rintro m e ν ⟨B, i, u, rfl, rfl, pm, dn, hi, hm, hu⟩
    have b : HeapAt (μ.set k (.lst (B.map rowW))) h k B := a.put
    have b1 := b.ob
    have b2 := b.ls
    have hBl : B.length = A.length := pm.length_eq
    rcases hu with ⟨rfl, hle⟩ | ⟨c, bb, rfl, c0, c1, hb, hmin⟩
    · repeat walk_at "x"
      refine p_neg (fun z => nomatch z) ?_
      repeat walk_at "x"
      exact ⟨B, pm, HP.down_end dn fun j x y j0 j1 hx hy => by
        have := (List.getElem?_eq_some_iff.mp hx).1
        omega, rfl⟩
    · repeat walk_at "x"
      refine p_pos rfl ?_
      have hx : B[i]? = some B[i] := List.getElem?_eq_getElem hi
      have z1 := atI_row hx
      have z2 := atI_row hb
      have lc := (List.getElem?_eq_some_iff.mp hb).1
      repeat walk_at "x"
      refine p_iteB (fun hc => ?_) (fun hc => ?_)
      · repeat walk_at "x"
        refine ⟨0, _, _, _, insAt_at b1, rfl, rfl, ?_⟩
        repeat walk_at "x"
        refine w_call rfl (swap_ok b rfl rfl hx hb ?_)
        rw [List.set_set]
        repeat walk_at "x"
        have b' : HeapAt (μ.set k (.lst ((HP.swp B i c B[i] bb).map rowW))) h k (HP.swp B i c B[i] bb) := a.put
        refine ⟨0, _, _, _, insAt_at b'.ob, rfl, rfl, ?_⟩
        repeat walk_at "x"
        have dn' := HP.down_step ordN c0 c1 dn hx hb hc hmin
        have pm' := (HP.swp_perm hx hb).trans pm
        have lc' : c < (HP.swp B i c B[i] bb).length := by rw [HP.swp_len]; exact lc
        refine w_call rfl (lesser_ok b' rfl (by rw [HP.swp_len]; omega) (by omega) (fun hle => ?_) fun c' b3 d0 d1 d2 d3 => ?_)
        · repeat walk_at "x"
          exact ⟨m + i - c, by omega, _, c, _, rfl, rfl, pm', dn', lc', by omega, .inl ⟨rfl, hle⟩⟩
        · repeat walk_at "x"
          exact ⟨m + i - c, by omega, _, c, _, rfl, rfl, pm', dn', lc', by omega, .inr ⟨c', b3, rfl, d0, d1, d2, d3⟩⟩
      · repeat walk_at "x"
        exact ⟨B, pm, HP.down_end dn fun j x y j0 j1 hx' hy' => by
          rw [hx] at hy'; cases hy'
          exact ordN.trn _ _ _ hc (hmin j x j0 j1 hx'), rfl⟩
  refine w_call rfl (lesser_ok (i := 0) a rfl (by omega) (by omega) (fun hle => ?_) fun c b d0 d1 d2 d3 => ?_)
  · repeat walk_at "x"
    refine (go _ (.inl ⟨rfl, hle⟩)).imp (fun _ _ ⟨B, h1, h2, h3⟩ => ?_) (fun _ _ h => h) (fun _ _ h => h) (fun _ _ h => h) (fun _ _ _ h => h)
    subst h3
    exact w_fin (by simp) (q B h1 h2)
  · repeat walk_at "x"
    refine (go _ (.inr ⟨c, b, rfl, d0, d1, d2, d3⟩)).imp (fun _ _ ⟨B, h1, h2, h3⟩ => ?_) (fun _ _ h => h) (fun _ _ h => h) (fun _ _ h => h) (fun _ _ _ h => h)
    subst h3
    exact w_fin (by simp) (q B h1 h2)
theorem take_nil (a : HeapAt μ h k []) (q : Q (.t .non) μ) : Wp (F_Heap_take [.ref h] μ) Q X := by
  have a1 := a.ob
  have a2 := a.ls
  refine w_run rfl ?_
  simp only [List.map_cons, List.map_nil, List.cons_append, List.nil_append, List.replicate, Nat.reduceSub]
  rw [m_Heap_take]
  repeat walk_at "x"
  refine w_eq (eqW_rows (a := []) (b := []) (rowsL_at (nss := []) a2) rowsL_nil) ?_
  repeat walk_at "x"
  refine p_pos (by simp) ?_
  repeat walk_at "x"
  exact w_fin (Nat.le_refl _) q
theorem map_last {A : List (List Int)} {y : List Int} (h : A.getLast? = some y) : (A.map rowW).getLast? = some (rowW y) := by
  rw [List.getLast?_map, h]; rfl
theorem take_cons {x : List Int} {R : List (List Int)} (a : HeapAt μ h k (x :: R)) (hp : HP.Heap HT.lexLt (x :: R)) (hl : R.length ≤ 199) (q : ∀ B : List (List Int), B.Perm R → HP.Heap HT.lexLt B → Q (rowW x) (μ.set k (.lst (B.map rowW)))) : Wp (F_Heap_take [.ref h] μ) Q X := by
  have a1 := a.ob
  have a2 := a.ls
  have a3 := a.ne
  refine w_run rfl ?_
  simp only [List.map_cons, List.map_nil, List.cons_append, List.nil_append, List.replicate, Nat.reduceSub]
  rw [m_Heap_take]
  repeat walk_at "x"
  refine w_eq (eqW_rows (rowsL_at a2) rowsL_nil) ?_
  repeat walk_at "x"
  refine p_neg (by simp) ?_
  have z0 := atI_row (A := x :: R) (i := 0) (x := x) rfl
  repeat walk_at "x"
  obtain ⟨y, hy⟩ : ∃ y, (x :: R).getLast? = some y := ⟨_, List.getLast?_cons⟩
  refine w_pop a2 (map_last hy) ?_
  rw [← List.map_dropLast]
  repeat walk_at "x"
  have b : HeapAt (μ.set k (.lst ((x :: R).dropLast.map rowW))) h k (x :: R).dropLast := a.put
  have b1 := b.ob
  have b2 := b.ls
  repeat walk_at "x"
  refine w_ne (eqW_rows (rowsL_at b2) rowsL_nil) ?_
  repeat walk_at "x"
  cases R with
  | nil =>
    refine p_neg (by simp) ?_
    repeat walk_at "x"
    exact w_fin (by simp) (q [] (List.Perm.refl _) fun k a b _ h => by simp at h)
  | cons r R =>
    refine p_pos (by simp) ?_
    repeat walk_at "x"
    have i0 : (x :: r :: R).dropLast[0]? = some x := by simp
    refine ⟨_, setX_at b2 (ixN_row (i := 0) i0), ?_⟩
    rw [List.set_set]
    have es : ((x :: r :: R).dropLast.map rowW).set 0 (rowW y) = ((x :: r :: R).dropLast.set 0 y).map rowW := by rw [List.map_set]
    rw [es]
    repeat walk_at "x"
    have d : HeapAt (μ.set k (.lst (((x :: r :: R).dropLast.set 0 y).map rowW))) h k ((x :: r :: R).dropLast.set 0 y) := a.put
    refine ⟨0, _, _, _, insAt_at d.ob, rfl, rfl, ?_⟩
    repeat walk_at "x"
    have len : ((x :: r :: R).dropLast.set 0 y).length = R.length + 1 := by simp
    refine w_call rfl (sink_ok d (HP.down_start hp) (by rw [len]; simp at hl; omega) (by rw [len]; omega) fun B pm hB => ?_)
    rw [List.set_set]
    repeat walk_at "x"
    exact w_fin (by simp) (q B (pm.trans (HP.take_perm (x := x) rfl hy (by simp))) hB)
theorem many_ok (a : HeapAt μ h k A) (q : Q (.t (.int A.length)) μ) : Wp (F_Heap_many [.ref h] μ) Q X := by
  have a1 := a.ob
  have a2 := a.ls
  refine w_run rfl ?_
  simp only [List.map_cons, List.map_nil, List.cons_append, List.nil_append, List.replicate, Nat.reduceSub]
  rw [m_Heap_many]
  repeat walk_at "x"
  refine w_fin (Nat.le_refl _) ?_
  rw [List.length_map]
  exact q
end
end HQ
namespace HQ
open PySem PySem.Spec PyProof.Rows L2
local macro_rules | `(tactic| walk_at "ix") => `(tactic| first | assumption | with_reducible exact atI_l0 | with_reducible exact atI_l1 | with_reducible exact atI_l2 | with_reducible exact atI_l3 | with_reducible exact atI_l4 | with_reducible exact atI_l5 | with_reducible exact atI_l6 | with_reducible exact atI_l7 | with_reducible exact atI_l8 | with_reducible exact atI_l9 | with_reducible exact atI_l10 | with_reducible exact atI_l11)
local macro_rules | `(tactic| walk_at "side") => `(tactic| first | omega | assumption | (simp only [bigL]; omega) | decide)
local macro_rules | `(tactic| walk_at "w") => `(tactic| first
  | with_reducible refine ws_sSeq ?_
  | ((with_reducible refine' w_var ?wv ?_); (case' wv => exact rfl))
  | with_reducible refine w_T ?_
  | with_reducible refine w_m2 ?_
  | with_reducible refine w_mA ?_
  | with_reducible refine w_aCons ?_
  | with_reducible refine w_aNil ?_
  | with_reducible refine ws_asgN ?_
  | with_reducible refine ws_ret ?_
  | with_reducible refine ws_if ?_
  | with_reducible refine w_bOf ?_
  | with_reducible refine w_asB ?_
  | with_reducible refine ws_nil ?_
  | with_reducible refine w_bNot ?_
  | with_reducible refine w_bAnd ?_
  | with_reducible refine w_bOr ?_
  | with_reducible refine w_andV ?_
  | with_reducible refine w_orV ?_
  | with_reducible refine w_notV ?_
  | with_reducible refine w_mChain ?_
  | with_reducible refine w_mIf ?_
  | with_reducible refine w_m1 ?_
  | with_reducible refine w_sub ?_
  | with_reducible refine w_addI ?_
  | with_reducible refine w_neg ?_
  | with_reducible refine w_gt ?_
  | with_reducible refine w_lt ?_
  | with_reducible refine w_ge ?_
  | with_reducible refine w_le ?_
  | with_reducible refine w_leS ?_
  | with_reducible refine w_isN ?_
  | with_reducible refine w_isNn ?_
  | with_reducible refine w_neI ?_
  | with_reducible refine w_neS ?_
  | with_reducible refine w_neB ?_
  | with_reducible refine w_eqI ?_
  | with_reducible refine w_eqS ?_
  | with_reducible refine w_eqB ?_
  | with_reducible refine w_max ?_
  | with_reducible refine w_min ?_
  | with_reducible refine w_intI ?_
  | with_reducible refine w_intB ?_
  | ((with_reducible refine w_mod ?wc ?_); (case' wc => walk_at "side"))
  | ((with_reducible refine w_div ?wc ?wd ?_); (case' wc => walk_at "side"); (case' wd => walk_at "side"))
  | ((with_reducible refine w_mulI ?wc ?_); (case' wc => exact cmul_of (by walk_at "side") (by walk_at "side")))
  | ((with_reducible refine w_pow ?wc ?_); (case' wc => decide))
  | with_reducible refine w_mTup ?_
  | with_reducible refine w_mLst ?_
  | with_reducible refine w_mSl ?_
  | with_reducible refine w_oNone ?_
  | with_reducible refine w_oSome ?_
  | with_reducible refine w_mM1 ?_
  | with_reducible refine w_mDic1 ?_
  | with_reducible refine w_mkLl ?_
  | ((with_reducible refine' w_mkL ?wc ?_); (case' wc => exact rfl))
  | with_reducible refine ws_retN ?_
  | with_reducible refine ws_cont ?_
  | with_reducible refine ws_brk ?_
  | with_reducible refine ws_ex ?_
  | with_reducible refine ws_asgT ?_
  | with_reducible refine ws_setL ?_
  | with_reducible refine ws_for ?_
  | with_reducible refine w_iVal ?_
  | with_reducible refine w_iR1 ?_
  | with_reducible refine w_iR2 ?_
  | with_reducible refine w_iEnu ?_
  | with_reducible refine w_mLc ?_
  | with_reducible refine w_bYes ?_
  | with_reducible refine p_iteT ?_
  | with_reducible refine p_iteF ?_
  | with_reducible refine p_iteNT ?_
  | with_reducible refine p_iteNF ?_
  | ((with_reducible refine And.intro ?wl ?_); (case' wl => first | exact Nat.le_of_ble_eq_true rfl))
  | ((with_reducible refine' w_isi (r := true) ?w1 ?w2 ?w3 ?_); (case' w1 => exact rfl); (case' w2 => exact rfl); (case' w3 => exact rfl))
  | ((with_reducible refine' w_isi (r := false) ?w1 ?w2 ?w3 ?_); (case' w1 => exact rfl); (case' w2 => exact rfl); (case' w3 => exact rfl))
  | ((with_reducible refine w_call ?wc ?_); (case' wc => exact rfl))
  | ((with_reducible refine' w_ix_L ?w1 ?w2 ?_); (case' w1 => first | assumption | with_reducible exact rfl); (case' w2 => walk_at "ix"))
  | ((with_reducible refine' w_ix_T ?w1 ?w2 ?_); (case' w1 => first | exact rfl | assumption); (case' w2 => walk_at "ix"))
  | ((with_reducible refine' w_len_L ?w1 ?_); (case' w1 => first | assumption | exact rfl))
  | ((with_reducible refine' w_len_T ?w1 ?_); (case' w1 => exact rfl))
  | ((with_reducible refine w_len_str ?wc ?_); (case' wc => walk_at "side"))
  | ((with_reducible refine w_kStr ?wc ?_); (case' wc => walk_at "side"))
  | ((with_reducible refine w_kEnuS ?wc ?_); (case' wc => walk_at "side"))
  | ((with_reducible refine w_strI ?wc ?_); (case' wc => walk_at "side"))
  | ((with_reducible refine w_addS ?wc ?_); (case' wc => walk_at "side")))
local macro_rules | `(tactic| walk_at "ne") => `(tactic| first | assumption | (apply Ne.symm; assumption) | omega | decide)
local macro_rules | `(tactic| walk_at "mem") => `(tactic| first
  | assumption
  | with_reducible exact at_new
  | ((with_reducible apply at_same); walk_at "mem")
  | ((with_reducible refine at_ne ?hne ?hat); (case' hne => walk_at "ne"); (case' hat => walk_at "mem"))
  | ((with_reducible apply at_app); walk_at "mem"))
local macro_rules | `(tactic| walk_at "x") => `(tactic| first
  | walk_at "w"
  | with_reducible refine w_mFld ?_
  | ((with_reducible refine' w_fFld ?w1 ?w2 ?w3 ?_); (case' w1 => (with_reducible apply insAt_at); walk_at "mem"); (case' w2 => exact rfl); (case' w3 => exact rfl))
  | with_reducible refine w_mMe ?_
  | with_reducible refine ws_setX ?_
  | with_reducible refine ws_set2 ?_
  | with_reducible refine ws_fldS ?_
  | with_reducible refine w_mBm ?_
  | ((with_reducible refine And.intro ?wl ?_); (case' wl => (with_reducible apply isLs_at); walk_at "mem"))
  | with_reducible refine w_iZp ?_
  | with_reducible refine w_dic0 ?_
  | with_reducible refine w_dic0l ?_
  | with_reducible refine w_ltR ?_
  | ((with_reducible refine w_mulXI ?wc ?_); (case' wc => exact cmul_of (by walk_at "side") (by walk_at "side")))
  | ((with_reducible refine' w_ix_L ?w1 ?w2 ?_); (case' w1 => (with_reducible apply getL_at); walk_at "mem"); (case' w2 => walk_at "ix"))
  | ((with_reducible refine' w_len_L ?w1 ?_); (case' w1 => (with_reducible apply getL_at); walk_at "mem")))
/-! ### what is left at the end of a def -/
def Clean (μ : Mem) : Prop := ∀ o ∈ μ, cleanO μ.length o = true
section
variable {μ ν : Mem} {n m k : Nat} {o y : O} {u : W}
mutual
theorem cleanW_mono (h : n ≤ m) : ∀ u : W, cleanW n u = true → cleanW m u = true
  | .t _, _ => rfl
  | .ref k, q => by simp only [cleanW, decide_eq_true_eq] at q ⊢; omega
  | .tup ws, q => by simp only [cleanW] at q ⊢; exact cleanWs_mono h ws q
theorem cleanWs_mono (h : n ≤ m) : ∀ us : List W, cleanWs n us = true → cleanWs m us = true
  | [], _ => rfl
  | u :: us, q => by
    simp only [cleanWs, Bool.and_eq_true] at q ⊢
    exact ⟨cleanW_mono h u q.1, cleanWs_mono h us q.2⟩
end
theorem cleanO_mono (h : n ≤ m) (q : cleanO n o = true) : cleanO m o = true := by
  cases o <;> simp only [cleanO] at q ⊢ <;> exact cleanWs_mono h _ q
theorem cleanWs_T : ∀ ts : List T, cleanWs n (ts.map .t) = true
  | [] => rfl
  | t :: ts => by simp [cleanWs, cleanW, cleanWs_T ts]
theorem clean_rows (nss : List (List Int)) : cleanO n (.lst (nss.map rowW)) = true := by
  have e : nss.map rowW = (nss.map rowT).map .t := by rw [List.map_map]; rfl
  show cleanWs n (nss.map rowW) = true
  rw [e]; exact cleanWs_T _
theorem Clean.set (c : Clean μ) (h : cleanO μ.length o = true) : Clean (μ.set n o) := fun x hx => by
  rw [List.length_set]
  rcases List.mem_or_eq_of_mem_set hx with q | q
  · exact c x q
  · rw [q]; exact h
theorem Clean.app (c : Clean μ) (h : cleanO (μ.length + 1) o = true) : Clean (μ ++ [o]) := fun x hx => by
  rw [List.length_append, List.length_singleton]
  rcases List.mem_append.mp hx with q | q
  · exact cleanO_mono (Nat.le_succ _) (c x q)
  · simp at q; rw [q]; exact h
theorem Clean.all (c : Clean μ) (hn : μ.length = n) : μ.all (cleanO n) = true := by
  subst hn
  exact List.all_eq_true.mpr c
variable {Q : W → Mem → Prop} {X : XV → Mem → Prop}
/-- all new things go -/
theorem w_fin_drop {μ ν : Mem} (e : ν.take μ.length = μ) (c : Clean μ) (hu : cleanW μ.length u = true) (q : Q u μ) : Wp (fin μ.length u ν) Q X := by
  unfold fin
  split
  · rename_i h
    rw [List.take_of_length_le h] at e
    rw [e]; exact q
  · rw [e, if_pos (c.all rfl)]
    first | exact q | (rw [if_pos hu]; exact q)
/-- the same, where what stood before changed -/
theorem w_fin_drop' {μ ν : Mem} (hl : μ.length = n) (e : ν.take n = μ) (c : Clean μ) (hu : cleanW n u = true) (q : Q u μ) : Wp (fin n u ν) Q X := by
  subst hl
  exact w_fin_drop e c hu q
/-- one new thing stays -/
theorem w_fin_keep {μ ν : Mem} (hl : μ.length = n) (e : ν.take n = μ) (c : Clean μ) (hk : n ≤ k) (ho : ν[k]? = some o) (hc : cleanO n o = true) (q : Q (.ref n) (μ ++ [o])) : Wp (fin n (.ref k) ν) Q X := by
  have lk := at_lt ho
  unfold fin
  rw [if_neg (by omega), e, if_pos (c.all hl), if_neg (by simp [cleanW]; omega)]
  simp only [ho]
  rw [if_pos ⟨hk, hc⟩]
  exact q
end
/-! ### draws -/
structure Bx where
  a : Int
  b : Int
  c : Int
def Bx.o (s : Bx) : O := .lst [.t (.int s.a), .t (.int s.b), .t (.int s.c)]
structure Bx.Ok (s : Bx) (M : Nat) : Prop where
  a0 : 0 ≤ s.a
  b0 : 0 ≤ s.b
  b1 : s.b < 2147483647
  c0 : 0 ≤ s.c
  c1 : s.c ≤ M
theorem Bx.Ok.mono {s : Bx} {M N : Nat} (h : s.Ok M) (k : M ≤ N) : s.Ok N := ⟨h.a0, h.b0, h.b1, h.c0, by have := h.c1; omega⟩
theorem Bx.clean {s : Bx} {n : Nat} : cleanO n s.o = true := rfl
theorem take_ok {n : Nat} {μ : Mem} {M : Nat} {many : Int} {s : Bx} {Q : W → Mem → Prop} {X : XV → Mem → Prop} (hs : μ[n]? = some s.o) (ok : s.Ok M) (hM : M < 2 ^ 100) (h0 : 0 < many) (h1 : many < 2 ^ 200)
    (h : ∀ (d : Int) (s : Bx), 0 ≤ d → d < many → s.Ok (M + 1) → Q (.t (.int d)) (μ.set n s.o)) :
    Wp (F__law_take [.ref n, .t (.int many)] μ) Q X := by
  obtain ⟨a0, b0, b1, c0, c1⟩ := ok
  have hn : n < μ.length := at_lt hs
  have hs' : μ[n]? = some (.lst [.t (.int s.a), .t (.int s.b), .t (.int s.c)]) := hs
  have g0 := getL_at hs'
  refine w_run rfl ?_
  simp only [List.map_cons, List.map_nil, List.cons_append, List.nil_append, List.replicate, Nat.reduceSub]
  rw [m__law_take]
  repeat walk_at "x"
  refine p_iteB (fun hc => ?_) (fun hc => ?_)
  · have hc := of_decide_eq_true hc
    repeat walk_at "x"
    refine ⟨_, setX_at hs' rfl, ?_⟩
    repeat walk_at "x"
    refine w_fin (by simp) (h (s.a % many) ⟨s.a / many, s.b, s.c⟩ (Int.emod_nonneg _ (by omega)) (Int.emod_lt_of_pos _ h0) ⟨Int.ediv_nonneg a0 (by omega), b0, b1, c0, by show s.c ≤ _; omega⟩)
  · repeat walk_at "x"
    refine ⟨_, setX_at hs' rfl, ?_⟩
    have g1 : getL (.ref n) (μ.set n (Bx.o ⟨s.a, s.b, s.c + 1⟩)) = some [.t (.int s.a), .t (.int s.b), .t (.int (s.c + 1))] := getL_at (List.getElem?_set_self hn)
    repeat walk_at "x"
    exact w_fin (by simp) (h _ ⟨s.a, s.b, s.c + 1⟩ (Int.emod_nonneg _ (by omega)) (Int.emod_lt_of_pos _ h0) ⟨a0, b0, b1, by show 0 ≤ s.c + 1; omega, by show s.c + 1 ≤ _; omega⟩)
/-- the box of a cell -/
theorem box_ok {ns : List Int} {k : Nat} {μ : Mem} {Q : W → Mem → Prop} {X : XV → Mem → Prop} (hl : ns.length ≤ 63) (hk : k ≤ 100) (c : Clean μ) (h : ∀ s : Bx, s.Ok 0 → Q (.ref μ.length) (μ ++ [s.o])) :
    Wp (F__law_box [.t (.scr ns), .t (.int k)] μ) Q X := by
  refine w_run rfl ?_
  simp only [List.map_cons, List.map_nil, List.cons_append, List.nil_append, List.replicate, Nat.reduceSub]
  rw [m__law_box]
  repeat walk_at "x"
  have cell : ∀ (Q : W → Mem → Prop), (∀ i : Int, Q (.t (.int i)) μ) → Wp (F__law_cell [.t (.scr ns), .t (.int k)] μ) Q X := fun Q h => by
    have g0 : getL (.t (.scr ns)) μ = some (ns.map fun n => .t (.int n)) := rfl
    have at_i : ∀ (i : Int), 0 ≤ i → i < ns.length → ∃ x : Int, atI (ns.map fun n => W.t (.int n)) i = some (.t (.int x)) := fun i h0 h1 => by
      obtain ⟨j, rfl⟩ := Int.eq_ofNat_of_zero_le h0
      have hj : j < ns.length := by omega
      exact ⟨ns[j], atI_nat (by rw [List.getElem?_map, List.getElem?_eq_getElem hj]; rfl)⟩
    refine w_run rfl ?_
    simp only [List.map_cons, List.map_nil, List.cons_append, List.nil_append, List.replicate, Nat.reduceSub]
    rw [m__law_cell]
    repeat walk_at "x"
    refine p_D (fun hc => ?_) (fun hc => ?_)
    · repeat walk_at "x"
      simp only [List.length_map] at hc
      obtain ⟨x, hx⟩ := at_i k (by omega) hc
      refine w_ix_L g0 hx ?_
      exact w_fin (Nat.le_refl _) (h _)
    simp only [List.length_map] at hc
    repeat walk_at "x"
    have ee : eqW (.t (.scr ns)) (.t (.lst [])) μ = some (decide (ns = [])) := by
      show (match (some (PyData.list (ns.map .int)) : Option PyData), toDW (.t (.lst [])) μ with
        | some d, some e => some (PyData.eqv d e)
        | _, _ => none) = _
      have : toDW (.t (.lst [])) μ = some (.list []) := by simp [toDW, toD, toDs]
      rw [this]
      simp only [PyData.eqv]
      have := eqvAll_ints ns []
      simp only [List.map_nil] at this
      rw [this]
    refine w_eq ee ?_
    repeat walk_at "x"
    refine p_D (fun hd => ?_) (fun hd => ?_)
    · repeat walk_at "x"
      exact w_fin (Nat.le_refl _) (h _)
    · have hpos : 0 < ns.length := by
        cases ns with
        | nil => exact absurd rfl hd
        | cons => simp
      repeat walk_at "x"
      simp only [List.length_map]
      refine w_mod (by omega) ?_
      obtain ⟨x, hx⟩ := at_i ((k : Int) * 5 % ns.length) (Int.emod_nonneg _ (by omega)) (Int.emod_lt_of_pos _ (by omega))
      refine w_ix_L g0 hx ?_
      repeat walk_at "x"
      exact w_fin (Nat.le_refl _) (h _)
  refine w_call rfl (cell _ fun i => ?_)
  repeat walk_at "x"
  refine w_fin_keep rfl (by simp) c (Nat.le_refl _) at_new rfl (h ⟨if i - 10 ^ 18 > 0 then i - 10 ^ 18 else 0, i % 2147483587, 0⟩ ⟨by show 0 ≤ (if i - 10 ^ 18 > 0 then i - 10 ^ 18 else 0 : Int); split <;> omega, Int.emod_nonneg _ (by decide), by have := Int.emod_lt_of_pos i (show (0 : Int) < 2147483587 by decide); show i % 2147483587 < _; omega, by show (0 : Int) ≤ 0; decide, by show (0 : Int) ≤ 0; decide⟩)
end HQ
namespace HQ
open PySem PySem.Spec PyProof.Rows L2
local macro_rules | `(tactic| walk_at "ix") => `(tactic| first | assumption | with_reducible exact atI_l0 | with_reducible exact atI_l1 | with_reducible exact atI_l2 | with_reducible exact atI_l3 | with_reducible exact atI_l4 | with_reducible exact atI_l5 | with_reducible exact atI_l6 | with_reducible exact atI_l7 | with_reducible exact atI_l8 | with_reducible exact atI_l9 | with_reducible exact atI_l10 | with_reducible exact atI_l11)
local macro_rules | `(tactic| walk_at "side") => `(tactic| first | omega | assumption | (simp only [bigL]; omega) | decide)
local macro_rules | `(tactic| walk_at "w") => `(tactic| first
  | with_reducible refine ws_sSeq ?_
  | ((with_reducible refine' w_var ?wv ?_); (case' wv => exact rfl))
  | with_reducible refine w_T ?_
  | with_reducible refine w_m2 ?_
  | with_reducible refine w_mA ?_
  | with_reducible refine w_aCons ?_
  | with_reducible refine w_aNil ?_
  | with_reducible refine ws_asgN ?_
  | with_reducible refine ws_ret ?_
  | with_reducible refine ws_if ?_
  | with_reducible refine w_bOf ?_
  | with_reducible refine w_asB ?_
  | with_reducible refine ws_nil ?_
  | with_reducible refine w_bNot ?_
  | with_reducible refine w_bAnd ?_
  | with_reducible refine w_bOr ?_
  | with_reducible refine w_andV ?_
  | with_reducible refine w_orV ?_
  | with_reducible refine w_notV ?_
  | with_reducible refine w_mChain ?_
  | with_reducible refine w_mIf ?_
  | with_reducible refine w_m1 ?_
  | with_reducible refine w_sub ?_
  | with_reducible refine w_addI ?_
  | with_reducible refine w_neg ?_
  | with_reducible refine w_gt ?_
  | with_reducible refine w_lt ?_
  | with_reducible refine w_ge ?_
  | with_reducible refine w_le ?_
  | with_reducible refine w_leS ?_
  | with_reducible refine w_isN ?_
  | with_reducible refine w_isNn ?_
  | with_reducible refine w_neI ?_
  | with_reducible refine w_neS ?_
  | with_reducible refine w_neB ?_
  | with_reducible refine w_eqI ?_
  | with_reducible refine w_eqS ?_
  | with_reducible refine w_eqB ?_
  | with_reducible refine w_max ?_
  | with_reducible refine w_min ?_
  | with_reducible refine w_intI ?_
  | with_reducible refine w_intB ?_
  | ((with_reducible refine w_mod ?wc ?_); (case' wc => walk_at "side"))
  | ((with_reducible refine w_div ?wc ?wd ?_); (case' wc => walk_at "side"); (case' wd => walk_at "side"))
  | ((with_reducible refine w_mulI ?wc ?_); (case' wc => exact cmul_of (by walk_at "side") (by walk_at "side")))
  | ((with_reducible refine w_pow ?wc ?_); (case' wc => decide))
  | with_reducible refine w_mTup ?_
  | with_reducible refine w_mLst ?_
  | with_reducible refine w_mSl ?_
  | with_reducible refine w_oNone ?_
  | with_reducible refine w_oSome ?_
  | with_reducible refine w_mM1 ?_
  | with_reducible refine w_mDic1 ?_
  | with_reducible refine w_mkLl ?_
  | ((with_reducible refine' w_mkL ?wc ?_); (case' wc => exact rfl))
  | with_reducible refine ws_retN ?_
  | with_reducible refine ws_cont ?_
  | with_reducible refine ws_brk ?_
  | with_reducible refine ws_ex ?_
  | with_reducible refine ws_asgT ?_
  | with_reducible refine ws_setL ?_
  | with_reducible refine ws_for ?_
  | with_reducible refine w_iVal ?_
  | with_reducible refine w_iR1 ?_
  | with_reducible refine w_iR2 ?_
  | with_reducible refine w_iEnu ?_
  | with_reducible refine w_mLc ?_
  | with_reducible refine w_bYes ?_
  | with_reducible refine p_iteT ?_
  | with_reducible refine p_iteF ?_
  | with_reducible refine p_iteNT ?_
  | with_reducible refine p_iteNF ?_
  | ((with_reducible refine And.intro ?wl ?_); (case' wl => first | exact Nat.le_of_ble_eq_true rfl))
  | ((with_reducible refine' w_isi (r := true) ?w1 ?w2 ?w3 ?_); (case' w1 => exact rfl); (case' w2 => exact rfl); (case' w3 => exact rfl))
  | ((with_reducible refine' w_isi (r := false) ?w1 ?w2 ?w3 ?_); (case' w1 => exact rfl); (case' w2 => exact rfl); (case' w3 => exact rfl))
  | ((with_reducible refine w_call ?wc ?_); (case' wc => exact rfl))
  | ((with_reducible refine' w_ix_L ?w1 ?w2 ?_); (case' w1 => first | assumption | with_reducible exact rfl); (case' w2 => walk_at "ix"))
  | ((with_reducible refine' w_ix_T ?w1 ?w2 ?_); (case' w1 => first | exact rfl | assumption); (case' w2 => walk_at "ix"))
  | ((with_reducible refine' w_len_L ?w1 ?_); (case' w1 => first | assumption | exact rfl))
  | ((with_reducible refine' w_len_T ?w1 ?_); (case' w1 => exact rfl))
  | ((with_reducible refine w_len_str ?wc ?_); (case' wc => walk_at "side"))
  | ((with_reducible refine w_kStr ?wc ?_); (case' wc => walk_at "side"))
  | ((with_reducible refine w_kEnuS ?wc ?_); (case' wc => walk_at "side"))
  | ((with_reducible refine w_strI ?wc ?_); (case' wc => walk_at "side"))
  | ((with_reducible refine w_addS ?wc ?_); (case' wc => walk_at "side")))
local macro_rules | `(tactic| walk_at "ne") => `(tactic| first | assumption | (apply Ne.symm; assumption) | omega | decide)
local macro_rules | `(tactic| walk_at "mem") => `(tactic| first
  | assumption
  | with_reducible exact at_new
  | ((with_reducible apply at_same); walk_at "mem")
  | ((with_reducible refine at_ne ?hne ?hat); (case' hne => walk_at "ne"); (case' hat => walk_at "mem"))
  | ((with_reducible apply at_app); walk_at "mem"))
local macro_rules | `(tactic| walk_at "x") => `(tactic| first
  | walk_at "w"
  | with_reducible refine w_mFld ?_
  | ((with_reducible refine' w_fFld ?w1 ?w2 ?w3 ?_); (case' w1 => (with_reducible apply insAt_at); walk_at "mem"); (case' w2 => exact rfl); (case' w3 => exact rfl))
  | with_reducible refine w_mMe ?_
  | with_reducible refine ws_setX ?_
  | with_reducible refine ws_set2 ?_
  | with_reducible refine ws_fldS ?_
  | with_reducible refine w_mBm ?_
  | ((with_reducible refine And.intro ?wl ?_); (case' wl => (with_reducible apply isLs_at); walk_at "mem"))
  | with_reducible refine w_iZp ?_
  | with_reducible refine w_dic0 ?_
  | with_reducible refine w_dic0l ?_
  | with_reducible refine w_ltR ?_
  | ((with_reducible refine w_mulXI ?wc ?_); (case' wc => exact cmul_of (by walk_at "side") (by walk_at "side")))
  | ((with_reducible refine' w_ix_L ?w1 ?w2 ?_); (case' w1 => (with_reducible apply getL_at); walk_at "mem"); (case' w2 => walk_at "ix"))
  | ((with_reducible refine' w_len_L ?w1 ?_); (case' w1 => (with_reducible apply getL_at); walk_at "mem")))
/-! ### rows drawn -/
def iW (i : Int) : W := .t (.int i)
theorem getT_row (ns : List Int) : getT (rowW ns) = some (ns.map iW) := by
  simp only [rowW, rowT, getT, List.map_map]; rfl
theorem mkTup_row (ns : List Int) : mkTup (ns.map iW) = rowW ns := by
  have e : ns.map iW = (ns.map T.int).map .t := by rw [List.map_map]; rfl
  rw [e, mkTup_of (toTs_map _)]; rfl
section
variable {μ : Mem} {Q : W → Mem → Prop} {X : XV → Mem → Prop}
theorem row_ok {n p M L : Nat} {s : Bx} {K : List (List Int)} (hs : μ[n]? = some s.o) (ok : s.Ok M) (hM : M < 2 ^ 90) (hk : μ[p]? = some (.lst (K.map rowW))) (hp : p ≠ n) (hl : K.length ≤ 300) (hb : ∀ r ∈ K, r.length ≤ L) (hL : L ≤ 500)
    (h : ∀ (ns : List Int) (s : Bx), ns.length ≤ L + 3 → s.Ok (M + 20) → Q (rowW ns) (μ.set n s.o)) : Wp (F__law_row [.ref n, .ref p] μ) Q X := by
  refine w_run rfl ?_
  simp only [List.map_cons, List.map_nil, List.cons_append, List.nil_append, List.replicate, Nat.reduceSub]
  rw [m__law_row]
  repeat walk_at "x"
  refine w_call rfl (take_ok hs ok (by omega) (by decide) (by decide) fun d s1 d0 d1 ok1 => ?_)
  have hs1 : (μ.set n s1.o)[n]? = some s1.o := at_same hs
  have hk1 : ∀ s : Bx, (μ.set n s.o)[p]? = some (.lst (K.map rowW)) := fun s => at_ne hp hk
  have rest : ∀ (s1 : Bx), s1.Ok (M + 1) → ∀ (e3 e4 e5 : Option W) (w2 : W), WpS (sSeq (sAsg (mTup (aNil)) (gN 3)) (sSeq (sFor (iR1 (aCons (mA (callF F__law_take 2 [] false) (aCons (mVar 0) (aCons (mT (.int 4)) (aNil)))) (aNil))) (gN 4) (sSeq (sAsg (m2 fSub (mA (callF F__law_take 2 [] false) (aCons (mVar 0) (aCons (mT (.int 5)) (aNil)))) (mT (.int 2))) (gN 5)) (sSeq (sIf (bOf (m2 (fEq false) (mA (callF F__law_take 2 [] false) (aCons (mVar 0) (aCons (mT (.int 2)) (aNil)))) (mT (.int 1)))) (sSeq (sAsg (m2 fSub (mA (callF F__law_take 2 [] false) (aCons (mVar 0) (aCons (m2 fPow (mT (.int 10)) (mT (.int 30))) (aNil)))) (m2 (fMulX false) (mT (.int 5)) (m2 fPow (mT (.int 10)) (mT (.int 29))))) (gN 5)) (sNil)) (sNil)) (sSeq (sAsg (m2 (fAdd false) (mVar 3) (mTup (aCons (mVar 5) (aNil)))) (gN 3)) (sNil))))) (sSeq (sRet (mVar 3)) (sNil)))
      [some (.ref n), some (.ref p), some w2, e3, e4, e5] (μ.set n s1.o)) (fun _ ν => Wp (fin μ.length (.t .non) ν) Q X) (fun u ν => Wp (fin μ.length u ν) Q X) noE noE (fun x _ ν => X x ν) := fun s1 ok1 e3 e4 e5 w2 => by
    repeat walk_at "x"
    refine w_call rfl (take_ok (at_same hs) ok1 (by omega) (by decide) (by decide) fun d s2 d0 d1 ok2 => ?_)
    rw [List.set_set]
    repeat walk_at "x"
    refine ⟨d, rfl, w_rg (by omega) (by simp [bigL]; omega) ?_⟩
    refine w_loop (fun i e ν => ∃ (ns : List Int) (s : Bx) (x4 x5 : Option W), e = [some (.ref n), some (.ref p), some w2, some (rowW ns), x4, x5] ∧ ν = μ.set n s.o ∧ ns.length = i ∧ s.Ok (M + 2 + 3 * i)) ⟨[], s2, e4, e5, rfl, rfl, rfl, ok2.mono (by omega)⟩ (fun _ _ _ _ => trivial) ?_ ?_
    · rintro i y e ν hy ⟨ns, s, x4, x5, rfl, rfl, hn, ok⟩
      have hi : i < (d - 0).toNat := by simpa using (List.getElem?_eq_some_iff.mp hy).1
      refine ⟨_, rfl, ?_⟩
      repeat walk_at "x"
      refine w_call rfl (take_ok (at_same hs) ok (by omega) (by decide) (by decide) fun d1 s3 _ _ ok3 => ?_)
      rw [List.set_set]
      repeat walk_at "x"
      refine w_call rfl (take_ok (at_same hs) ok3 (by omega) (by decide) (by decide) fun d2 s4 _ _ ok4 => ?_)
      rw [List.set_set]
      repeat walk_at "x"
      have fin_ : ∀ (x : Int) (s : Bx), s.Ok (M + 2 + 3 * (i + 1)) → ∀ x4 : Option W, Wp (fAdd false (rowW ns) (mkTup [W.t (T.int x)]) (μ.set n s.o)) (fun u ν => ∃ (ns' : List Int) (s : Bx) (x4' x5' : Option W), ([some (W.ref n), some (.ref p), some w2, some (rowW ns), x4, some (W.t (T.int x))].set 3 (some u)) = [some (.ref n), some (.ref p), some w2, some (rowW ns'), x4', x5'] ∧ ν = μ.set n s.o ∧ ns'.length = i + 1 ∧ s.Ok (M + 2 + 3 * (i + 1))) X := fun x s ok x4 => by
        refine w_addTT (getT_row ns) (getT_row [x]) (by simp [bigL]; omega) ?_
        rw [← List.map_append, mkTup_row]
        exact ⟨ns ++ [x], s, x4, _, rfl, rfl, by simp [hn], ok⟩
      refine p_D (fun hc => ?_) (fun hc => ?_)
      · repeat walk_at "x"
        refine w_call rfl (take_ok (at_same hs) ok4 (by omega) (by decide) (by decide) fun d3 s5 _ _ ok5 => ?_)
        rw [List.set_set]
        repeat walk_at "x"
        refine (fin_ _ s5 (ok5.mono (by omega)) (some y)).imp (fun u ν h => ?_) fun _ _ h => h
        repeat walk_at "x"
        exact h
      · repeat walk_at "x"
        refine (fin_ _ s4 (ok4.mono (by omega)) (some y)).imp (fun u ν h => ?_) fun _ _ h => h
        repeat walk_at "x"
        exact h
    · rintro e ν ⟨ns, s, x4, x5, rfl, rfl, hn, ok⟩
      repeat walk_at "x"
      simp only [List.length_map, List.length_range] at hn ok
      exact w_fin (by simp) (h ns s (by omega) (ok.mono (by omega)))
  repeat walk_at "x"
  refine p_D (fun hc => ?_) (fun hc => ?_)
  · repeat walk_at "x"
    refine w_ne (eqW_rows (rowsL_at (hk1 s1)) rowsL_nil) ?_
    repeat walk_at "x"
    refine p_ND (fun hd => ?_) (fun hd => ?_)
    · have hpos : 0 < K.length := by
        cases K with
        | nil => exact absurd rfl hd
        | cons => simp
      repeat walk_at "x"
      simp only [List.length_map]
      refine w_call rfl (take_ok hs1 ok1 (by omega) (by omega) (by omega) fun i s2 i0 i1 ok2 => ?_)
      rw [List.set_set]
      obtain ⟨j, rfl⟩ := Int.eq_ofNat_of_zero_le i0
      have hj : j < K.length := by omega
      refine w_ix_L (getL_at (hk1 s2)) (atI_row (List.getElem?_eq_getElem hj)) ?_
      repeat walk_at "x"
      refine w_call rfl (take_ok (at_same hs) ok2 (by omega) (by decide) (by decide) fun x s3 _ _ ok3 => ?_)
      rw [List.set_set]
      repeat walk_at "x"
      refine w_mulXT (ws := [iW (x - 1)]) rfl ⟨by simp, by simp, by omega, by omega⟩ ?_
      have e : (List.replicate d.toNat [iW (x - 1)]).flatten = (List.replicate d.toNat (x - 1)).map iW := by
        have : d.toNat = 0 ∨ d.toNat = 1 := by omega
        rcases this with z | z <;> rw [z] <;> rfl
      rw [e, mkTup_row]
      have hr := hb _ (List.getElem_mem hj)
      refine w_addTT (getT_row _) (getT_row _) (by simp [bigL]; omega) ?_
      rw [← List.map_append, mkTup_row]
      exact w_fin (by simp) (h _ s3 (by simp; omega) (ok3.mono (by omega)))
    · exact ws_nil (rest s1 ok1 _ _ _ _)
  · exact p_iteF (ws_nil (rest s1 ok1 _ _ _ _))
end
end HQ
namespace HQ
open PySem PySem.Spec PyProof.Rows L2
local macro_rules | `(tactic| walk_at "ix") => `(tactic| first | assumption | with_reducible exact atI_l0 | with_reducible exact atI_l1 | with_reducible exact atI_l2 | with_reducible exact atI_l3 | with_reducible exact atI_l4 | with_reducible exact atI_l5 | with_reducible exact atI_l6 | with_reducible exact atI_l7 | with_reducible exact atI_l8 | with_reducible exact atI_l9 | with_reducible exact atI_l10 | with_reducible exact atI_l11)
local macro_rules | `(tactic| walk_at "side") => `(tactic| first | omega | assumption | (simp only [bigL]; omega) | decide)
local macro_rules | `(tactic| walk_at "w") => `(tactic| first
  | with_reducible refine ws_sSeq ?_
  | ((with_reducible refine' w_var ?wv ?_); (case' wv => exact rfl))
  | with_reducible refine w_T ?_
  | with_reducible refine w_m2 ?_
  | with_reducible refine w_mA ?_
  | with_reducible refine w_aCons ?_
  | with_reducible refine w_aNil ?_
  | with_reducible refine ws_asgN ?_
  | with_reducible refine ws_ret ?_
  | with_reducible refine ws_if ?_
  | with_reducible refine w_bOf ?_
  | with_reducible refine w_asB ?_
  | with_reducible refine ws_nil ?_
  | with_reducible refine w_bNot ?_
  | with_reducible refine w_bAnd ?_
  | with_reducible refine w_bOr ?_
  | with_reducible refine w_andV ?_
  | with_reducible refine w_orV ?_
  | with_reducible refine w_notV ?_
  | with_reducible refine w_mChain ?_
  | with_reducible refine w_mIf ?_
  | with_reducible refine w_m1 ?_
  | with_reducible refine w_sub ?_
  | with_reducible refine w_addI ?_
  | with_reducible refine w_neg ?_
  | with_reducible refine w_gt ?_
  | with_reducible refine w_lt ?_
  | with_reducible refine w_ge ?_
  | with_reducible refine w_le ?_
  | with_reducible refine w_leS ?_
  | with_reducible refine w_isN ?_
  | with_reducible refine w_isNn ?_
  | with_reducible refine w_neI ?_
  | with_reducible refine w_neS ?_
  | with_reducible refine w_neB ?_
  | with_reducible refine w_eqI ?_
  | with_reducible refine w_eqS ?_
  | with_reducible refine w_eqB ?_
  | with_reducible refine w_max ?_
  | with_reducible refine w_min ?_
  | with_reducible refine w_intI ?_
  | with_reducible refine w_intB ?_
  | ((with_reducible refine w_mod ?wc ?_); (case' wc => walk_at "side"))
  | ((with_reducible refine w_div ?wc ?wd ?_); (case' wc => walk_at "side"); (case' wd => walk_at "side"))
  | ((with_reducible refine w_mulI ?wc ?_); (case' wc => exact cmul_of (by walk_at "side") (by walk_at "side")))
  | ((with_reducible refine w_pow ?wc ?_); (case' wc => decide))
  | with_reducible refine w_mTup ?_
  | with_reducible refine w_mLst ?_
  | with_reducible refine w_mSl ?_
  | with_reducible refine w_oNone ?_
  | with_reducible refine w_oSome ?_
  | with_reducible refine w_mM1 ?_
  | with_reducible refine w_mDic1 ?_
  | with_reducible refine w_mkLl ?_
  | ((with_reducible refine' w_mkL ?wc ?_); (case' wc => exact rfl))
  | with_reducible refine ws_retN ?_
  | with_reducible refine ws_cont ?_
  | with_reducible refine ws_brk ?_
  | with_reducible refine ws_ex ?_
  | with_reducible refine ws_asgT ?_
  | with_reducible refine ws_setL ?_
  | with_reducible refine ws_for ?_
  | with_reducible refine w_iVal ?_
  | with_reducible refine w_iR1 ?_
  | with_reducible refine w_iR2 ?_
  | with_reducible refine w_iEnu ?_
  | with_reducible refine w_mLc ?_
  | with_reducible refine w_bYes ?_
  | with_reducible refine p_iteT ?_
  | with_reducible refine p_iteF ?_
  | with_reducible refine p_iteNT ?_
  | with_reducible refine p_iteNF ?_
  | ((with_reducible refine And.intro ?wl ?_); (case' wl => first | exact Nat.le_of_ble_eq_true rfl))
  | ((with_reducible refine' w_isi (r := true) ?w1 ?w2 ?w3 ?_); (case' w1 => exact rfl); (case' w2 => exact rfl); (case' w3 => exact rfl))
  | ((with_reducible refine' w_isi (r := false) ?w1 ?w2 ?w3 ?_); (case' w1 => exact rfl); (case' w2 => exact rfl); (case' w3 => exact rfl))
  | ((with_reducible refine w_call ?wc ?_); (case' wc => exact rfl))
  | ((with_reducible refine' w_ix_L ?w1 ?w2 ?_); (case' w1 => first | assumption | with_reducible exact rfl); (case' w2 => walk_at "ix"))
  | ((with_reducible refine' w_ix_T ?w1 ?w2 ?_); (case' w1 => first | exact rfl | assumption); (case' w2 => walk_at "ix"))
  | ((with_reducible refine' w_len_L ?w1 ?_); (case' w1 => first | assumption | exact rfl))
  | ((with_reducible refine' w_len_T ?w1 ?_); (case' w1 => exact rfl))
  | ((with_reducible refine w_len_str ?wc ?_); (case' wc => walk_at "side"))
  | ((with_reducible refine w_kStr ?wc ?_); (case' wc => walk_at "side"))
  | ((with_reducible refine w_kEnuS ?wc ?_); (case' wc => walk_at "side"))
  | ((with_reducible refine w_strI ?wc ?_); (case' wc => walk_at "side"))
  | ((with_reducible refine w_addS ?wc ?_); (case' wc => walk_at "side")))
local macro_rules | `(tactic| walk_at "ne") => `(tactic| first | assumption | (apply Ne.symm; assumption) | omega | decide)
local macro_rules | `(tactic| walk_at "mem") => `(tactic| first
  | assumption
  | with_reducible exact at_new
  | ((with_reducible apply at_same); walk_at "mem")
  | ((with_reducible refine at_ne ?hne ?hat); (case' hne => walk_at "ne"); (case' hat => walk_at "mem"))
  | ((with_reducible apply at_app); walk_at "mem"))
local macro_rules | `(tactic| walk_at "x") => `(tactic| first
  | walk_at "w"
  | with_reducible refine w_mFld ?_
  | ((with_reducible refine' w_fFld ?w1 ?w2 ?w3 ?_); (case' w1 => (with_reducible apply insAt_at); walk_at "mem"); (case' w2 => exact rfl); (case' w3 => exact rfl))
  | with_reducible refine w_mMe ?_
  | with_reducible refine ws_setX ?_
  | with_reducible refine ws_set2 ?_
  | with_reducible refine ws_fldS ?_
  | with_reducible refine w_mBm ?_
  | ((with_reducible refine And.intro ?wl ?_); (case' wl => (with_reducible apply isLs_at); walk_at "mem"))
  | with_reducible refine w_iZp ?_
  | with_reducible refine w_dic0 ?_
  | with_reducible refine w_dic0l ?_
  | with_reducible refine w_ltR ?_
  | ((with_reducible refine w_mulXI ?wc ?_); (case' wc => exact cmul_of (by walk_at "side") (by walk_at "side")))
  | ((with_reducible refine' w_ix_L ?w1 ?w2 ?_); (case' w1 => (with_reducible apply getL_at); walk_at "mem"); (case' w2 => walk_at "ix"))
  | ((with_reducible refine' w_len_L ?w1 ?_); (case' w1 => (with_reducible apply getL_at); walk_at "mem")))
/-! ### what a row is, what a heap is -/
def scal : T → Bool
  | .non => true
  | .bl _ => true
  | .int _ => true
  | .str _ => true
  | _ => false
def intB : T → Bool
  | .int _ => true
  | _ => false
def okE : T → Bool
  | .tup ts => ts.all scal && decide (ts.length ≤ 600)
  | .lst _ => true
  | .int _ => true
  | _ => false
def rowB : T → Option (List Int)
  | .tup ts => intsT ts
  | _ => none
theorem ints_isSome : ∀ ts : List T, (intsT ts).isSome = ts.all intB
  | [] => rfl
  | t :: ts => by
    cases t <;> simp [intsT, intB, ints_isSome ts]
def rowsT : List T → Option (List (List Int))
  | [] => some []
  | t :: ts => match rowB t, rowsT ts with
    | some ns, some nss => some (ns :: nss)
    | _, _ => none
theorem rowsT_eq : ∀ {ts : List T} {nss : List (List Int)}, rowsT ts = some nss → ts = nss.map rowT
  | [], nss, h => by simp [rowsT] at h; subst h; rfl
  | t :: ts, nss, h => by
    simp only [rowsT] at h
    split at h
    · rename_i ns nss' h1 h2
      cases h
      cases t <;> simp only [rowB, reduceCtorEq] at h1
      rw [rowsT_eq h2, intsT_eq h1]; rfl
    · cases h
theorem rowsT_map : ∀ nss : List (List Int), rowsT (nss.map rowT) = some nss
  | [] => rfl
  | ns :: nss => by
    have ih := rowsT_map nss
    simp only [List.map_cons, rowT, rowsT, rowB, intsT_map] at ih ⊢
    rw [ih]
theorem rowsT_some : ∀ ts : List T, (rowsT ts).isSome = ts.all fun t => (rowB t).isSome
  | [] => rfl
  | t :: ts => by
    have ih := rowsT_some ts
    simp only [rowsT, List.all_cons]
    cases h1 : rowB t <;> cases h2 : rowsT ts <;> rw [h2] at ih <;> simp_all
open Classical in
noncomputable def heapB (nss : List (List Int)) : Bool := decide (HP.Heap HT.lexLt nss)
open Classical in
theorem heapB_T {nss : List (List Int)} (h : HP.Heap HT.lexLt nss) : heapB nss = true := by unfold heapB; exact decide_eq_true h
open Classical in
theorem heapB_F {nss : List (List Int)} (h : ¬ HP.Heap HT.lexLt nss) : heapB nss = false := by unfold heapB; exact decide_eq_false h
noncomputable def formB (ts : List T) : Bool := match rowsT ts with
  | some nss => heapB nss
  | none => false
section
variable {μ : Mem} {Q : W → Mem → Prop} {X : XV → Mem → Prop}
theorem whole_ok {t : T} (h : scal t = true) : Wp (F_is_whole [.t t] []) (fun u _ => u = .t (.bl (intB t))) noX := by
  refine w_run rfl ?_
  simp only [List.map_cons, List.map_nil, List.cons_append, List.nil_append, List.replicate, Nat.reduceSub]
  rw [m_is_whole]
  cases t <;> first | (cases h; done) | skip
  all_goals
    repeat walk_at "x"
    exact w_fin (Nat.le_refl _) rfl
theorem whole2_ok {t : T} (h : scal t = true) : Wp (F__law_whole [.t t] []) (fun u _ => u = .t (.bl (intB t))) noX := by
  refine w_run rfl ?_
  simp only [List.map_cons, List.map_nil, List.cons_append, List.nil_append, List.replicate, Nat.reduceSub]
  rw [m__law_whole]
  cases t <;> first | (cases h; done) | skip
  all_goals
    repeat walk_at "x"
    exact w_fin (Nat.le_refl _) rfl
/-- [f(x) for x in ts] -/
theorem lc_whole {F : MF} (hF : ∀ {t : T}, scal t = true → Wp (F [.t t] []) (fun u _ => u = .t (.bl (intB t))) noX) {e : En} {i j : Nat} {ts : List T} (he : e[i]? = some (some (.t (.tup ts)))) (hj : j < e.length) (hs : ts.all scal = true) (hl : ts.length ≤ 600)
    (h : Q (.t (.lst (ts.map fun t => .bl (intB t)))) μ) : Wp (mLc false (iVal (mVar i)) (gN j) bYes (mA (callF F 1 [] true) (aCons (mVar j) aNil)) [j] e μ) Q X := by
  refine w_mLc ?_
  refine w_iVal ?_
  refine w_var he ?_
  refine w_kT (ws := ts.map .t) rfl (by simp [bigL]; omega) ?_
  refine ⟨by simp [bigL]; omega, ?_⟩
  refine w_lcM (fun i acc ν => ν = μ ∧ acc = ((ts.take i).map fun t => T.bl (intB t)).map W.t) ⟨rfl, by simp⟩ (fun _ _ _ _ => trivial) ?_ ?_
  · rintro i y acc ν hy ⟨rfl, rfl⟩
    rw [List.getElem?_map] at hy
    cases q : ts[i]? with
    | none => rw [q] at hy; cases hy
    | some t =>
      rw [q] at hy
      cases hy
      refine ⟨_, rfl, ?_⟩
      refine w_bYes (p_iteT ?_)
      have hv : ((wipeE e [j]).set j (some (W.t t)))[j]? = some (some (.t t)) := List.getElem?_set_self (by simpa [wipeE] using hj)
      refine w_mA (w_aCons (w_var hv (w_aNil ?_)))
      refine w_pure (ts := [t]) rfl rfl (hF (List.all_eq_true.mp hs t (List.mem_of_getElem? q))) ⟨rfl, ?_⟩
      rw [List.take_add_one, q]
      simp
  · rintro acc ν ⟨rfl, rfl⟩
    simp only [List.length_map, List.take_length]
    exact w_mkL (toTs_map _) h
theorem all_whole {ts : List T} (h : Q (.t (.bl (ts.all intB))) μ) : Wp (fAll [.t (.lst (ts.map fun t => .bl (intB t)))] μ) Q X := by
  refine w_all (bs := ts.map intB) ?_ ?_
  · simp only [getL, getLT, List.map_map]; rfl
  · rw [List.all_map]; exact h
theorem is_row_ok {t : T} (h : okE t = true) : Wp (F_is_row [.t t] []) (fun u _ => u = .t (.bl (rowB t).isSome)) noX := by
  refine w_run rfl ?_
  simp only [List.map_cons, List.map_nil, List.cons_append, List.nil_append, List.replicate, Nat.reduceSub]
  rw [m_is_row]
  cases t <;> first | (cases h; done) | skip
  case tup ts =>
    simp only [okE, Bool.and_eq_true, decide_eq_true_eq] at h
    refine ws_sSeq (ws_ret (w_andV (w_mA (w_aCons (w_var rfl (w_aCons (w_T (w_aNil ?_))))))))
    refine w_isi (r := true) (a := .b "tuple") (b := .b "tuple") rfl rfl rfl ?_
    refine w_asB (p_iteT (w_mA (w_aCons ?_)))
    refine lc_whole (ts := ts) whole_ok rfl (by simp) h.1 h.2 ?_
    refine w_aNil (all_whole ?_)
    exact w_fin (Nat.le_refl _) (by rw [rowB, ints_isSome])
  case lst ts =>
    repeat walk_at "x"
    exact w_fin (Nat.le_refl _) rfl
  case int i =>
    repeat walk_at "x"
    exact w_fin (Nat.le_refl _) rfl
/-- the look at all pairs -/
noncomputable def lookM (j : Nat) : MS := sFor (iR2 (aCons (mT (.int 1)) (aCons (mA fLen (aCons (mVar 0) (aNil))) (aNil)))) (gN j) (sSeq (sIf (bOf (m2 (fLt) (m2 fIdx (mVar 0) (mVar j)) (m2 fIdx (mVar 0) (m2 fDiv (m2 fSub (mVar j) (mT (.int 1))) (mT (.int 2)))))) (sSeq (sRet (mT (.bl false))) (sNil)) (sNil)) (sNil))
theorem look_ok {j : Nat} {e : En} {u : W} {nss : List (List Int)} {nx ct bk : En → Mem → Prop} {rt : W → Mem → Prop} {ex : XV → En → Mem → Prop} (he : e[0]? = some (some u)) (hj : 0 < j) (hj2 : j < e.length) (hu : getL u μ = some (nss.map rowW)) (hl : nss.length ≤ 400)
    (h1 : HP.Heap HT.lexLt nss → ∀ e', e'.length = e.length → nx e' μ) (h2 : ¬ HP.Heap HT.lexLt nss → rt (.t (.bl false)) μ) : WpS (lookM j e μ) nx rt ct bk ex := by
  unfold lookM
  refine ws_for (w_iR2 ?_)
  refine w_aCons (w_T (w_aCons (w_mA (w_aCons (w_var he (w_aNil ?_))))))
  refine w_len_L hu ?_
  refine w_aNil ?_
  refine ⟨_, _, rfl, ?_⟩
  rw [List.length_map]
  have hr1 : -(2 ^ 62) ≤ (1 : Int) ∧ (1 : Int) < 2 ^ 62 ∧ -(2 ^ 62) ≤ (nss.length : Int) ∧ (nss.length : Int) < 2 ^ 62 := by omega
  have hr2 : ((nss.length : Int) - 1).toNat ≤ bigL := by simp only [bigL]; omega
  generalize hN : (nss.length : Int) = N at hr1 hr2 ⊢
  refine w_rg hr1 hr2 ?_
  refine w_loop (fun i e' ν => ν = μ ∧ e'[0]? = some (some u) ∧ e'.length = e.length ∧ ∀ (k : Nat) a b, 0 < k → k ≤ i → nss[k]? = some a → nss[(k - 1) / 2]? = some b → HT.lexLt a b = false) ⟨rfl, he, rfl, fun k a b q1 q2 => absurd q1 (by omega)⟩ (fun _ _ _ _ => True.intro) ?_ ?_
  · rintro i y e' ν hy ⟨rfl, he', hl', hin⟩
    have hi : i < (N - 1).toNat := by simpa using (List.getElem?_eq_some_iff.mp hy).1
    have ey : y = .t (.int ((i + 1 : Nat) : Int)) := by
      rw [List.getElem?_map, List.getElem?_range hi] at hy
      simp only [Option.map_some, Option.some.injEq] at hy
      rw [← hy]
      congr 2
      omega
    subst ey
    refine ⟨_, rfl, ?_⟩
    have l1 : i + 1 < nss.length := by omega
    have l2 : i / 2 < nss.length := by omega
    have hx := List.getElem?_eq_getElem l1
    have hy := List.getElem?_eq_getElem l2
    have z1 := atI_row hx
    have z2 := atI_row hy
    have e2 : (((i + 1 : Nat) : Int) - 1) / 2 = ((i / 2 : Nat) : Int) := by omega
    rw [← e2] at z2
    have v0 : ∀ x : Option W, (e'.set j x)[0]? = some (some u) := fun x => by rw [List.getElem?_set_ne (by omega)]; exact he'
    have vj : ∀ x : W, (e'.set j (some x))[j]? = some (some x) := fun x => List.getElem?_set_self (by omega)
    refine ws_sSeq (ws_if (w_bOf (w_m2 (w_m2 (w_var (v0 _) (w_var (vj _) (w_ix_L hu z1 ?_)))))))
    refine w_m2 (w_var (v0 _) (w_m2 (w_m2 (w_var (vj _) (w_T (w_sub (w_T (w_div (by decide) (by decide) (w_ix_L hu z2 ?_)))))))))
    refine w_ltR (w_asB ?_)
    refine p_iteB (fun hc => ?_) (fun hc => ?_)
    · refine ws_sSeq (ws_ret (w_T (h2 fun hp => ?_)))
      have := hp (i + 1) _ _ (by omega) hx (by rw [show (i + 1 - 1) / 2 = i / 2 by omega]; exact hy)
      rw [hc] at this; cases this
    · refine ws_nil (ws_nil ⟨rfl, v0 _, by rw [List.length_set]; exact hl', fun k a b k0 k1 ha hb => ?_⟩)
      by_cases hk : k = i + 1
      · subst hk
        rw [show (i + 1 - 1) / 2 = i / 2 by omega] at hb
        rw [hx] at ha; rw [hy] at hb
        cases ha; cases hb
        exact hc
      · exact hin k a b k0 (by omega) ha hb
  · rintro e' ν ⟨rfl, he', hl', hin⟩
    refine h1 (fun k a b k0 ha hb => hin k a b k0 ?_ ha hb) e' hl'
    have := (List.getElem?_eq_some_iff.mp ha).1
    simp only [List.length_map, List.length_range]
    omega
/-- a list as is_heap meets it -/
structure IsL (u : W) (μ : Mem) (ts : List T) : Prop where
  ty : tyW u μ = some (.b "list")
  it : getL u μ = some (ts.map .t)
theorem isL_ref {n : Nat} {ts : List T} (h : μ[n]? = some (.lst (ts.map .t))) : IsL (.ref n) μ ts := ⟨by simp only [tyW, h], getL_at h⟩
theorem isL_T {ts : List T} : IsL (.t (.lst ts)) μ ts := ⟨rfl, rfl⟩
theorem isi_L {u : W} {ts : List T} (hu : IsL u μ ts) (h : Q (.t (.bl true)) μ) : Wp (fIsi ktB [u, .t (.ty "list")] μ) Q X := w_isiX hu.ty (r := true) rfl h
theorem is_heap_ok {u : W} {ts : List T} (hu : IsL u μ ts) (ho : ts.all okE = true) (hl : ts.length ≤ 400) (h : Q (.t (.bl (formB ts))) μ) : Wp (F_is_heap [u] μ) Q X := by
  refine w_run rfl ?_
  simp only [List.map_cons, List.map_nil, List.cons_append, List.nil_append, List.replicate, Nat.reduceSub]
  rw [m_is_heap]
  repeat walk_at "x"
  refine isi_L hu ?_
  repeat walk_at "x"
  refine w_kL hu.it (by simp [bigL]; omega) ?_
  refine ⟨by simp [bigL]; omega, ?_⟩
  refine w_lcM (fun i acc ν => ν = μ ∧ acc = ((ts.take i).map fun t => T.bl (rowB t).isSome).map W.t) ⟨rfl, by simp⟩ (fun i acc ν q => by rw [q.1]; exact hu.it) ?_ ?_
  · rintro i y acc ν hy ⟨rfl, rfl⟩
    rw [List.getElem?_map] at hy
    cases q : ts[i]? with
    | none => rw [q] at hy; cases hy
    | some t =>
      rw [q] at hy
      cases hy
      refine ⟨_, rfl, ?_⟩
      repeat walk_at "x"
      refine w_pure (ts := [t]) rfl rfl (is_row_ok (List.all_eq_true.mp ho t (List.mem_of_getElem? q))) ⟨rfl, ?_⟩
      rw [List.take_add_one, q]
      simp
  · rintro acc ν ⟨rfl, rfl⟩
    simp only [List.length_map, List.take_length]
    refine w_mkL (toTs_map _) ?_
    refine w_aNil ?_
    refine w_all (bs := ts.map fun t => (rowB t).isSome) (by simp only [getL, getLT, List.map_map]; rfl) ?_
    refine w_asB ?_
    rw [List.all_map]
    have ea : (ts.all (id ∘ fun t => (rowB t).isSome)) = (rowsT ts).isSome := (rowsT_some ts).symm
    rw [ea]
    cases q : rowsT ts with
    | none =>
      refine p_pos rfl ?_
      repeat walk_at "x"
      exact w_fin (Nat.le_refl _) (by unfold formB at h; rw [q] at h; exact h)
    | some nss =>
      refine p_neg (by simp) ?_
      refine ws_nil (ws_sSeq ?_)
      have e0 := rowsT_eq q
      subst e0
      have ef : formB (nss.map rowT) = heapB nss := by unfold formB; rw [q]
      rw [ef] at h
      have hit : getL u ν = some (nss.map rowW) := by rw [hu.it, List.map_map]; rfl
      refine look_ok (j := 1) (nss := nss) rfl (by decide) (by simp) hit (by simpa using hl) (fun hp e' hl' => ?_) fun hp => ?_
      · repeat walk_at "x"
        exact w_fin (Nat.le_refl _) (by rw [heapB_T hp] at h; exact h)
      · exact w_fin (Nat.le_refl _) (by rw [heapB_F hp] at h; exact h)
theorem has_form_ok {u : W} {ts : List T} (hu : IsL u μ ts) (ho : ts.all okE = true) (hl : ts.length ≤ 400) (h : Q (.t (.bl (formB ts))) μ) : Wp (F__law_has_form [u] μ) Q X := by
  refine w_run rfl ?_
  simp only [List.map_cons, List.map_nil, List.cons_append, List.nil_append, List.replicate, Nat.reduceSub]
  rw [m__law_has_form]
  refine ws_sSeq (ws_if (w_bNot (w_bOf (w_mA (w_aCons (w_var rfl (w_aCons (w_T (w_aNil (isi_L hu (w_asB ?_))))))))))) 
  refine p_iteNF (ws_nil ?_)
  refine ws_sSeq (ws_for (w_iVal (w_var rfl (w_kL hu.it (by simp [bigL]; omega) ?_))))
  refine w_loop (fun i e ν => ν = μ ∧ e[0]? = some (some u) ∧ e.length = 4 ∧ (ts.take i).all (fun t => (rowB t).isSome) = true) ⟨rfl, rfl, rfl, rfl⟩ (fun i e ν q => by rw [q.1]; exact hu.it) ?_ ?_
  · rintro i y e ν hy ⟨rfl, he, hl4, hin⟩
    rw [List.getElem?_map] at hy
    cases q : ts[i]? with
    | none => rw [q] at hy; cases hy
    | some t =>
      rw [q] at hy
      cases hy
      refine ⟨_, rfl, ?_⟩
      have v0 : (e.set 1 (some (W.t t)))[0]? = some (some u) := by rw [List.getElem?_set_ne (by decide)]; exact he
      have v1 : (e.set 1 (some (W.t t)))[1]? = some (some (.t t)) := List.getElem?_set_self (by omega)
      have hok := List.all_eq_true.mp ho t (List.mem_of_getElem? q)
      have good : (rowB t).isSome = true → (ts.take (i + 1)).all (fun t => (rowB t).isSome) = true := fun g => by
        rw [List.take_add_one, q, List.all_append, hin]; simp [g]
      have bad : (rowB t).isSome = false → formB ts = false := fun g => by
        have : (rowsT ts).isSome = false := by
          rw [rowsT_some]
          rw [List.all_eq_false]
          exact ⟨t, List.mem_of_getElem? q, by rw [g]; decide⟩
        unfold formB
        cases z : rowsT ts with
        | none => rfl
        | some _ => rw [z] at this; cases this
      refine ws_sSeq (ws_if (w_bOr (w_bNot (w_bOf (w_mA (w_aCons (w_var v1 (w_aCons (w_T (w_aNil ?_)))))))))) 
      cases t <;> first | (cases hok; done) | skip
      case tup us =>
        simp only [okE, Bool.and_eq_true, decide_eq_true_eq] at hok
        refine w_isi (r := true) (a := .b "tuple") (b := .b "tuple") rfl rfl rfl ?_
        refine w_asB (p_iteNF ?_)
        refine w_bNot (w_bOf (w_mA (w_aCons (lc_whole whole2_ok v1 (by simp; omega) hok.1 hok.2 (w_aNil (all_whole (w_asB ?_)))))))
        have er : (rowB (.tup us)).isSome = us.all intB := by rw [rowB, ints_isSome]
        rw [← er]
        cases g : (rowB (.tup us)).isSome with
        | true =>
          refine p_iteNF (ws_nil (ws_nil ⟨rfl, v0, by rw [List.length_set]; exact hl4, good g⟩))
        | false =>
          refine p_iteNT (ws_sSeq (ws_ret (w_T ?_)))
          exact w_fin (Nat.le_refl _) (by rw [bad g] at h; exact h)
      case lst us =>
        refine w_isi (r := false) (a := .b "list") (b := .b "tuple") rfl rfl rfl ?_
        refine w_asB (p_iteNT (p_iteT (ws_sSeq (ws_ret (w_T ?_)))))
        exact w_fin (Nat.le_refl _) (by rw [bad rfl] at h; exact h)
      case int x =>
        refine w_isi (r := false) (a := .b "int") (b := .b "tuple") rfl rfl rfl ?_
        refine w_asB (p_iteNT (p_iteT (ws_sSeq (ws_ret (w_T ?_)))))
        exact w_fin (Nat.le_refl _) (by rw [bad rfl] at h; exact h)
  · rintro e ν ⟨rfl, he, hl4, hin⟩
    simp only [List.length_map, List.take_length] at hin
    have hs : (rowsT ts).isSome = true := by rw [rowsT_some]; exact hin
    obtain ⟨nss, q⟩ := Option.isSome_iff_exists.mp hs
    have e0 := rowsT_eq q
    subst e0
    have ef : formB (nss.map rowT) = heapB nss := by unfold formB; rw [q]
    rw [ef] at h
    have hit : getL u ν = some (nss.map rowW) := by rw [hu.it, List.map_map]; rfl
    refine ws_sSeq (look_ok (j := 2) (nss := nss) he (by decide) (by omega) hit (by simpa using hl) (fun hp e' hl' => ?_) fun hp => ?_)
    · repeat walk_at "x"
      exact w_fin (Nat.le_refl _) (by rw [heapB_T hp] at h; exact h)
    · exact w_fin (Nat.le_refl _) (by rw [heapB_F hp] at h; exact h)
/-- what is no list has no form -/
theorem no_heap {t : T} {n : String} (h1 : tyT t = some (.b n)) (h2 : ktB (.b n) (.b "list") = some false) (h : Q (.t (.bl false)) μ) : Wp (F_is_heap [.t t] μ) Q X := by
  refine w_run rfl ?_
  simp only [List.map_cons, List.map_nil, List.cons_append, List.nil_append, List.replicate, Nat.reduceSub]
  rw [m_is_heap]
  refine ws_sSeq (ws_if (w_bOr (w_bNot (w_bOf (w_mA (w_aCons (w_var rfl (w_aCons (w_T (w_aNil (w_isiX h1 h2 (w_asB ?_))))))))))))
  refine p_iteNT (p_iteT (ws_sSeq (ws_ret (w_T ?_))))
  exact w_fin (Nat.le_refl _) h
theorem no_form {t : T} {n : String} (h1 : tyT t = some (.b n)) (h2 : ktB (.b n) (.b "list") = some false) (h : Q (.t (.bl false)) μ) : Wp (F__law_has_form [.t t] μ) Q X := by
  refine w_run rfl ?_
  simp only [List.map_cons, List.map_nil, List.cons_append, List.nil_append, List.replicate, Nat.reduceSub]
  rw [m__law_has_form]
  refine ws_sSeq (ws_if (w_bNot (w_bOf (w_mA (w_aCons (w_var rfl (w_aCons (w_T (w_aNil (w_isiX h1 h2 (w_asB ?_)))))))))))
  refine p_iteNT (ws_sSeq (ws_ret (w_T ?_)))
  exact w_fin (Nat.le_refl _) h
end
end HQ
namespace HQ
open PySem PySem.Spec PyProof.Rows L2
local macro_rules | `(tactic| walk_at "ix") => `(tactic| first | assumption | with_reducible exact atI_l0 | with_reducible exact atI_l1 | with_reducible exact atI_l2 | with_reducible exact atI_l3 | with_reducible exact atI_l4 | with_reducible exact atI_l5 | with_reducible exact atI_l6 | with_reducible exact atI_l7 | with_reducible exact atI_l8 | with_reducible exact atI_l9 | with_reducible exact atI_l10 | with_reducible exact atI_l11)
local macro_rules | `(tactic| walk_at "side") => `(tactic| first | omega | assumption | (simp only [bigL]; omega) | decide)
local macro_rules | `(tactic| walk_at "w") => `(tactic| first
  | with_reducible refine ws_sSeq ?_
  | ((with_reducible refine' w_var ?wv ?_); (case' wv => exact rfl))
  | with_reducible refine w_T ?_
  | with_reducible refine w_m2 ?_
  | with_reducible refine w_mA ?_
  | with_reducible refine w_aCons ?_
  | with_reducible refine w_aNil ?_
  | with_reducible refine ws_asgN ?_
  | with_reducible refine ws_ret ?_
  | with_reducible refine ws_if ?_
  | with_reducible refine w_bOf ?_
  | with_reducible refine w_asB ?_
  | with_reducible refine ws_nil ?_
  | with_reducible refine w_bNot ?_
  | with_reducible refine w_bAnd ?_
  | with_reducible refine w_bOr ?_
  | with_reducible refine w_andV ?_
  | with_reducible refine w_orV ?_
  | with_reducible refine w_notV ?_
  | with_reducible refine w_mChain ?_
  | with_reducible refine w_mIf ?_
  | with_reducible refine w_m1 ?_
  | with_reducible refine w_sub ?_
  | with_reducible refine w_addI ?_
  | with_reducible refine w_neg ?_
  | with_reducible refine w_gt ?_
  | with_reducible refine w_lt ?_
  | with_reducible refine w_ge ?_
  | with_reducible refine w_le ?_
  | with_reducible refine w_leS ?_
  | with_reducible refine w_isN ?_
  | with_reducible refine w_isNn ?_
  | with_reducible refine w_neI ?_
  | with_reducible refine w_neS ?_
  | with_reducible refine w_neB ?_
  | with_reducible refine w_eqI ?_
  | with_reducible refine w_eqS ?_
  | with_reducible refine w_eqB ?_
  | with_reducible refine w_max ?_
  | with_reducible refine w_min ?_
  | with_reducible refine w_intI ?_
  | with_reducible refine w_intB ?_
  | ((with_reducible refine w_mod ?wc ?_); (case' wc => walk_at "side"))
  | ((with_reducible refine w_div ?wc ?wd ?_); (case' wc => walk_at "side"); (case' wd => walk_at "side"))
  | ((with_reducible refine w_mulI ?wc ?_); (case' wc => exact cmul_of (by walk_at "side") (by walk_at "side")))
  | ((with_reducible refine w_pow ?wc ?_); (case' wc => decide))
  | with_reducible refine w_mTup ?_
  | with_reducible refine w_mLst ?_
  | with_reducible refine w_mSl ?_
  | with_reducible refine w_oNone ?_
  | with_reducible refine w_oSome ?_
  | with_reducible refine w_mM1 ?_
  | with_reducible refine w_mDic1 ?_
  | with_reducible refine w_mkLl ?_
  | ((with_reducible refine' w_mkL ?wc ?_); (case' wc => exact rfl))
  | with_reducible refine ws_retN ?_
  | with_reducible refine ws_cont ?_
  | with_reducible refine ws_brk ?_
  | with_reducible refine ws_ex ?_
  | with_reducible refine ws_asgT ?_
  | with_reducible refine ws_setL ?_
  | with_reducible refine ws_for ?_
  | with_reducible refine w_iVal ?_
  | with_reducible refine w_iR1 ?_
  | with_reducible refine w_iR2 ?_
  | with_reducible refine w_iEnu ?_
  | with_reducible refine w_mLc ?_
  | with_reducible refine w_bYes ?_
  | with_reducible refine p_iteT ?_
  | with_reducible refine p_iteF ?_
  | with_reducible refine p_iteNT ?_
  | with_reducible refine p_iteNF ?_
  | ((with_reducible refine And.intro ?wl ?_); (case' wl => first | exact Nat.le_of_ble_eq_true rfl))
  | ((with_reducible refine' w_isi (r := true) ?w1 ?w2 ?w3 ?_); (case' w1 => exact rfl); (case' w2 => exact rfl); (case' w3 => exact rfl))
  | ((with_reducible refine' w_isi (r := false) ?w1 ?w2 ?w3 ?_); (case' w1 => exact rfl); (case' w2 => exact rfl); (case' w3 => exact rfl))
  | ((with_reducible refine w_call ?wc ?_); (case' wc => exact rfl))
  | ((with_reducible refine' w_ix_L ?w1 ?w2 ?_); (case' w1 => first | assumption | with_reducible exact rfl); (case' w2 => walk_at "ix"))
  | ((with_reducible refine' w_ix_T ?w1 ?w2 ?_); (case' w1 => first | exact rfl | assumption); (case' w2 => walk_at "ix"))
  | ((with_reducible refine' w_len_L ?w1 ?_); (case' w1 => first | assumption | exact rfl))
  | ((with_reducible refine' w_len_T ?w1 ?_); (case' w1 => exact rfl))
  | ((with_reducible refine w_len_str ?wc ?_); (case' wc => walk_at "side"))
  | ((with_reducible refine w_kStr ?wc ?_); (case' wc => walk_at "side"))
  | ((with_reducible refine w_kEnuS ?wc ?_); (case' wc => walk_at "side"))
  | ((with_reducible refine w_strI ?wc ?_); (case' wc => walk_at "side"))
  | ((with_reducible refine w_addS ?wc ?_); (case' wc => walk_at "side")))
local macro_rules | `(tactic| walk_at "ne") => `(tactic| first | assumption | (apply Ne.symm; assumption) | omega | decide)
local macro_rules | `(tactic| walk_at "mem") => `(tactic| first
  | assumption
  | with_reducible exact at_new
  | ((with_reducible apply at_same); walk_at "mem")
  | ((with_reducible refine at_ne ?hne ?hat); (case' hne => walk_at "ne"); (case' hat => walk_at "mem"))
  | ((with_reducible apply at_app); walk_at "mem"))
local macro_rules | `(tactic| walk_at "x") => `(tactic| first
  | walk_at "w"
  | with_reducible refine w_mFld ?_
  | ((with_reducible refine' w_fFld ?w1 ?w2 ?w3 ?_); (case' w1 => (with_reducible apply insAt_at); walk_at "mem"); (case' w2 => exact rfl); (case' w3 => exact rfl))
  | with_reducible refine w_mMe ?_
  | with_reducible refine ws_setX ?_
  | with_reducible refine ws_set2 ?_
  | with_reducible refine ws_fldS ?_
  | with_reducible refine w_mBm ?_
  | ((with_reducible refine And.intro ?wl ?_); (case' wl => (with_reducible apply isLs_at); walk_at "mem"))
  | with_reducible refine w_iZp ?_
  | with_reducible refine w_dic0 ?_
  | with_reducible refine w_dic0l ?_
  | with_reducible refine w_ltR ?_
  | ((with_reducible refine w_mulXI ?wc ?_); (case' wc => exact cmul_of (by walk_at "side") (by walk_at "side")))
  | ((with_reducible refine' w_ix_L ?w1 ?w2 ?_); (case' w1 => (with_reducible apply getL_at); walk_at "mem"); (case' w2 => walk_at "ix"))
  | ((with_reducible refine' w_len_L ?w1 ?_); (case' w1 => (with_reducible apply getL_at); walk_at "mem")))
local macro_rules | `(tactic| walk_at "xd") => `(tactic| first | walk_at "x" | refine p_pos (by decide) ?_ | refine p_neg (by decide) ?_)
theorem okE_row {ns : List Int} (h : ns.length ≤ 600) : okE (rowT ns) = true := by
  simp only [rowT, okE, Bool.and_eq_true, decide_eq_true_eq, List.length_map]
  refine ⟨?_, h⟩
  rw [List.all_eq_true]
  intro t ht
  obtain ⟨i, _, rfl⟩ := List.mem_map.mp ht
  rfl
theorem okE_rows {A : List (List Int)} (h : ∀ r ∈ A, r.length ≤ 600) : (A.map rowT).all okE = true := by
  rw [List.all_eq_true]
  intro t ht
  obtain ⟨r, hr, rfl⟩ := List.mem_map.mp ht
  exact okE_row (h r hr)
theorem cutA_map {α β : Type} (f : α → β) (xs : List α) (lo hi : Option Int) : cutA (xs.map f) lo hi = (cutA xs lo hi).map f := by simp [cutA]
theorem cutA_mem {α : Type} {xs : List α} {lo hi : Option Int} {x : α} (h : x ∈ cutA xs lo hi) : x ∈ xs := List.mem_of_mem_drop (List.mem_of_mem_take h)
theorem cutA_len {α : Type} {xs : List α} {lo hi : Option Int} : (cutA xs lo hi).length ≤ xs.length := by simp [cutA]; omega
theorem toTs_rows (A : List (List Int)) : toTs (A.map rowW) = some (A.map rowT) := by
  rw [← toTs_map, List.map_map]; rfl
theorem rows_T (A : List (List Int)) : (A.map rowT).map W.t = A.map rowW := by rw [List.map_map]; rfl
theorem getLT_rows {μ : Mem} (A : List (List Int)) : getLT (.t (.lst (A.map rowT))) μ = some (A.map rowW) := by
  show some ((A.map rowT).map W.t) = _
  rw [rows_T]
theorem atI_lt {α : Type} {xs : List α} {d : Int} (h0 : 0 ≤ d) (h1 : d < xs.length) : ∃ c, atI xs d = some c ∧ xs[d.toNat]? = some c := by
  obtain ⟨j, rfl⟩ := Int.eq_ofNat_of_zero_le h0
  have hj : j < xs.length := by omega
  exact ⟨xs[j], atI_nat (List.getElem?_eq_getElem hj), List.getElem?_eq_getElem hj⟩
theorem ix_T {ts : List T} {d : Int} (h0 : 0 ≤ d) (h1 : d < ts.length) : ∃ t ∈ ts, atI (ts.map W.t) d = some (W.t t) := by
  obtain ⟨j, rfl⟩ := Int.eq_ofNat_of_zero_le h0
  have hj : j < ts.length := by omega
  exact ⟨ts[j], List.getElem_mem hj, atI_nat (by rw [List.getElem?_map, List.getElem?_eq_getElem hj]; rfl)⟩
/-- what is looked at: a list, or what is none -/
def Thing (t : T) : Prop := (∃ ts, t = .lst ts ∧ ts.all okE = true ∧ ts.length ≤ 400) ∨ ∃ n, tyT t = some (.b n) ∧ ktB (.b n) (.b "list") = some false
section
variable {μ : Mem} {Q : W → Mem → Prop} {X : XV → Mem → Prop}
theorem other_ok {n m M L : Nat} {s : Bx} {A : List (List Int)} (hs : μ[n]? = some s.o) (ok : s.Ok M) (hM : M < 2 ^ 80) (hm : μ[m]? = some (.lst (A.map rowW))) (hne : m ≠ n) (c : Clean μ) (hl : A.length ≤ 100) (hb : ∀ r ∈ A, r.length ≤ L) (hL : L ≤ 400)
    (hT : ∀ (t : T) (s : Bx), s.Ok (M + 60) → Thing t → Q (.t t) (μ.set n s.o)) (hR : ∀ (ts : List T) (s : Bx), s.Ok (M + 60) → ts.all okE = true → ts.length ≤ 400 → Q (.ref μ.length) (μ.set n s.o ++ [.lst (ts.map .t)])) :
    Wp (F__law_other [.ref n, .ref m] μ) Q X := by
  have ln := at_lt hs
  have lm := at_lt hm
  have cl : ∀ s : Bx, Clean (μ.set n s.o) := fun s => c.set rfl
  have a1 : ∀ (s : Bx) (x : List W), (μ.set n s.o ++ [O.lst x])[n]? = some s.o := fun s x => at_app (at_same hs)
  have a2 : ∀ (s : Bx) (x : List W), (μ.set n s.o ++ [O.lst x])[m]? = some (.lst (A.map rowW)) := fun s x => at_app (at_ne hne hm)
  have a3 : ∀ (s : Bx) (x : List W), (μ.set n s.o ++ [O.lst x])[μ.length]? = some (.lst x) := fun s x => by
    rw [List.getElem?_append_right (by simp)]; simp
  have s1 : ∀ (s s' : Bx) (x : List W), (μ.set n s.o ++ [O.lst x]).set n s'.o = μ.set n s'.o ++ [O.lst x] := fun s s' x => by
    rw [List.set_append_left _ _ (by simpa using ln), List.set_set]
  have s2 : ∀ (s : Bx) (x y : List W), (μ.set n s.o ++ [O.lst x]).set μ.length (O.lst y) = μ.set n s.o ++ [O.lst y] := fun s x y => by
    rw [List.set_append_right _ _ (by simp)]; simp
  have tk : ∀ (s : Bx) (x : List W), (μ.set n s.o ++ [O.lst x]).take μ.length = μ.set n s.o := fun s x => by
    have := List.take_left (l₁ := μ.set n s.o) (l₂ := [O.lst x])
    rwa [List.length_set] at this
  have endT : ∀ (t : T) (s : Bx) (x : List W), s.Ok (M + 60) → Thing t → Wp (fin μ.length (.t t) (μ.set n s.o ++ [O.lst x])) Q X := fun t s x ok h =>
    w_fin_drop' (by simp) (tk s x) (cl s) rfl (hT t s ok h)
  have endR : ∀ (ts : List T) (s : Bx), s.Ok (M + 60) → ts.all okE = true → ts.length ≤ 400 → Wp (fin μ.length (.ref μ.length) (μ.set n s.o ++ [O.lst (ts.map .t)])) Q X := fun ts s ok h1 h2 =>
    w_fin_keep (by simp) (tk s _) (cl s) (Nat.le_refl _) (a3 s _) (cleanWs_T _) (hR ts s ok h1 h2)
  have oA : (A.map rowT).all okE = true := okE_rows fun r hr => Nat.le_trans (hb r hr) (by omega)
  refine w_run rfl ?_
  simp only [List.map_cons, List.map_nil, List.cons_append, List.nil_append, List.replicate, Nat.reduceSub]
  rw [m__law_other]
  repeat walk_at "x"
  refine w_call rfl (take_ok hs ok (by omega) (by decide) (by decide) fun d s1' d0 d1 ok1 => ?_)
  repeat walk_at "x"
  refine w_listL (getL_at (at_ne hne hm)) ?_
  repeat walk_at "x"
  rw [List.length_set]
  try (refine w_len_L (getL_at (a2 s1' _)) ?_)
  repeat walk_at "x"
  try rw [List.length_map]
  refine w_call rfl (take_ok (a1 s1' _) ok1 (by omega) (by omega) (by omega) fun at_ s2' t0 t1 ok2 => ?_)
  rw [s1]
  have hd : d = 0 ∨ d = 1 ∨ d = 2 ∨ d = 3 ∨ d = 4 ∨ d = 5 ∨ d = 6 := by omega
  rcases hd with rfl | rfl | rfl | rfl | rfl | rfl | rfl
  · repeat walk_at "xd"
    refine w_ne (eqW_rows (rowsL_at (a2 s2' _)) rowsL_nil) ?_
    repeat walk_at "x"
    refine p_ND (fun hc => ?_) (fun hc => ?_)
    · have hpos : 0 < A.length := by
        cases A with
        | nil => exact absurd rfl hc
        | cons => simp
      repeat walk_at "x"
      try (refine w_len_L (getL_at (a2 s2' _)) ?_)
      repeat walk_at "x"
      try rw [List.length_map]
      refine w_call rfl (take_ok (a1 s2' _) ok2 (by omega) (by omega) (by omega) fun to s3' u0 u1 ok3 => ?_)
      rw [s1]
      obtain ⟨j, rfl⟩ := Int.eq_ofNat_of_zero_le u0
      have hj : j < A.length := by omega
      have zj := List.getElem?_eq_getElem hj
      obtain ⟨i, hi⟩ := Int.eq_ofNat_of_zero_le (Int.emod_nonneg at_ (show (A.length : Int) ≠ 0 by omega))
      have hi2 : i < A.length := by
        have := Int.emod_lt_of_pos at_ (show (0 : Int) < A.length by omega)
        omega
      have zi := List.getElem?_eq_getElem hi2
      repeat walk_at "x"
      refine w_ix_L (getL_at (a2 s3' _)) (atI_row zj) ?_
      repeat walk_at "x"
      try (refine w_len_L (getL_at (a2 s3' _)) ?_)
      repeat walk_at "x"
      try rw [List.length_map]
      refine w_mod (by omega) ?_
      rw [hi]
      refine ⟨_, setX_at (a3 s3' _) (ixN_row zi), ?_⟩
      rw [s2]
      repeat walk_at "x"
      try (refine w_len_L (getL_at (a2 s3' _)) ?_)
      repeat walk_at "x"
      try rw [List.length_map]
      refine w_mod (by omega) ?_
      rw [hi]
      refine w_ix_L (getL_at (a2 s3' _)) (atI_row zi) ?_
      repeat walk_at "x"
      refine ⟨_, setX_at (a3 s3' _) (by rw [List.length_set]; exact ixN_row zj), ?_⟩
      rw [s2]
      repeat walk_at "xd"
      have e : ((A.map rowW).set i (rowW A[j])).set j (rowW A[i]) = ((HP.swp A i j A[i] A[j]).map rowT).map W.t := by
        rw [rows_T]; simp only [HP.swp, List.map_set]
      rw [e]
      have pm := HP.swp_perm zi zj
      exact endR _ _ (ok3.mono (by omega)) (okE_rows fun r hr => Nat.le_trans (hb r (pm.mem_iff.mp hr)) (by omega)) (by rw [List.length_map, HP.swp_len]; omega)
    · repeat walk_at "xd"
      rw [← rows_T]
      exact endR _ _ (ok2.mono (by omega)) oA (by simp; omega)
  · repeat walk_at "xd"
    refine ⟨_, rfl, ?_⟩
    refine w_slL (getL_at (a2 s2' _)) ?_
    rw [cutA_map]
    refine w_mkL (toTs_rows _) ?_
    repeat walk_at "x"
    refine w_call rfl (row_ok (a1 s2' _) ok2 (by omega) (a2 s2' _) hne (by omega) hb (by omega) fun ns s3' hns ok3 => ?_)
    rw [s1]
    repeat walk_at "x"
    try (refine w_mkL (ts := [rowT ns]) rfl ?_)
    refine w_addLL (xs := (cutA A none (some at_)).map rowW) (ys := [rowW ns]) (getLT_rows _) rfl (by have := cutA_len (xs := A) (lo := none) (hi := some at_); simp [bigL]; omega) ?_
    have e1 : (cutA A none (some at_)).map rowW ++ [rowW ns] = (cutA A none (some at_) ++ [ns]).map rowW := by simp
    rw [e1]
    refine w_mkL (toTs_rows _) ?_
    repeat walk_at "x"
    refine ⟨_, rfl, ?_⟩
    refine w_slL (getL_at (a2 s3' _)) ?_
    rw [cutA_map]
    refine w_mkL (toTs_rows _) ?_
    refine w_addLL (xs := (cutA A none (some at_) ++ [ns]).map rowW) (ys := (cutA A (some (at_ + 1)) none).map rowW) (getLT_rows _) (getLT_rows _) (by
      have := cutA_len (xs := A) (lo := none) (hi := some at_)
      have := cutA_len (xs := A) (lo := some (at_ + 1)) (hi := none)
      simp [bigL]; omega) ?_
    rw [← List.map_append]
    refine w_mkL (toTs_rows _) ?_
    repeat walk_at "xd"
    refine endT _ _ _ (ok3.mono (by omega)) (.inl ⟨_, rfl, okE_rows fun r hr => ?_, ?_⟩)
    · rcases List.mem_append.mp hr with hr | hr
      · rcases List.mem_append.mp hr with hr | hr
        · exact Nat.le_trans (hb r (cutA_mem hr)) (by omega)
        · simp at hr; subst hr; omega
      · exact Nat.le_trans (hb r (cutA_mem hr)) (by omega)
    · have := cutA_len (xs := A) (lo := none) (hi := some at_)
      have := cutA_len (xs := A) (lo := some (at_ + 1)) (hi := none)
      simp; omega
  · repeat walk_at "xd"
    refine ⟨isLs_at (a3 s2' _), ?_⟩
    repeat walk_at "x"
    refine w_call rfl (row_ok (a1 s2' _) ok2 (by omega) (a2 s2' _) hne (by omega) hb (by omega) fun ns s3' hns ok3 => ?_)
    rw [s1]
    repeat walk_at "x"
    refine w_app (a3 s3' _) (by simp [bigL]; omega) ?_
    rw [s2]
    repeat walk_at "xd"
    have e1 : A.map rowW ++ [rowW ns] = ((A ++ [ns]).map rowT).map W.t := by rw [rows_T]; simp
    rw [e1]
    refine endR _ _ (ok3.mono (by omega)) (okE_rows fun r hr => ?_) (by simp; omega)
    rcases List.mem_append.mp hr with hr | hr
    · exact Nat.le_trans (hb r hr) (by omega)
    · simp at hr; subst hr; omega
  · repeat walk_at "xd"
    refine ⟨_, rfl, ?_⟩
    refine w_slL (getL_at (a2 s2' _)) ?_
    rw [cutA_map]
    refine w_mkL (toTs_rows _) ?_
    repeat walk_at "x"
    refine w_call rfl (take_ok (a1 s2' _) ok2 (by omega) (by decide) (by decide) fun o s3' o0 o1 ok3 => ?_)
    rw [s1]
    obtain ⟨t, ht, e0⟩ := ix_T (ts := [.lst [.int 0], .tup [.bl true], .tup [.int 0, .non], .int 0, .tup [.str "0"]]) o0 o1
    have okt : okE t = true := by
      simp only [List.mem_cons, List.not_mem_nil, or_false] at ht
      rcases ht with rfl | rfl | rfl | rfl | rfl <;> rfl
    refine w_ix_L (ws := [.t (.lst [.int 0]), .t (.tup [.bl true]), .t (.tup [.int 0, .non]), .t (.int 0), .t (.tup [.str "0"])]) rfl e0 ?_
    repeat walk_at "x"
    try (refine w_mkL (ts := [t]) rfl ?_)
    refine w_addLL (xs := ((cutA A none (some at_)).map rowT).map W.t) (ys := [.t t]) rfl rfl (by have := cutA_len (xs := A) (lo := none) (hi := some at_); simp [bigL]; omega) ?_
    have e1 : ((cutA A none (some at_)).map rowT).map W.t ++ [.t t] = ((cutA A none (some at_)).map rowT ++ [t]).map W.t := by simp
    rw [e1]
    refine w_mkL (toTs_map _) ?_
    repeat walk_at "x"
    refine ⟨_, rfl, ?_⟩
    refine w_slL (getL_at (a2 s3' _)) ?_
    rw [cutA_map]
    refine w_mkL (toTs_rows _) ?_
    refine w_addLL (xs := ((cutA A none (some at_)).map rowT ++ [t]).map W.t) (ys := ((cutA A (some at_) none).map rowT).map W.t) rfl rfl (by
      have := cutA_len (xs := A) (lo := none) (hi := some at_)
      have := cutA_len (xs := A) (lo := some at_) (hi := none)
      simp [bigL]; omega) ?_
    rw [← List.map_append]
    refine w_mkL (toTs_map _) ?_
    repeat walk_at "xd"
    refine endT _ _ _ (ok3.mono (by omega)) (.inl ⟨_, rfl, ?_, ?_⟩)
    · rw [List.all_append, List.all_append]
      simp only [Bool.and_eq_true]
      refine ⟨⟨okE_rows fun r hr => Nat.le_trans (hb r (cutA_mem hr)) (by omega), by simp [okt]⟩, okE_rows fun r hr => Nat.le_trans (hb r (cutA_mem hr)) (by omega)⟩
    · have := cutA_len (xs := A) (lo := none) (hi := some at_)
      have := cutA_len (xs := A) (lo := some at_) (hi := none)
      simp; omega
  · repeat walk_at "xd"
    refine w_tupleL (getL_at (a2 s2' _)) ?_
    have ep : mkPT (A.map rowW) = .t (.ptup (A.map rowT)) := by simp only [mkPT, toTs_rows]
    rw [ep]
    repeat walk_at "x"
    try (refine w_mkL (ts := [.ptup (A.map rowT), .non, .int 7, .str "rows", .dic [] []]) rfl ?_)
    repeat walk_at "x"
    refine w_call rfl (take_ok (a1 s2' _) ok2 (by omega) (by decide) (by decide) fun o s3' o0 o1 ok3 => ?_)
    rw [s1]
    obtain ⟨t, ht, e0⟩ := ix_T (ts := [.ptup (A.map rowT), .non, .int 7, .str "rows", .dic [] []]) o0 o1
    refine w_ix_L (ws := [.t (.ptup (A.map rowT)), .t .non, .t (.int 7), .t (.str "rows"), .t (.dic [] [])]) rfl e0 ?_
    refine endT _ _ _ (ok3.mono (by omega)) (.inr ?_)
    simp only [List.mem_cons, List.not_mem_nil, or_false] at ht
    rcases ht with rfl | rfl | rfl | rfl | rfl
    · exact ⟨"tuple", rfl, rfl⟩
    · exact ⟨"NoneType", rfl, rfl⟩
    · exact ⟨"int", rfl, rfl⟩
    · exact ⟨"str", rfl, rfl⟩
    · exact ⟨"dict", rfl, rfl⟩
  all_goals
    repeat walk_at "xd"
    rw [← rows_T]
    exact endR _ _ (ok2.mono (by omega)) oA (by simp; omega)
end
end HQ
namespace HQ
open PySem PySem.Spec PyProof.Rows L2
local macro_rules | `(tactic| walk_at "ix") => `(tactic| first | assumption | with_reducible exact atI_l0 | with_reducible exact atI_l1 | with_reducible exact atI_l2 | with_reducible exact atI_l3 | with_reducible exact atI_l4 | with_reducible exact atI_l5 | with_reducible exact atI_l6 | with_reducible exact atI_l7 | with_reducible exact atI_l8 | with_reducible exact atI_l9 | with_reducible exact atI_l10 | with_reducible exact atI_l11)
local macro_rules | `(tactic| walk_at "side") => `(tactic| first | omega | assumption | (simp only [bigL]; omega) | decide)
local macro_rules | `(tactic| walk_at "w") => `(tactic| first
  | with_reducible refine ws_sSeq ?_
  | ((with_reducible refine' w_var ?wv ?_); (case' wv => exact rfl))
  | with_reducible refine w_T ?_
  | with_reducible refine w_m2 ?_
  | with_reducible refine w_mA ?_
  | with_reducible refine w_aCons ?_
  | with_reducible refine w_aNil ?_
  | with_reducible refine ws_asgN ?_
  | with_reducible refine ws_ret ?_
  | with_reducible refine ws_if ?_
  | with_reducible refine w_bOf ?_
  | with_reducible refine w_asB ?_
  | with_reducible refine ws_nil ?_
  | with_reducible refine w_bNot ?_
  | with_reducible refine w_bAnd ?_
  | with_reducible refine w_bOr ?_
  | with_reducible refine w_andV ?_
  | with_reducible refine w_orV ?_
  | with_reducible refine w_notV ?_
  | with_reducible refine w_mChain ?_
  | with_reducible refine w_mIf ?_
  | with_reducible refine w_m1 ?_
  | with_reducible refine w_sub ?_
  | with_reducible refine w_addI ?_
  | with_reducible refine w_neg ?_
  | with_reducible refine w_gt ?_
  | with_reducible refine w_lt ?_
  | with_reducible refine w_ge ?_
  | with_reducible refine w_le ?_
  | with_reducible refine w_leS ?_
  | with_reducible refine w_isN ?_
  | with_reducible refine w_isNn ?_
  | with_reducible refine w_neI ?_
  | with_reducible refine w_neS ?_
  | with_reducible refine w_neB ?_
  | with_reducible refine w_eqI ?_
  | with_reducible refine w_eqS ?_
  | with_reducible refine w_eqB ?_
  | with_reducible refine w_max ?_
  | with_reducible refine w_min ?_
  | with_reducible refine w_intI ?_
  | with_reducible refine w_intB ?_
  | ((with_reducible refine w_mod ?wc ?_); (case' wc => walk_at "side"))
  | ((with_reducible refine w_div ?wc ?wd ?_); (case' wc => walk_at "side"); (case' wd => walk_at "side"))
  | ((with_reducible refine w_mulI ?wc ?_); (case' wc => exact cmul_of (by walk_at "side") (by walk_at "side")))
  | ((with_reducible refine w_pow ?wc ?_); (case' wc => decide))
  | with_reducible refine w_mTup ?_
  | with_reducible refine w_mLst ?_
  | with_reducible refine w_mSl ?_
  | with_reducible refine w_oNone ?_
  | with_reducible refine w_oSome ?_
  | with_reducible refine w_mM1 ?_
  | with_reducible refine w_mDic1 ?_
  | with_reducible refine w_mkLl ?_
  | ((with_reducible refine' w_mkL ?wc ?_); (case' wc => exact rfl))
  | with_reducible refine ws_retN ?_
  | with_reducible refine ws_cont ?_
  | with_reducible refine ws_brk ?_
  | with_reducible refine ws_ex ?_
  | with_reducible refine ws_asgT ?_
  | with_reducible refine ws_setL ?_
  | with_reducible refine ws_for ?_
  | with_reducible refine w_iVal ?_
  | with_reducible refine w_iR1 ?_
  | with_reducible refine w_iR2 ?_
  | with_reducible refine w_iEnu ?_
  | with_reducible refine w_mLc ?_
  | with_reducible refine w_bYes ?_
  | with_reducible refine p_iteT ?_
  | with_reducible refine p_iteF ?_
  | with_reducible refine p_iteNT ?_
  | with_reducible refine p_iteNF ?_
  | ((with_reducible refine And.intro ?wl ?_); (case' wl => first | exact Nat.le_of_ble_eq_true rfl))
  | ((with_reducible refine' w_isi (r := true) ?w1 ?w2 ?w3 ?_); (case' w1 => exact rfl); (case' w2 => exact rfl); (case' w3 => exact rfl))
  | ((with_reducible refine' w_isi (r := false) ?w1 ?w2 ?w3 ?_); (case' w1 => exact rfl); (case' w2 => exact rfl); (case' w3 => exact rfl))
  | ((with_reducible refine w_call ?wc ?_); (case' wc => exact rfl))
  | ((with_reducible refine' w_ix_L ?w1 ?w2 ?_); (case' w1 => first | assumption | with_reducible exact rfl); (case' w2 => walk_at "ix"))
  | ((with_reducible refine' w_ix_T ?w1 ?w2 ?_); (case' w1 => first | exact rfl | assumption); (case' w2 => walk_at "ix"))
  | ((with_reducible refine' w_len_L ?w1 ?_); (case' w1 => first | assumption | exact rfl))
  | ((with_reducible refine' w_len_T ?w1 ?_); (case' w1 => exact rfl))
  | ((with_reducible refine w_len_str ?wc ?_); (case' wc => walk_at "side"))
  | ((with_reducible refine w_kStr ?wc ?_); (case' wc => walk_at "side"))
  | ((with_reducible refine w_kEnuS ?wc ?_); (case' wc => walk_at "side"))
  | ((with_reducible refine w_strI ?wc ?_); (case' wc => walk_at "side"))
  | ((with_reducible refine w_addS ?wc ?_); (case' wc => walk_at "side")))
local macro_rules | `(tactic| walk_at "ne") => `(tactic| first | assumption | (apply Ne.symm; assumption) | omega | decide)
local macro_rules | `(tactic| walk_at "mem") => `(tactic| first
  | assumption
  | with_reducible exact at_new
  | ((with_reducible apply at_same); walk_at "mem")
  | ((with_reducible refine at_ne ?hne ?hat); (case' hne => walk_at "ne"); (case' hat => walk_at "mem"))
  | ((with_reducible apply at_app); walk_at "mem"))
local macro_rules | `(tactic| walk_at "x") => `(tactic| first
  | walk_at "w"
  | with_reducible refine w_mFld ?_
  | ((with_reducible refine' w_fFld ?w1 ?w2 ?w3 ?_); (case' w1 => (with_reducible apply insAt_at); walk_at "mem"); (case' w2 => exact rfl); (case' w3 => exact rfl))
  | with_reducible refine w_mMe ?_
  | with_reducible refine ws_setX ?_
  | with_reducible refine ws_set2 ?_
  | with_reducible refine ws_fldS ?_
  | with_reducible refine w_mBm ?_
  | ((with_reducible refine And.intro ?wl ?_); (case' wl => (with_reducible apply isLs_at); walk_at "mem"))
  | with_reducible refine w_iZp ?_
  | with_reducible refine w_dic0 ?_
  | with_reducible refine w_dic0l ?_
  | with_reducible refine w_ltR ?_
  | ((with_reducible refine w_mulXI ?wc ?_); (case' wc => exact cmul_of (by walk_at "side") (by walk_at "side")))
  | ((with_reducible refine' w_ix_L ?w1 ?w2 ?_); (case' w1 => (with_reducible apply getL_at); walk_at "mem"); (case' w2 => walk_at "ix"))
  | ((with_reducible refine' w_len_L ?w1 ?_); (case' w1 => (with_reducible apply getL_at); walk_at "mem")))
theorem HeapAt.app {μ ν : Mem} {h k : Nat} {A : List (List Int)} (a : HeapAt μ h k A) : HeapAt (μ ++ ν) h k A := ⟨at_app a.ob, at_app a.ls, a.ne⟩
theorem HeapAt.oth {μ : Mem} {h k n : Nat} {A : List (List Int)} {o : O} (a : HeapAt μ h k A) (h1 : h ≠ n) (h2 : k ≠ n) : HeapAt (μ.set n o) h k A := ⟨at_ne h1 a.ob, at_ne h2 a.ls, a.ne⟩
theorem intsT_some (ns : List Int) : formB ([] : List T) = true := by
  have e : formB ([] : List T) = heapB [] := rfl
  rw [e, heapB_T (fun k a b _ h => by simp at h)]
theorem formB_rows (A : List (List Int)) : formB (A.map rowT) = heapB A := by
  unfold formB
  rw [rowsT_map]
section
variable {μ : Mem} {h k p : Nat} {A K : List (List Int)} {Q : W → Mem → Prop} {X : XV → Mem → Prop}
theorem rows_ok (a : HeapAt μ h k A) (c : Clean μ) (q : Q (.ref μ.length) (μ ++ [.lst (A.map rowW)])) : Wp (F_Heap_rows [.ref h] μ) Q X := by
  have a1 := a.ob
  have a2 := a.ls
  refine w_run rfl ?_
  simp only [List.map_cons, List.map_nil, List.cons_append, List.nil_append, List.replicate, Nat.reduceSub]
  rw [m_Heap_rows]
  repeat walk_at "x"
  refine w_listL (getL_at a2) ?_
  repeat walk_at "x"
  exact w_fin_keep rfl (by simp) c (Nat.le_refl _) at_new (clean_rows A) q
theorem told_ok (a : HeapAt μ h k A) (hp : HP.Heap HT.lexLt A) (hk : μ[p]? = some (.lst (K.map rowW))) (pm : K.Perm A) (so : K.Pairwise fun a b => HT.lexLt b a = false) (c : Clean μ) (hl : A.length ≤ 100) (hb : ∀ r ∈ A, r.length ≤ 600) (q : Q (.t (.bl true)) μ) :
    Wp (F__law_told [.ref h, .ref p] μ) Q X := by
  have a1 := a.ob
  have eK : sortN A = K := sorted_uniq (sortN_sorted A) so ((sortN_perm A).trans pm.symm)
  have lK : K.length = A.length := pm.length_eq
  refine w_run rfl ?_
  simp only [List.map_cons, List.map_nil, List.cons_append, List.nil_append, List.replicate, Nat.reduceSub]
  rw [m__law_told]
  repeat walk_at "x"
  refine ⟨0, _, _, _, insAt_at a1, rfl, rfl, ?_⟩
  repeat walk_at "x"
  refine w_call rfl (rows_ok a c ?_)
  have b : HeapAt (μ ++ [.lst (A.map rowW)]) h k A := a.app
  have bk : (μ ++ [.lst (A.map rowW)])[p]? = some (.lst (K.map rowW)) := at_app hk
  have bf : (μ ++ [.lst (A.map rowW)])[μ.length]? = some (.lst (A.map rowW)) := at_new
  have many : ∀ {ν : Mem} {Q : W → Mem → Prop}, HeapAt ν h k A → Q (.t (.int A.length)) ν → Wp (mMe "many" (tbM [(0, callF F_Heap_many 1 [] false)]) (mVar 0) aNil [some (W.ref h), some (W.ref p), some (.ref μ.length)] ν) Q X := fun {ν Q} b q => by
    refine w_mMe (w_var rfl ⟨0, _, _, _, insAt_at b.ob, rfl, rfl, w_aNil (w_call rfl (many_ok b q))⟩)
  repeat walk_at "x"
  refine w_call rfl (has_form_ok (ts := A.map rowT) (isL_ref (by rw [rows_T]; exact bf)) (okE_rows hb) (by simp; omega) ?_)
  rw [formB_rows, heapB_T hp]
  repeat walk_at "x"
  refine w_sortN (getL_at bf) ?_
  refine w_mkL (toTs_rows _) ?_
  repeat walk_at "x"
  refine w_ne (eqW_rows (rowsL_T _) (rowsL_at bk)) ?_
  rw [eK]
  refine w_asB (p_neg (by simp) ?_)
  refine w_bOr (w_bNot (w_bOf (w_mA (w_aCons (many b ?_)))))
  refine w_aNil (w_pure (ts := [.int A.length]) rfl rfl (whole2_ok rfl) ?_)
  refine w_asB (p_neg (by simp [intB]) ?_)
  refine w_bOf (w_m2 (many b ?_))
  refine w_mA (w_aCons (w_var rfl (w_aNil (w_len_L (getL_at bk) ?_))))
  rw [List.length_map, lK]
  refine w_neI (w_asB (p_neg (by simp) ?_))
  refine ws_nil (ws_sSeq (ws_ex (w_mBm (w_var rfl ⟨isLs_at bf, ?_⟩))))
  refine w_aCons (w_mTup (w_aCons (w_T (w_aNil ⟨by decide, ?_⟩))))
  refine w_aNil (w_app bf (by simp [bigL]; omega) ?_)
  have e : (μ ++ [O.lst (A.map rowW)]).set μ.length (O.lst (A.map rowW ++ [mkTup [.t (.int 0)]])) = μ ++ [O.lst (A.map rowW ++ [mkTup [.t (.int 0)]])] := by
    rw [List.set_append_right _ _ (Nat.le_refl _)]; simp
  rw [e]
  have d : HeapAt (μ ++ [.lst (A.map rowW ++ [mkTup [.t (.int 0)]])]) h k A := a.app
  refine ws_sSeq (ws_ret (w_m2 (many d ?_)))
  refine w_mA (w_aCons (w_var rfl (w_aNil (w_len_L (getL_at (at_app hk)) ?_))))
  rw [List.length_map, lK]
  refine w_eqI ?_
  rw [decide_eq_true rfl]
  exact w_fin_drop (by simp) c rfl q
theorem taken_nil (a : HeapAt μ h k []) (hk : μ[p]? = some (.lst [])) (q : Q (.t (.bl true)) μ) : Wp (F__law_taken [.ref h, .ref p] μ) Q X := by
  have a1 := a.ob
  refine w_run rfl ?_
  simp only [List.map_cons, List.map_nil, List.cons_append, List.nil_append, List.replicate, Nat.reduceSub]
  rw [m__law_taken]
  repeat walk_at "x"
  refine ⟨0, _, _, _, insAt_at a1, rfl, rfl, ?_⟩
  repeat walk_at "x"
  refine w_call rfl (take_nil a ?_)
  repeat walk_at "x"
  refine w_eq (eqW_rows (a := []) (rowsL_at (nss := []) hk) rowsL_nil) ?_
  repeat walk_at "x"
  refine p_pos (by simp) ?_
  repeat walk_at "x"
  exact w_fin (Nat.le_refl _) q
theorem taken_cons {x : List Int} {R : List (List Int)} (a : HeapAt μ h k (x :: R)) (hp : HP.Heap HT.lexLt (x :: R)) (hl : R.length ≤ 199) (hk : μ[p]? = some (.lst (K.map rowW))) (h1 : p ≠ h) (h2 : p ≠ k) (pm : K.Perm (x :: R)) (so : K.Pairwise fun a b => HT.lexLt b a = false)
    (q : ∀ (B K' : List (List Int)), K = x :: K' → K'.Perm B → B.Perm R → HP.Heap HT.lexLt B → K'.Pairwise (fun a b => HT.lexLt b a = false) → Q (.t (.bl true)) ((μ.set k (.lst (B.map rowW))).set p (.lst (K'.map rowW)))) : Wp (F__law_taken [.ref h, .ref p] μ) Q X := by
  have a1 := a.ob
  obtain ⟨m, K', rfl⟩ : ∃ m K', K = m :: K' := by
    cases K with
    | nil => exact absurd pm (by simp)
    | cons m K' => exact ⟨m, K', rfl⟩
  have em : m = x := by
    have hmin := HP.heap_min ordN lex_refl hp (m := x) rfl
    obtain ⟨i, hi⟩ := List.mem_iff_getElem?.mp (pm.mem_iff.mp (List.mem_cons_self (a := m) (l := K')))
    have g1 := hmin i m hi
    have hx : x ∈ m :: K' := pm.mem_iff.mpr List.mem_cons_self
    rcases List.mem_cons.mp hx with z | z
    · exact z.symm
    · exact lex_tot _ _ g1 ((List.pairwise_cons.mp so).1 _ z)
  subst em
  have pm' : K'.Perm R := (List.perm_cons _).mp pm
  refine w_run rfl ?_
  simp only [List.map_cons, List.map_nil, List.cons_append, List.nil_append, List.replicate, Nat.reduceSub]
  rw [m__law_taken]
  repeat walk_at "x"
  refine ⟨0, _, _, _, insAt_at a1, rfl, rfl, ?_⟩
  repeat walk_at "x"
  refine w_call rfl (take_cons a hp hl fun B pB hB => ?_)
  have hk' : (μ.set k (.lst (B.map rowW)))[p]? = some (.lst (((m :: K').map rowW))) := at_ne h2 hk
  repeat walk_at "x"
  refine w_eq (eqW_rows (rowsL_at hk') rowsL_nil) ?_
  repeat walk_at "x"
  refine p_neg (by simp) ?_
  repeat walk_at "x"
  refine w_pop0 hk' ?_
  refine w_eq eqW_row ?_
  rw [decide_eq_true rfl]
  exact w_fin (by simp) (q B K' rfl (pm'.trans pB.symm) pB hB (List.pairwise_cons.mp so).2)
/-- a new heap -/
theorem init_ok (q : Q (.t .non) (μ ++ [.ins 0 ["kept"] [.ref (μ.length + 1)], .lst []])) : Wp (F_Heap_init [.ref μ.length] (μ ++ [.ins 0 [] []])) Q X := by
  refine w_run rfl ?_
  simp only [List.map_cons, List.map_nil, List.cons_append, List.nil_append, List.replicate, Nat.reduceSub]
  rw [m_Heap_init]
  repeat walk_at "x"
  have h1 : (μ ++ [.ins 0 [] []] ++ [.lst []])[μ.length]? = some (.ins 0 [] []) := at_app at_new
  refine ⟨μ.length, 0, [], [], rfl, h1, ⟨rfl, by decide⟩, ?_⟩
  repeat walk_at "x"
  have e : ((μ ++ [O.ins 0 [] []] ++ [O.lst []]).set μ.length (O.ins 0 (putW "kept" (.ref (μ ++ [O.ins 0 [] []]).length) [] []).1 (putW "kept" (.ref (μ ++ [O.ins 0 [] []]).length) [] []).2)) = μ ++ [O.ins 0 ["kept"] [.ref (μ.length + 1)], .lst []] := by
    simp [putW, List.append_assoc]
  rw [e]
  have e2 : (μ ++ [O.ins 0 [] []]).length = μ.length + 1 := by simp
  rw [e2]
  unfold fin
  rw [if_neg (by simp), if_neg ?_]
  · exact q
  · have e3 : (μ ++ [O.ins 0 ["kept"] [.ref (μ.length + 1)], .lst []]).take (μ.length + 1) = μ ++ [.ins 0 ["kept"] [.ref (μ.length + 1)]] := by
      rw [show μ ++ [O.ins 0 ["kept"] [.ref (μ.length + 1)], .lst []] = (μ ++ [O.ins 0 ["kept"] [.ref (μ.length + 1)]]) ++ [.lst []] by simp]
      exact List.take_left' (by simp)
    rw [e3, List.all_append]
    simp [cleanO, cleanWs, cleanW]
end
end HQ
namespace HQ
open PySem PySem.Spec PyProof.Rows L2
local macro_rules | `(tactic| walk_at "ix") => `(tactic| first | assumption | with_reducible exact atI_l0 | with_reducible exact atI_l1 | with_reducible exact atI_l2 | with_reducible exact atI_l3 | with_reducible exact atI_l4 | with_reducible exact atI_l5 | with_reducible exact atI_l6 | with_reducible exact atI_l7 | with_reducible exact atI_l8 | with_reducible exact atI_l9 | with_reducible exact atI_l10 | with_reducible exact atI_l11)
local macro_rules | `(tactic| walk_at "side") => `(tactic| first | omega | assumption | (simp only [bigL]; omega) | decide)
local macro_rules | `(tactic| walk_at "w") => `(tactic| first
  | with_reducible refine ws_sSeq ?_
  | ((with_reducible refine' w_var ?wv ?_); (case' wv => exact rfl))
  | with_reducible refine w_T ?_
  | with_reducible refine w_m2 ?_
  | with_reducible refine w_mA ?_
  | with_reducible refine w_aCons ?_
  | with_reducible refine w_aNil ?_
  | with_reducible refine ws_asgN ?_
  | with_reducible refine ws_ret ?_
  | with_reducible refine ws_if ?_
  | with_reducible refine w_bOf ?_
  | with_reducible refine w_asB ?_
  | with_reducible refine ws_nil ?_
  | with_reducible refine w_bNot ?_
  | with_reducible refine w_bAnd ?_
  | with_reducible refine w_bOr ?_
  | with_reducible refine w_andV ?_
  | with_reducible refine w_orV ?_
  | with_reducible refine w_notV ?_
  | with_reducible refine w_mChain ?_
  | with_reducible refine w_mIf ?_
  | with_reducible refine w_m1 ?_
  | with_reducible refine w_sub ?_
  | with_reducible refine w_addI ?_
  | with_reducible refine w_neg ?_
  | with_reducible refine w_gt ?_
  | with_reducible refine w_lt ?_
  | with_reducible refine w_ge ?_
  | with_reducible refine w_le ?_
  | with_reducible refine w_leS ?_
  | with_reducible refine w_isN ?_
  | with_reducible refine w_isNn ?_
  | with_reducible refine w_neI ?_
  | with_reducible refine w_neS ?_
  | with_reducible refine w_neB ?_
  | with_reducible refine w_eqI ?_
  | with_reducible refine w_eqS ?_
  | with_reducible refine w_eqB ?_
  | with_reducible refine w_max ?_
  | with_reducible refine w_min ?_
  | with_reducible refine w_intI ?_
  | with_reducible refine w_intB ?_
  | ((with_reducible refine w_mod ?wc ?_); (case' wc => walk_at "side"))
  | ((with_reducible refine w_div ?wc ?wd ?_); (case' wc => walk_at "side"); (case' wd => walk_at "side"))
  | ((with_reducible refine w_mulI ?wc ?_); (case' wc => exact cmul_of (by walk_at "side") (by walk_at "side")))
  | ((with_reducible refine w_pow ?wc ?_); (case' wc => decide))
  | with_reducible refine w_mTup ?_
  | with_reducible refine w_mLst ?_
  | with_reducible refine w_mSl ?_
  | with_reducible refine w_oNone ?_
  | with_reducible refine w_oSome ?_
  | with_reducible refine w_mM1 ?_
  | with_reducible refine w_mDic1 ?_
  | with_reducible refine w_mkLl ?_
  | ((with_reducible refine' w_mkL ?wc ?_); (case' wc => exact rfl))
  | with_reducible refine ws_retN ?_
  | with_reducible refine ws_cont ?_
  | with_reducible refine ws_brk ?_
  | with_reducible refine ws_ex ?_
  | with_reducible refine ws_asgT ?_
  | with_reducible refine ws_setL ?_
  | with_reducible refine ws_for ?_
  | with_reducible refine w_iVal ?_
  | with_reducible refine w_iR1 ?_
  | with_reducible refine w_iR2 ?_
  | with_reducible refine w_iEnu ?_
  | with_reducible refine w_mLc ?_
  | with_reducible refine w_bYes ?_
  | with_reducible refine p_iteT ?_
  | with_reducible refine p_iteF ?_
  | with_reducible refine p_iteNT ?_
  | with_reducible refine p_iteNF ?_
  | ((with_reducible refine And.intro ?wl ?_); (case' wl => first | exact Nat.le_of_ble_eq_true rfl))
  | ((with_reducible refine' w_isi (r := true) ?w1 ?w2 ?w3 ?_); (case' w1 => exact rfl); (case' w2 => exact rfl); (case' w3 => exact rfl))
  | ((with_reducible refine' w_isi (r := false) ?w1 ?w2 ?w3 ?_); (case' w1 => exact rfl); (case' w2 => exact rfl); (case' w3 => exact rfl))
  | ((with_reducible refine w_call ?wc ?_); (case' wc => exact rfl))
  | ((with_reducible refine' w_ix_L ?w1 ?w2 ?_); (case' w1 => first | assumption | with_reducible exact rfl); (case' w2 => walk_at "ix"))
  | ((with_reducible refine' w_ix_T ?w1 ?w2 ?_); (case' w1 => first | exact rfl | assumption); (case' w2 => walk_at "ix"))
  | ((with_reducible refine' w_len_L ?w1 ?_); (case' w1 => first | assumption | exact rfl))
  | ((with_reducible refine' w_len_T ?w1 ?_); (case' w1 => exact rfl))
  | ((with_reducible refine w_len_str ?wc ?_); (case' wc => walk_at "side"))
  | ((with_reducible refine w_kStr ?wc ?_); (case' wc => walk_at "side"))
  | ((with_reducible refine w_kEnuS ?wc ?_); (case' wc => walk_at "side"))
  | ((with_reducible refine w_strI ?wc ?_); (case' wc => walk_at "side"))
  | ((with_reducible refine w_addS ?wc ?_); (case' wc => walk_at "side")))
local macro_rules | `(tactic| walk_at "ne") => `(tactic| first | assumption | (apply Ne.symm; assumption) | omega | decide)
local macro_rules | `(tactic| walk_at "mem") => `(tactic| first
  | assumption
  | with_reducible exact at_new
  | ((with_reducible apply at_same); walk_at "mem")
  | ((with_reducible refine at_ne ?hne ?hat); (case' hne => walk_at "ne"); (case' hat => walk_at "mem"))
  | ((with_reducible apply at_app); walk_at "mem"))
local macro_rules | `(tactic| walk_at "x") => `(tactic| first
  | walk_at "w"
  | with_reducible refine w_mFld ?_
  | ((with_reducible refine' w_fFld ?w1 ?w2 ?w3 ?_); (case' w1 => (with_reducible apply insAt_at); walk_at "mem"); (case' w2 => exact rfl); (case' w3 => exact rfl))
  | with_reducible refine w_mMe ?_
  | with_reducible refine ws_setX ?_
  | with_reducible refine ws_set2 ?_
  | with_reducible refine ws_fldS ?_
  | with_reducible refine w_mBm ?_
  | ((with_reducible refine And.intro ?wl ?_); (case' wl => (with_reducible apply isLs_at); walk_at "mem"))
  | with_reducible refine w_iZp ?_
  | with_reducible refine w_dic0 ?_
  | with_reducible refine w_dic0l ?_
  | with_reducible refine w_ltR ?_
  | ((with_reducible refine w_mulXI ?wc ?_); (case' wc => exact cmul_of (by walk_at "side") (by walk_at "side")))
  | ((with_reducible refine' w_ix_L ?w1 ?w2 ?_); (case' w1 => (with_reducible apply getL_at); walk_at "mem"); (case' w2 => walk_at "ix"))
  | ((with_reducible refine' w_len_L ?w1 ?_); (case' w1 => (with_reducible apply getL_at); walk_at "mem")))
def up {α : Type} (f : Nat → α) (d : Nat) (v : α) : Nat → α := fun i => if i = d then v else f i
theorem up_at {α : Type} {f : Nat → α} {d : Nat} {v : α} : up f d v d = v := if_pos rfl
theorem up_ne {α : Type} {f : Nat → α} {d i : Nat} {v : α} (h : i ≠ d) : up f d v i = f i := if_neg h
/-- two heaps and two lists -/
structure Sta (μ : Mem) (A K : Nat → List (List Int)) (kp : Nat → Nat) (L : Nat) : Prop where
  hp : ∀ d, d < 2 → HeapAt μ (2 * d) (2 * d + 1) (A d)
  kl : ∀ d, d < 2 → μ[kp d]? = some (.lst ((K d).map rowW))
  ho : ∀ d, d < 2 → HP.Heap HT.lexLt (A d)
  pm : ∀ d, d < 2 → (K d).Perm (A d)
  so : ∀ d, d < 2 → (K d).Pairwise fun a b => HT.lexLt b a = false
  k5 : ∀ d, d < 2 → 5 ≤ kp d ∧ kp d ≠ 7
  kn : kp 0 ≠ kp 1
  hs : μ[4]? = some (.lst [.ref 0, .ref 2])
  ks : μ[7]? = some (.lst [.ref (kp 0), .ref (kp 1)])
  cl : Clean μ
  le : ∀ d, d < 2 → (A d).length ≤ L
  rl : ∀ d, d < 2 → ∀ r ∈ A d, r.length ≤ 3 * L
section
variable {μ : Mem} {A K : Nat → List (List Int)} {kp : Nat → Nat} {L : Nat}
theorem Sta.kne (s : Sta μ A K kp L) {d e : Nat} (hd : d < 2) (he : e < 2) (h : d ≠ e) : kp d ≠ kp e := by
  have := s.kn
  have : (d = 0 ∧ e = 1) ∨ (d = 1 ∧ e = 0) := by omega
  rcases this with ⟨rfl, rfl⟩ | ⟨rfl, rfl⟩
  · exact s.kn
  · exact s.kn.symm
theorem Sta.app (s : Sta μ A K kp L) {o : O} (h : cleanO (μ.length + 1) o = true) : Sta (μ ++ [o]) A K kp L :=
  ⟨fun d hd => (s.hp d hd).app, fun d hd => at_app (s.kl d hd), s.ho, s.pm, s.so, s.k5, s.kn, at_app s.hs, at_app s.ks, s.cl.app h, s.le, s.rl⟩
/-- what is none of these changes -/
theorem Sta.oth (s : Sta μ A K kp L) {n : Nat} {o : O} (h : cleanO μ.length o = true) (h8 : 8 ≤ n) (hn : ∀ d, d < 2 → kp d ≠ n) : Sta (μ.set n o) A K kp L :=
  ⟨fun d hd => (s.hp d hd).oth (by omega) (by omega), fun d hd => at_ne (hn d hd) (s.kl d hd), s.ho, s.pm, s.so, s.k5, s.kn, at_ne (by omega) s.hs, at_ne (by omega) s.ks, s.cl.set h, s.le, s.rl⟩
theorem Sta.mono (s : Sta μ A K kp L) {M : Nat} (h : L ≤ M) : Sta μ A K kp M :=
  ⟨s.hp, s.kl, s.ho, s.pm, s.so, s.k5, s.kn, s.hs, s.ks, s.cl, fun d hd => Nat.le_trans (s.le d hd) h, fun d hd r hr => Nat.le_trans (s.rl d hd r hr) (by omega)⟩
theorem Sta.atH (s : Sta μ A K kp L) {d : Nat} (hd : d < 2) : atI [W.ref 0, W.ref 2] (d : Int) = some (.ref (2 * d)) := by
  have : d = 0 ∨ d = 1 := by omega
  rcases this with rfl | rfl <;> rfl
theorem atK {d : Nat} (hd : d < 2) : atI [W.ref (kp 0), W.ref (kp 1)] (d : Int) = some (.ref (kp d)) := by
  have : d = 0 ∨ d = 1 := by omega
  rcases this with rfl | rfl
  · exact atI_nat (j := 0) rfl
  · exact atI_nat (j := 1) rfl
/-- a heap and its list change -/
theorem Sta.turn (s : Sta μ A K kp L) {d : Nat} (hd : d < 2) {B K' : List (List Int)} (h1 : HP.Heap HT.lexLt B) (h2 : K'.Perm B) (h3 : K'.Pairwise fun a b => HT.lexLt b a = false) (h4 : B.length ≤ L) (h5 : ∀ r ∈ B, r.length ≤ 3 * L) :
    Sta ((μ.set (2 * d + 1) (.lst (B.map rowW))).set (kp d) (.lst (K'.map rowW))) (up A d B) (up K d K') kp L := by
  have k5 := s.k5 d hd
  have l1 : (μ.set (2 * d + 1) (.lst (B.map rowW))).length = μ.length := by simp
  refine ⟨fun i hi => ?_, fun i hi => ?_, fun i hi => ?_, fun i hi => ?_, fun i hi => ?_, s.k5, s.kn, at_ne (by omega) (at_ne (by omega) s.hs), at_ne k5.2.symm (at_ne (by omega) s.ks), (s.cl.set (clean_rows B)).set (clean_rows K'), fun i hi => ?_, fun i hi => ?_⟩
  · by_cases e : i = d
    · subst e
      rw [up_at]
      exact ((s.hp i hi).put).oth (by omega) (by omega)
    · rw [up_ne e]
      have k5' := s.k5 i hi
      exact ((s.hp i hi).oth (by omega) (by omega)).oth (by omega) (by omega)
  · by_cases e : i = d
    · subst e
      rw [up_at]
      exact at_same (at_ne (by omega) (s.kl i hi))
    · rw [up_ne e]
      have k5' := s.k5 i hi
      exact at_ne (s.kne hi hd e) (at_ne (by omega) (s.kl i hi))
  all_goals
    by_cases e : i = d
    · subst e; simp only [up_at]; assumption
    · simp only [up_ne e]; first | exact s.ho i hi | exact s.pm i hi | exact s.so i hi | exact s.le i hi | exact s.rl i hi
/-- a heap gets a row, its list is a new one -/
theorem Sta.put (s : Sta μ A K kp L) {d : Nat} (hd : d < 2) {B K' : List (List Int)} (h1 : HP.Heap HT.lexLt B) (h2 : K'.Perm B) (h3 : K'.Pairwise fun a b => HT.lexLt b a = false) (h4 : B.length ≤ L) (h5 : ∀ r ∈ B, r.length ≤ 3 * L) :
    Sta (((μ.set (2 * d + 1) (O.lst (B.map rowW))) ++ [O.lst (K'.map rowW)]).set 7 (O.lst [.ref (up kp d μ.length 0), .ref (up kp d μ.length 1)])) (up A d B) (up K d K') (up kp d μ.length) L := by
  have n8 : 8 ≤ μ.length := at_lt s.ks
  have kk : ∀ i, i < 2 → up kp d μ.length i < μ.length + 1 := fun i hi => by
    by_cases e : i = d
    · subst e; rw [up_at]; omega
    · rw [up_ne e]; have := at_lt (s.kl i hi); omega
  have k7 : ∀ i, i < 2 → 5 ≤ up kp d μ.length i ∧ up kp d μ.length i ≠ 7 := fun i hi => by
    by_cases e : i = d
    · subst e; rw [up_at]; omega
    · rw [up_ne e]; exact s.k5 i hi
  have hl : (μ.set (2 * d + 1) (O.lst (B.map rowW))).length = μ.length := by simp
  have hm : ((μ.set (2 * d + 1) (O.lst (B.map rowW))) ++ [O.lst (K'.map rowW)])[μ.length]? = some (O.lst (K'.map rowW)) := by
    rw [← hl]; exact at_new
  have cl : Clean ((μ.set (2 * d + 1) (O.lst (B.map rowW))) ++ [O.lst (K'.map rowW)]) := (s.cl.set (clean_rows B)).app (clean_rows K')
  refine ⟨fun i hi => ?_, fun i hi => ?_, fun i hi => ?_, fun i hi => ?_, fun i hi => ?_, k7, ?_, at_ne (by omega) (at_app (at_ne (by omega) s.hs)), at_same (at_app (at_ne (by omega) s.ks)), cl.set ?_, fun i hi => ?_, fun i hi => ?_⟩
  · have base : HeapAt (μ.set (2 * d + 1) (O.lst (B.map rowW))) (2 * i) (2 * i + 1) (up A d B i) := by
      by_cases e : i = d
      · subst e; rw [up_at]; exact (s.hp i hi).put
      · rw [up_ne e]; exact (s.hp i hi).oth (by omega) (by omega)
    exact base.app.oth (by omega) (by omega)
  · by_cases e : i = d
    · subst e
      rw [up_at, up_at]
      exact at_ne (by omega) hm
    · rw [up_ne e, up_ne e]
      have := s.k5 i hi
      exact at_ne this.2 (at_app (at_ne (by omega) (s.kl i hi)))
  · by_cases e : i = d
    · subst e; simp only [up_at]; assumption
    · simp only [up_ne e]; exact s.ho i hi
  · by_cases e : i = d
    · subst e; simp only [up_at]; assumption
    · simp only [up_ne e]; exact s.pm i hi
  · by_cases e : i = d
    · subst e; simp only [up_at]; assumption
    · simp only [up_ne e]; exact s.so i hi
  · have : d = 0 ∨ d = 1 := by omega
    rcases this with rfl | rfl
    · rw [up_at, up_ne (by decide)]; have := at_lt (s.kl 1 (by decide)); omega
    · rw [up_at, up_ne (by decide)]; have := at_lt (s.kl 0 (by decide)); omega
  · have g0 := kk 0 (by decide)
    have g1 := kk 1 (by decide)
    simp only [cleanO, cleanWs, cleanW, List.length_append, hl, List.length_singleton, g0, g1, decide_true, Bool.and_self]
  · by_cases e : i = d
    · subst e; simp only [up_at]; assumption
    · simp only [up_ne e]; exact s.le i hi
  · by_cases e : i = d
    · subst e; simp only [up_at]; assumption
    · simp only [up_ne e]; exact s.rl i hi
end
theorem getLT_at {μ : Mem} {n : Nat} {ws : List W} (h : μ[n]? = some (.lst ws)) : getLT (.ref n) μ = some ws := by simp only [getLT, h]
theorem set_kp {kp : Nat → Nat} {d m : Nat} (hd : d < 2) : [W.ref (kp 0), W.ref (kp 1)].set d (.ref m) = [.ref (up kp d m 0), .ref (up kp d m 1)] := by
  have : d = 0 ∨ d = 1 := by omega
  rcases this with rfl | rfl
  · rw [up_at, up_ne (by decide)]; rfl
  · rw [up_at, up_ne (by decide)]; rfl
/-- what is_heap and the law's own look say alike -/
def Alike (u : W) (μ : Mem) : Prop := ∃ b : Bool, (∀ (Q : W → Mem → Prop) X, Q (.t (.bl b)) μ → Wp (F_is_heap [u] μ) Q X) ∧ ∀ (Q : W → Mem → Prop) X, Q (.t (.bl b)) μ → Wp (F__law_has_form [u] μ) Q X
theorem alike_T {t : T} {μ : Mem} (h : Thing t) : Alike (.t t) μ := by
  rcases h with ⟨ts, rfl, h1, h2⟩ | ⟨n, h1, h2⟩
  · exact ⟨formB ts, fun Q X q => is_heap_ok isL_T h1 h2 q, fun Q X q => has_form_ok isL_T h1 h2 q⟩
  · exact ⟨false, fun Q X q => no_heap h1 h2 q, fun Q X q => no_form h1 h2 q⟩
theorem alike_R {ts : List T} {μ : Mem} {n : Nat} (h : μ[n]? = some (.lst (ts.map .t))) (h1 : ts.all okE = true) (h2 : ts.length ≤ 400) : Alike (.ref n) μ :=
  ⟨formB ts, fun Q X q => is_heap_ok (isL_ref h) h1 h2 q, fun Q X q => has_form_ok (isL_ref h) h1 h2 q⟩
/-- a heap and its list are asked -/
theorem Sta.taken {μ : Mem} {A K : Nat → List (List Int)} {kp : Nat → Nat} {L d : Nat} {Q : W → Mem → Prop} {X : XV → Mem → Prop} (s : Sta μ A K kp L) (hd : d < 2) (hL : L ≤ 150)
    (q : ∀ (μ' : Mem) (A' K' : Nat → List (List Int)), Sta μ' A' K' kp L → (A' d).length = (A d).length - 1 → (∀ (n : Nat) o, 8 ≤ n → (∀ e, e < 2 → kp e ≠ n) → μ[n]? = some o → μ'[n]? = some o) → Q (.t (.bl true)) μ') : Wp (F__law_taken [.ref (2 * d), .ref (kp d)] μ) Q X := by
  have k5 := s.k5 d hd
  cases hA : A d with
  | nil =>
    have hK : K d = [] := by have := s.pm d hd; rw [hA] at this; exact List.perm_nil.mp this
    have hh := s.hp d hd
    have hk := s.kl d hd
    rw [hA] at hh
    rw [hK] at hk
    exact taken_nil hh hk (q μ A K s (by rw [hA]; rfl) fun n o _ _ h => h)
  | cons x R =>
    have hh := s.hp d hd
    have hp := s.ho d hd
    have pm := s.pm d hd
    have le := s.le d hd
    rw [hA] at hh hp pm le
    simp only [List.length_cons] at le
    have ne : kp d ≠ 2 * d ∧ kp d ≠ 2 * d + 1 := by omega
    refine taken_cons hh hp (by omega) (s.kl d hd) ne.1 ne.2 pm (s.so d hd) fun B K' eK pK pB hB so => ?_
    refine q _ (up A d B) (up K d K') (s.turn hd hB pK so (by have := pB.length_eq; omega) fun r hr => s.rl d hd r (by rw [hA]; exact List.mem_cons_of_mem _ (pB.mem_iff.mp hr))) (by rw [up_at, hA, pB.length_eq]; rfl) fun n o h8 hn h => ?_
    exact at_ne (hn d hd).symm (at_ne (by omega) h)
end HQ
namespace HQ
open PySem PySem.Spec PyProof.Rows L2
local macro_rules | `(tactic| walk_at "ix") => `(tactic| first | assumption | with_reducible exact atI_l0 | with_reducible exact atI_l1 | with_reducible exact atI_l2 | with_reducible exact atI_l3 | with_reducible exact atI_l4 | with_reducible exact atI_l5 | with_reducible exact atI_l6 | with_reducible exact atI_l7 | with_reducible exact atI_l8 | with_reducible exact atI_l9 | with_reducible exact atI_l10 | with_reducible exact atI_l11)
local macro_rules | `(tactic| walk_at "side") => `(tactic| first | omega | assumption | (simp only [bigL]; omega) | decide)
local macro_rules | `(tactic| walk_at "w") => `(tactic| first
  | with_reducible refine ws_sSeq ?_
  | ((with_reducible refine' w_var ?wv ?_); (case' wv => exact rfl))
  | with_reducible refine w_T ?_
  | with_reducible refine w_m2 ?_
  | with_reducible refine w_mA ?_
  | with_reducible refine w_aCons ?_
  | with_reducible refine w_aNil ?_
  | with_reducible refine ws_asgN ?_
  | with_reducible refine ws_ret ?_
  | with_reducible refine ws_if ?_
  | with_reducible refine w_bOf ?_
  | with_reducible refine w_asB ?_
  | with_reducible refine ws_nil ?_
  | with_reducible refine w_bNot ?_
  | with_reducible refine w_bAnd ?_
  | with_reducible refine w_bOr ?_
  | with_reducible refine w_andV ?_
  | with_reducible refine w_orV ?_
  | with_reducible refine w_notV ?_
  | with_reducible refine w_mChain ?_
  | with_reducible refine w_mIf ?_
  | with_reducible refine w_m1 ?_
  | with_reducible refine w_sub ?_
  | with_reducible refine w_addI ?_
  | with_reducible refine w_neg ?_
  | with_reducible refine w_gt ?_
  | with_reducible refine w_lt ?_
  | with_reducible refine w_ge ?_
  | with_reducible refine w_le ?_
  | with_reducible refine w_leS ?_
  | with_reducible refine w_isN ?_
  | with_reducible refine w_isNn ?_
  | with_reducible refine w_neI ?_
  | with_reducible refine w_neS ?_
  | with_reducible refine w_neB ?_
  | with_reducible refine w_eqI ?_
  | with_reducible refine w_eqS ?_
  | with_reducible refine w_eqB ?_
  | with_reducible refine w_max ?_
  | with_reducible refine w_min ?_
  | with_reducible refine w_intI ?_
  | with_reducible refine w_intB ?_
  | ((with_reducible refine w_mod ?wc ?_); (case' wc => walk_at "side"))
  | ((with_reducible refine w_div ?wc ?wd ?_); (case' wc => walk_at "side"); (case' wd => walk_at "side"))
  | ((with_reducible refine w_mulI ?wc ?_); (case' wc => exact cmul_of (by walk_at "side") (by walk_at "side")))
  | ((with_reducible refine w_pow ?wc ?_); (case' wc => decide))
  | with_reducible refine w_mTup ?_
  | with_reducible refine w_mLst ?_
  | with_reducible refine w_mSl ?_
  | with_reducible refine w_oNone ?_
  | with_reducible refine w_oSome ?_
  | with_reducible refine w_mM1 ?_
  | with_reducible refine w_mDic1 ?_
  | with_reducible refine w_mkLl ?_
  | ((with_reducible refine' w_mkL ?wc ?_); (case' wc => exact rfl))
  | with_reducible refine ws_retN ?_
  | with_reducible refine ws_cont ?_
  | with_reducible refine ws_brk ?_
  | with_reducible refine ws_ex ?_
  | with_reducible refine ws_asgT ?_
  | with_reducible refine ws_setL ?_
  | with_reducible refine ws_for ?_
  | with_reducible refine w_iVal ?_
  | with_reducible refine w_iR1 ?_
  | with_reducible refine w_iR2 ?_
  | with_reducible refine w_iEnu ?_
  | with_reducible refine w_mLc ?_
  | with_reducible refine w_bYes ?_
  | with_reducible refine p_iteT ?_
  | with_reducible refine p_iteF ?_
  | with_reducible refine p_iteNT ?_
  | with_reducible refine p_iteNF ?_
  | ((with_reducible refine And.intro ?wl ?_); (case' wl => first | exact Nat.le_of_ble_eq_true rfl))
  | ((with_reducible refine' w_isi (r := true) ?w1 ?w2 ?w3 ?_); (case' w1 => exact rfl); (case' w2 => exact rfl); (case' w3 => exact rfl))
  | ((with_reducible refine' w_isi (r := false) ?w1 ?w2 ?w3 ?_); (case' w1 => exact rfl); (case' w2 => exact rfl); (case' w3 => exact rfl))
  | ((with_reducible refine w_call ?wc ?_); (case' wc => exact rfl))
  | ((with_reducible refine' w_ix_L ?w1 ?w2 ?_); (case' w1 => first | assumption | with_reducible exact rfl); (case' w2 => walk_at "ix"))
  | ((with_reducible refine' w_ix_T ?w1 ?w2 ?_); (case' w1 => first | exact rfl | assumption); (case' w2 => walk_at "ix"))
  | ((with_reducible refine' w_len_L ?w1 ?_); (case' w1 => first | assumption | exact rfl))
  | ((with_reducible refine' w_len_T ?w1 ?_); (case' w1 => exact rfl))
  | ((with_reducible refine w_len_str ?wc ?_); (case' wc => walk_at "side"))
  | ((with_reducible refine w_kStr ?wc ?_); (case' wc => walk_at "side"))
  | ((with_reducible refine w_kEnuS ?wc ?_); (case' wc => walk_at "side"))
  | ((with_reducible refine w_strI ?wc ?_); (case' wc => walk_at "side"))
  | ((with_reducible refine w_addS ?wc ?_); (case' wc => walk_at "side")))
local macro_rules | `(tactic| walk_at "ne") => `(tactic| first | assumption | (apply Ne.symm; assumption) | omega | decide)
local macro_rules | `(tactic| walk_at "mem") => `(tactic| first
  | assumption
  | with_reducible exact at_new
  | ((with_reducible apply at_same); walk_at "mem")
  | ((with_reducible refine at_ne ?hne ?hat); (case' hne => walk_at "ne"); (case' hat => walk_at "mem"))
  | ((with_reducible apply at_app); walk_at "mem"))
local macro_rules | `(tactic| walk_at "x") => `(tactic| first
  | walk_at "w"
  | with_reducible refine w_mFld ?_
  | ((with_reducible refine' w_fFld ?w1 ?w2 ?w3 ?_); (case' w1 => (with_reducible apply insAt_at); walk_at "mem"); (case' w2 => exact rfl); (case' w3 => exact rfl))
  | with_reducible refine w_mMe ?_
  | with_reducible refine ws_setX ?_
  | with_reducible refine ws_set2 ?_
  | with_reducible refine ws_fldS ?_
  | with_reducible refine w_mBm ?_
  | ((with_reducible refine And.intro ?wl ?_); (case' wl => (with_reducible apply isLs_at); walk_at "mem"))
  | with_reducible refine w_iZp ?_
  | with_reducible refine w_dic0 ?_
  | with_reducible refine w_dic0l ?_
  | with_reducible refine w_ltR ?_
  | ((with_reducible refine w_mulXI ?wc ?_); (case' wc => exact cmul_of (by walk_at "side") (by walk_at "side")))
  | ((with_reducible refine' w_ix_L ?w1 ?w2 ?_); (case' w1 => (with_reducible apply getL_at); walk_at "mem"); (case' w2 => walk_at "ix"))
  | ((with_reducible refine' w_len_L ?w1 ?_); (case' w1 => (with_reducible apply getL_at); walk_at "mem")))
local macro_rules | `(tactic| walk_at "xd") => `(tactic| first | walk_at "x" | refine p_pos (by decide) ?_ | refine p_neg (by decide) ?_)
/-- the memory at the start -/
def mem0 : Mem := [.ins 0 ["kept"] [.ref 1], .lst [], .ins 0 ["kept"] [.ref 3], .lst [], .lst [.ref 0, .ref 2], .lst [], .lst [], .lst [.ref 5, .ref 6]]
theorem sta0 : Sta mem0 (fun _ => []) (fun _ => []) (fun d => 5 + d) 0 := by
  refine ⟨fun d hd => ?_, fun d hd => ?_, fun d hd k a b _ h => by simp at h, fun _ _ => List.Perm.refl _, fun _ _ => List.Pairwise.nil, fun d hd => by omega, by decide, rfl, rfl, ?_, fun _ _ => Nat.le_refl _, fun d hd r hr => by cases hr⟩
  · have : d = 0 ∨ d = 1 := by omega
    rcases this with rfl | rfl <;> exact ⟨rfl, rfl, by decide⟩
  · have : d = 0 ∨ d = 1 := by omega
    rcases this with rfl | rfl <;> rfl
  · intro o ho
    simp only [mem0, List.mem_cons, List.not_mem_nil, or_false] at ho
    rcases ho with rfl | rfl | rfl | rfl | rfl | rfl | rfl | rfl <;> rfl
theorem law_ok (ns : List Int) (hl : ns.length ≤ 63) : Wp (F_law [.t (.scr ns)] []) (fun u _ => u = .t (.bl true)) noX := by
  refine w_run rfl ?_
  simp only [List.map_cons, List.map_nil, List.cons_append, List.nil_append, List.replicate, Nat.reduceSub]
  rw [m_law]
  repeat walk_at "x"
  refine w_mkF rfl (init_ok (μ := []) ⟨rfl, ?_⟩)
  repeat walk_at "x"
  refine w_mkF rfl (init_ok (μ := [.ins 0 ["kept"] [.ref 1], .lst []]) ⟨rfl, ?_⟩)
  repeat walk_at "x"
  refine ⟨_, rfl, ?_⟩
  generalize hN : (if (if ((ns.map fun n => W.t (.int n)).length : Int) < 60 then ((ns.map fun n => W.t (.int n)).length : Int) else 60) > 3 then (if ((ns.map fun n => W.t (.int n)).length : Int) < 60 then ((ns.map fun n => W.t (.int n)).length : Int) else 60) else 3) = N
  have n0 : 0 ≤ N := by rw [← hN]; split <;> (try split) <;> omega
  have n1 : N ≤ 60 := by rw [← hN]; split <;> (try split) <;> omega
  clear hN
  refine w_rg (by omega) (by simp [bigL]; omega) ?_
  refine w_loop (fun i e ν => ∃ (A K : Nat → List (List Int)) (kp : Nat → Nat) (x3 x4 x5 x6 x7 x8 : Option W), e = [some (.t (.scr ns)), some (.ref 4), some (.ref 7), x3, x4, x5, x6, x7, x8, none, none, none] ∧ Sta ν A K kp i) ⟨_, _, _, none, none, none, none, none, none, rfl, sta0⟩ (fun _ _ _ _ => True.intro) ?_ ?_
  · rintro i y e ν hy ⟨A, K, kp, x3, x4, x5, x6, x7, x8, rfl, st⟩
    have hi : i < (N - 0).toNat := by simpa using (List.getElem?_eq_some_iff.mp hy).1
    have ey : y = .t (.int (i : Nat)) := by
      rw [List.getElem?_map, List.getElem?_range hi] at hy
      simp only [Option.map_some, Option.some.injEq, Int.zero_add] at hy
      exact hy.symm
    subst ey
    refine ⟨_, rfl, ?_⟩
    have n8 : 8 ≤ ν.length := at_lt st.ks
    have kn : ∀ d, d < 2 → kp d < ν.length := fun d hd => at_lt (st.kl d hd)
    have sn : ∀ s s' : Bx, (ν ++ [s.o]).set ν.length s'.o = ν ++ [s'.o] := fun s s' => by
      rw [List.set_append_right _ _ (Nat.le_refl _)]; simp
    repeat walk_at "x"
    refine w_call rfl (box_ok hl (by omega) st.cl fun s ok => ?_)
    repeat walk_at "x"
    refine w_call rfl (take_ok at_new ok (by decide) (by decide) (by decide) fun d s1 d0 d1 ok1 => ?_)
    rw [sn]
    obtain ⟨d, rfl⟩ := Int.eq_ofNat_of_zero_le d0
    have hd : d < 2 := by omega
    refine ws_sSeq ?_
    refine WpS.imp (nx := fun e' ν' => ∃ (A K : Nat → List (List Int)) (kp : Nat → Nat) (s : Bx) (x6 : Option W), e' = [some (.t (.scr ns)), some (.ref 4), some (.ref 7), some (.t (.int i)), some (.ref ν.length), some (.t (.int d)), x6, x7, x8, none, none, none] ∧ Sta ν' A K kp (i + 1) ∧ ν'[ν.length]? = some s.o ∧ s.Ok 100 ∧ ∀ d, d < 2 → kp d ≠ ν.length) ?_ ?_ (fun _ _ h => h) (fun _ _ h => h) (fun _ _ h => h) (fun _ _ _ h => h)
    · have st1 : ∀ s : Bx, Sta (ν ++ [s.o]) A K kp i := fun s => st.app rfl
      repeat walk_at "x"
      refine w_call rfl (take_ok at_new ok1 (by decide) (by decide) (by decide) fun c s2 c0 c1 ok2 => ?_)
      rw [sn]
      have st2 := st1 s2
      have kd := kn d hd
      have gH := st2.hs
      have gK := st2.ks
      have zH := st2.atH hd
      have zK := atK (kp := kp) hd
      repeat walk_at "x"
      refine p_D (fun hc => ?_) (fun hc => ?_)
      · repeat walk_at "x"
        have pd := st2.pm d hd
        refine w_call rfl (row_ok at_new ok2 (by decide) (st2.kl d hd) (by omega) (by have := pd.length_eq; have := st2.le d hd; omega) (fun r hr => st2.rl d hd r (pd.mem_iff.mp hr)) (by omega) fun nr s3 hnr ok3 => ?_)
        rw [sn]
        have st3 := st1 s3
        have gH3 := st3.hs
        have gK3 := st3.ks
        repeat walk_at "x"
        refine ⟨0, _, _, _, insAt_at (st3.hp d hd).ob, rfl, rfl, ?_⟩
        repeat walk_at "x"
        refine w_call rfl (put_ok (st3.hp d hd) (st3.ho d hd) (by have := st3.le d hd; omega) fun B pB hB => ?_)
        have gK4 : ((ν ++ [s3.o]).set (2 * d + 1) (.lst (B.map rowW)))[7]? = some (.lst [.ref (kp 0), .ref (kp 1)]) := at_ne (by omega) gK3
        have k5 := st3.k5 d hd
        have gkd : ((ν ++ [s3.o]).set (2 * d + 1) (.lst (B.map rowW)))[kp d]? = some (.lst ((K d).map rowW)) := at_ne (by omega) (st3.kl d hd)
        have len4 : ((ν ++ [s3.o]).set (2 * d + 1) (O.lst (B.map rowW))).length = (ν ++ [s3.o]).length := by simp
        repeat walk_at "x"
        refine w_addLL (xs := (K d).map rowW) (ys := [nr].map rowW) (getLT_at gkd) rfl (by have := pd.length_eq; have := st2.le d hd; simp [bigL]; omega) ?_
        rw [← List.map_append]
        refine w_mkL (toTs_rows _) ?_
        repeat walk_at "x"
        refine w_sortN (nss := K d ++ [nr]) (by show some (((K d ++ [nr]).map rowT).map W.t) = _; rw [rows_T]) ?_
        repeat walk_at "x"
        have zI : ixN [W.ref (kp 0), W.ref (kp 1)].length (d : Int) = some d := by
          have : d = 0 ∨ d = 1 := by omega
          rcases this with rfl | rfl
          · exact ixN_l0 (m := 1)
          · exact ixN_l1 (m := 0)
        refine ⟨_, setX_at (at_app gK4) zI, ?_⟩
        rw [len4, set_kp hd]
        repeat walk_at "x"
        refine ⟨_, _, _, s3, _, rfl, (st3.mono (Nat.le_succ i)).put hd (B := B) (K' := sortN (K d ++ [nr])) hB ?_ (sortN_sorted _) ?_ ?_, ?_, ok3.mono (by omega), ?_⟩
        · refine (sortN_perm _).trans ?_
          refine List.Perm.trans ?_ pB.symm
          exact (List.perm_append_comm (l₁ := K d) (l₂ := [nr])).trans (List.Perm.cons _ pd)
        · have := pB.length_eq
          have := st3.le d hd
          simp only [List.length_cons] at *
          omega
        · intro r hr
          rcases List.mem_cons.mp (pB.mem_iff.mp hr) with e | h
          · subst e; omega
          · have := st3.rl d hd r h; omega
        · exact at_ne (by omega) (at_app (at_ne (by omega) at_new))
        · intro e he
          by_cases q : e = d
          · subst q; rw [up_at]; simp
          · rw [up_ne q]; have := kn e he; omega
      · repeat walk_at "x"
        refine w_call rfl (st2.taken hd (by omega) fun μ' A' K' st' hlen keep => ?_)
        repeat walk_at "xd"
        exact ⟨A', K', kp, s2, _, rfl, st'.mono (Nat.le_succ i), keep _ _ n8 (fun e he => by have := kn e he; omega) at_new, ok2.mono (by omega), fun e he => by have := kn e he; omega⟩
    · rintro e' ν' ⟨A, K, kp, s, x6, rfl, st, hs, ok, hn⟩
      have gH := st.hs
      have gK := st.ks
      have zH := st.atH hd
      have ln := at_lt hs
      repeat walk_at "x"
      refine ⟨0, _, _, _, insAt_at (st.hp d hd).ob, rfl, rfl, ?_⟩
      repeat walk_at "x"
      refine w_call rfl (rows_ok (st.hp d hd) st.cl ?_)
      have st1 : Sta (ν' ++ [.lst ((A d).map rowW)]) A K kp (i + 1) := st.app (clean_rows _)
      repeat walk_at "x"
      have tail : ∀ (u : W) (μ2 : Mem), Sta μ2 A K kp (i + 1) → Alike u μ2 → WpS (sSeq (sAsg (mA (callF F_is_heap 1 [] false) (aCons (mVar 7) (aNil))) (gN 8)) (sSeq (sIf (bOr (bNot (bOf (mA (fIsi ktB) (aCons (mVar 8) (aCons (mT (.ty "bool")) (aNil)))))) (bOf (m2 (fEq true) (mVar 8) (mA (callF F__law_has_form 1 [] false) (aCons (mVar 7) (aNil)))))) (sSeq (sRet (mT (.bl false))) (sNil)) (sNil)) (sSeq (sIf (bOr (bNot (bOf (mA (callF F__law_told 2 [] false) (aCons (m2 fIdx (mVar 1) (mT (.int 0))) (aCons (m2 fIdx (mVar 2) (mT (.int 0))) (aNil)))))) (bNot (bOf (mA (callF F__law_told 2 [] false) (aCons (m2 fIdx (mVar 1) (mT (.int 1))) (aCons (m2 fIdx (mVar 2) (mT (.int 1))) (aNil))))))) (sSeq (sRet (mT (.bl false))) (sNil)) (sNil)) (sNil)))
          [some (.t (.scr ns)), some (.ref 4), some (.ref 7), some (.t (.int i)), some (.ref ν.length), some (.t (.int d)), x6, some u, x8, none, none, none] μ2)
          (fun e ν => ∃ (A K : Nat → List (List Int)) (kp : Nat → Nat) (x3 x4 x5 x6 x7 x8 : Option W), e = [some (.t (.scr ns)), some (.ref 4), some (.ref 7), x3, x4, x5, x6, x7, x8, none, none, none] ∧ Sta ν A K kp (i + 1))
          (fun u ν => Wp (fin (List.length ([] : Mem)) u ν) (fun u _ => u = .t (.bl true)) noX)
          (fun e ν => ∃ (A K : Nat → List (List Int)) (kp : Nat → Nat) (x3 x4 x5 x6 x7 x8 : Option W), e = [some (.t (.scr ns)), some (.ref 4), some (.ref 7), x3, x4, x5, x6, x7, x8, none, none, none] ∧ Sta ν A K kp (i + 1))
          noE (fun x _ ν => noX x ν) := fun u μ2 st2 ⟨b, al1, al2⟩ => by
        have gH := st2.hs
        have gK := st2.ks
        have h0 : HeapAt μ2 0 1 (A 0) := st2.hp 0 (by decide)
        have h1 : HeapAt μ2 2 3 (A 1) := st2.hp 1 (by decide)
        have l0 := st2.le 0 (by decide)
        have l1 := st2.le 1 (by decide)
        repeat walk_at "x"
        refine w_call rfl (al1 _ _ ?_)
        repeat walk_at "x"
        refine w_call rfl (al2 _ _ ?_)
        repeat walk_at "x"
        refine p_neg (by simp) ?_
        repeat walk_at "x"
        refine w_call rfl (told_ok h0 (st2.ho 0 (by decide)) (st2.kl 0 (by decide)) (st2.pm 0 (by decide)) (st2.so 0 (by decide)) st2.cl (by omega) (fun r hr => by have := st2.rl 0 (by decide) r hr; omega) ?_)
        repeat walk_at "x"
        refine w_call rfl (told_ok h1 (st2.ho 1 (by decide)) (st2.kl 1 (by decide)) (st2.pm 1 (by decide)) (st2.so 1 (by decide)) st2.cl (by omega) (fun r hr => by have := st2.rl 1 (by decide) r hr; omega) ?_)
        repeat walk_at "x"
        exact ⟨A, K, kp, _, _, _, _, _, _, rfl, st2⟩
      have le := st.le d hd
      refine w_call rfl (other_ok (at_app hs) ok (by decide) at_new (by omega) st1.cl (by omega) (fun r hr => st.rl d hd r hr) (by omega) (fun t s' ok' th => ?_) fun ts s' ok' h1 h2 => ?_)
      · exact (tail _ _ (st1.oth (o := s'.o) Bx.clean n8 hn) (alike_T th)).imp (fun _ _ h => h) (fun _ _ h => h) (fun _ _ h => h) (fun _ _ h => h.elim) (fun _ _ _ h => h)
      · have lw : (ν' ++ [O.lst ((A d).map rowW)]).length = ((ν' ++ [O.lst ((A d).map rowW)]).set ν.length s'.o).length := by simp
        refine (tail _ _ ((st1.oth (o := s'.o) Bx.clean n8 hn).app (o := .lst (ts.map .t)) (by exact cleanWs_T _)) (alike_R ?_ h1 h2)).imp (fun _ _ h => h) (fun _ _ h => h) (fun _ _ h => h) (fun _ _ h => h.elim) (fun _ _ _ h => h)
        rw [lw]; exact at_new
  · rintro e ν ⟨A, K, kp, x3, x4, x5, x6, x7, x8, rfl, st⟩
    simp only [List.length_map, List.length_range] at st
    have st : Sta ν A K kp 100 := st.mono (by omega)
    have gH := st.hs
    have gK := st.ks
    repeat walk_at "x"
    refine w_kZip (getL_at gH) (getL_at gK) (by simp [bigL]) ?_
    refine w_loop (fun i e ν => ∃ (A K : Nat → List (List Int)) (x9 x10 x11 : Option W), e = [some (.t (.scr ns)), some (.ref 4), some (.ref 7), x3, x4, x5, x6, x7, x8, x9, x10, x11] ∧ Sta ν A K kp 100) ⟨A, K, none, none, none, rfl, st⟩ (fun i e ν ⟨_, _, _, _, _, _, st⟩ => ⟨getL_at st.hs, getL_at st.ks⟩) ?_ ?_
    · rintro i y e ν hy ⟨A, K, x9, x10, x11, rfl, st⟩
      have hi : i < 2 := (List.getElem?_eq_some_iff.mp hy).1
      have ey : y = mkTup [.ref (2 * i), .ref (kp i)] := by
        have : i = 0 ∨ i = 1 := by omega
        rcases this with rfl | rfl
        · exact (Option.some.inj hy).symm
        · exact (Option.some.inj hy).symm
      subst ey
      refine ⟨_, rfl, ?_⟩
      have gk := st.kl i hi
      have pm := st.pm i hi
      have le := st.le i hi
      have lk := pm.length_eq
      repeat walk_at "x"
      refine ⟨_, rfl, ?_⟩
      try rw [List.length_map]
      generalize hN : ((K i).length : Int) + 1 = N
      have n0 : 0 ≤ N := by omega
      have n1 : N ≤ 200 := by omega
      refine w_rg (by omega) (by simp [bigL]; omega) ?_
      refine w_loop (fun j e ν => ∃ (A' K' : Nat → List (List Int)) (x11 : Option W), e = [some (.t (.scr ns)), some (.ref 4), some (.ref 7), x3, x4, x5, x6, x7, x8, some (.ref (2 * i)), some (.ref (kp i)), x11] ∧ Sta ν A' K' kp 100) ⟨A, K, x11, rfl, st⟩ (fun _ _ _ _ => True.intro) ?_ ?_
      · rintro j y e ν hy ⟨A', K', x11, rfl, st⟩
        refine ⟨_, rfl, ?_⟩
        repeat walk_at "x"
        refine w_call rfl (st.taken hi (by decide) fun μ' A2 K2 st2 hlen keep => ?_)
        have gk2 := st2.kl i hi
        have lk2 := (st2.pm i hi).length_eq
        repeat walk_at "x"
        refine ⟨0, _, _, _, insAt_at (st2.hp i hi).ob, rfl, rfl, ?_⟩
        repeat walk_at "x"
        refine w_call rfl (many_ok (st2.hp i hi) ?_)
        repeat walk_at "x"
        try rw [List.length_map, lk2]
        refine p_neg (by simp) ?_
        repeat walk_at "x"
        exact ⟨A2, K2, _, rfl, st2⟩
      · rintro e ν ⟨A', K', x11, rfl, st⟩
        repeat walk_at "x"
        exact ⟨A', K', _, _, _, rfl, st⟩
    · rintro e ν ⟨A, K, x9, x10, x11, rfl, st⟩
      repeat walk_at "x"
      refine w_call rfl (is_heap_ok (ts := []) (isL_ref at_new) rfl (by decide) ?_)
      rw [intsT_some []]
      exact w_fin_drop' (μ := []) rfl (by simp) (fun o h => by cases h) rfl rfl
end HQ
namespace HQ
open PySem PySem.Spec PyProof.Rows L2
def dd_is_whole : He.DefD := ⟨("is_whole", none), "is_whole", "is_whole", defArgs (top 1), defBody (top 1), defScope (top 1), [], []⟩
def dd_is_row : He.DefD := ⟨("is_row", none), "is_row", "is_row", defArgs (top 3), defBody (top 3), defScope (top 3), [], []⟩
def dd_is_heap : He.DefD := ⟨("is_heap", none), "is_heap", "is_heap", defArgs (top 4), defBody (top 4), defScope (top 4), [], []⟩
def dd_Heap_init : He.DefD := ⟨("Heap", some "__init__"), "__init__", "Heap.__init__", defArgs (mth 5 0), defBody (mth 5 0), defScope (mth 5 0), [], []⟩
def dd__law_cell : He.DefD := ⟨("_law_cell", none), "_law_cell", "_law_cell", defArgs (top 7), defBody (top 7), defScope (top 7), [], []⟩
def dd__law_box : He.DefD := ⟨("_law_box", none), "_law_box", "_law_box", defArgs (top 8), defBody (top 8), defScope (top 8), [], []⟩
def dd__law_take : He.DefD := ⟨("_law_take", none), "_law_take", "_law_take", defArgs (top 9), defBody (top 9), defScope (top 9), [], []⟩
def dd__law_row : He.DefD := ⟨("_law_row", none), "_law_row", "_law_row", defArgs (top 11), defBody (top 11), defScope (top 11), [], []⟩
def dd__law_other : He.DefD := ⟨("_law_other", none), "_law_other", "_law_other", defArgs (top 13), defBody (top 13), defScope (top 13), [], []⟩
def dd_Heap_swap : He.DefD := ⟨("Heap", some "swap"), "swap", "Heap.swap", defArgs (mth 5 3), defBody (mth 5 3), defScope (mth 5 3), [], []⟩
def dd_Heap_put : He.DefD := ⟨("Heap", some "put"), "put", "Heap.put", defArgs (mth 5 4), defBody (mth 5 4), defScope (mth 5 4), [], []⟩
def dd_Heap_rows : He.DefD := ⟨("Heap", some "rows"), "rows", "Heap.rows", defArgs (mth 5 2), defBody (mth 5 2), defScope (mth 5 2), [], []⟩
def dd_Heap_lesser : He.DefD := ⟨("Heap", some "lesser"), "lesser", "Heap.lesser", defArgs (mth 5 5), defBody (mth 5 5), defScope (mth 5 5), [], []⟩
def dd_Heap_sink : He.DefD := ⟨("Heap", some "sink"), "sink", "Heap.sink", defArgs (mth 5 7), defBody (mth 5 7), defScope (mth 5 7), [], []⟩
def dd_Heap_take : He.DefD := ⟨("Heap", some "take"), "take", "Heap.take", defArgs (mth 5 6), defBody (mth 5 6), defScope (mth 5 6), [], []⟩
def dd__law_taken : He.DefD := ⟨("_law_taken", none), "_law_taken", "_law_taken", defArgs (top 15), defBody (top 15), defScope (top 15), [], []⟩
def dd__law_whole : He.DefD := ⟨("_law_whole", none), "_law_whole", "_law_whole", defArgs (top 10), defBody (top 10), defScope (top 10), [], []⟩
def dd__law_has_form : He.DefD := ⟨("_law_has_form", none), "_law_has_form", "_law_has_form", defArgs (top 12), defBody (top 12), defScope (top 12), [], []⟩
def dd_Heap_many : He.DefD := ⟨("Heap", some "many"), "many", "Heap.many", defArgs (mth 5 1), defBody (mth 5 1), defScope (mth 5 1), [], []⟩
def dd__law_told : He.DefD := ⟨("_law_told", none), "_law_told", "_law_told", defArgs (top 14), defBody (top 14), defScope (top 14), [], []⟩
def dd_law : He.DefD := ⟨("law", none), "law", "law", defArgs (top 16), defBody (top 16), defScope (top 16), [], []⟩
def hfn : List He.DefD := [dd_is_whole, dd_is_row, dd_is_heap, dd_Heap_init, dd__law_cell, dd__law_box, dd__law_take, dd__law_row, dd__law_other, dd_Heap_swap, dd_Heap_put, dd_Heap_rows, dd_Heap_lesser, dd_Heap_sink, dd_Heap_take, dd__law_taken, dd__law_whole, dd__law_has_form, dd_Heap_many, dd__law_told, dd_law]
def hfa : List He.Fa := [.glo "is_whole", .glo "is_row", .glo "is_heap", .glo "Heap", .mkr "Heap", .glo "_law_cell", .glo "_law_box", .glo "_law_take", .glo "_law_row", .glo "_law_other", .meth "Heap" "swap", .cls "Heap", .meth "Heap" "put", .meth "Heap" "rows", .meth "Heap" "lesser", .meth "Heap" "sink", .meth "Heap" "take", .glo "_law_taken", .glo "_law_whole", .glo "_law_has_form", .meth "Heap" "many", .glo "_law_told", .glo "law", .free "isinstance", .free "int", .free "bool", .free "list", .free "tuple", .free "len", .free "max", .free "min", .free "range", .free "all", .free "zip", .free "sorted", .noat "Heap" "kept"]
def hnames : List Str := ["is_whole", "is_row", "is_heap", "Heap", "_law_cell", "_law_box", "_law_take", "_law_row", "_law_other", "_law_taken", "_law_whole", "_law_has_form", "_law_told", "law"]
def hcls : List Str := ["Heap"]
def hD (K : PySem.W.Frag) : Ad := ⟨fun _ => 0, fun c => He.ga K (hcls.getD c ""), [], fun _ => ⟨"", "", ⟨[], [], none, [], [], none, []⟩, [], ⟨.function, [], false, false, []⟩, []⟩⟩
abbrev hR : PySem.W.OpenRow := PySem.W.OpenLaw.row PySem.Challenge.rw_homequay_k41_heaps
abbrev hkX : PySem.W.Hook := hookX hnames 5 [] hfa hfn
def hob (s : PySem.W.SharedT) : AlX := obsXG hnames 5 [] hfa hfn (HandSHeadRun.getT s)
theorem hob_eq (s : PySem.W.SharedT) : hob s = hkX.obs s.abs := obsXG_eq (HandSHeadRun.getT_eq s)
def hloose0 : List Str := ["is_whole", "is_row", "is_heap", "Heap", "_law_cell", "_law_box", "_law_take", "_law_whole", "_law_row", "_law_has_form", "_law_other", "_law_told", "_law_taken"]
abbrev hloose : List Str := hloose0
theorem hrun (w : World) : HandSHeadRun.RunEq hR (PySem.W.view hR.prog [16]) hkX hob 3000 hloose w := by
  intro os
  kernel_rfl
theorem hG {P : Program} {w : World} {K : PySem.W.Frag} {h : Heap} {mg : Str → Option Value} {base : Heap} (X : K.In h) (G : h.Ns mainGlobals mg) (c : SaysX [] hfa hfn K) : GF P K mg base (hD K) w := by
  constructor
  · exact ktB_ok
  · intro x hx
    have hx : x ∈ freeL := List.elem_iff.mp hx
    simp only [freeL, List.mem_cons, List.not_mem_nil, or_false] at hx
    rcases hx with rfl | rfl | rfl | rfl | rfl | rfl | rfl | rfl | rfl | rfl | rfl | rfl
    · exact He.free_ok X G (c.d.fact 23 (f := .free "isinstance") rfl)
    · exact He.free_ok X G (c.d.fact 24 (f := .free "int") rfl)
    · exact He.free_ok X G (c.d.fact 25 (f := .free "bool") rfl)
    · exact He.free_ok X G (c.d.fact 26 (f := .free "list") rfl)
    · exact He.free_ok X G (c.d.fact 27 (f := .free "tuple") rfl)
    · exact He.free_ok X G (c.d.fact 28 (f := .free "len") rfl)
    · exact He.free_ok X G (c.d.fact 29 (f := .free "max") rfl)
    · exact He.free_ok X G (c.d.fact 30 (f := .free "min") rfl)
    · exact He.free_ok X G (c.d.fact 31 (f := .free "range") rfl)
    · exact He.free_ok X G (c.d.fact 32 (f := .free "all") rfl)
    · exact He.free_ok X G (c.d.fact 33 (f := .free "zip") rfl)
    · exact He.free_ok X G (c.d.fact 34 (f := .free "sorted") rfl)
  · intro ci f hf
    unfold okF at hf
    split at hf
    · have hf := List.elem_iff.mp hf
      simp only [List.mem_cons, List.not_mem_nil, or_false] at hf
      rcases hf with rfl
      · exact ⟨He.cls_ok (x := "Heap") (c.d.fact 11 rfl), He.noat_ok (x := "Heap") (f := "kept") (c.d.fact 35 rfl)⟩
    · cases hf
  · obtain ⟨fd, F⟩ := c.d.def_ 0 (d := dd_is_whole) rfl
    exact ⟨_, fd, F, He.glo_ok X G (c.d.fact 0 (f := .glo "is_whole") rfl)⟩
  · obtain ⟨fd, F⟩ := c.d.def_ 1 (d := dd_is_row) rfl
    exact ⟨_, fd, F, He.glo_ok X G (c.d.fact 1 (f := .glo "is_row") rfl)⟩
  · obtain ⟨fd, F⟩ := c.d.def_ 2 (d := dd_is_heap) rfl
    exact ⟨_, fd, F, He.glo_ok X G (c.d.fact 2 (f := .glo "is_heap") rfl)⟩
  · obtain ⟨fd, F⟩ := c.d.def_ 3 (d := dd_Heap_init) rfl
    exact ⟨_, fd, F, He.mkr_ok (x := "Heap") (c.d.fact 4 rfl), He.glo_ok X G (c.d.fact 3 (f := .glo "Heap") rfl)⟩
  · obtain ⟨fd, F⟩ := c.d.def_ 4 (d := dd__law_cell) rfl
    exact ⟨_, fd, F, He.glo_ok X G (c.d.fact 5 (f := .glo "_law_cell") rfl)⟩
  · obtain ⟨fd, F⟩ := c.d.def_ 5 (d := dd__law_box) rfl
    exact ⟨_, fd, F, He.glo_ok X G (c.d.fact 6 (f := .glo "_law_box") rfl)⟩
  · obtain ⟨fd, F⟩ := c.d.def_ 6 (d := dd__law_take) rfl
    exact ⟨_, fd, F, He.glo_ok X G (c.d.fact 7 (f := .glo "_law_take") rfl)⟩
  · obtain ⟨fd, F⟩ := c.d.def_ 7 (d := dd__law_row) rfl
    exact ⟨_, fd, F, He.glo_ok X G (c.d.fact 8 (f := .glo "_law_row") rfl)⟩
  · obtain ⟨fd, F⟩ := c.d.def_ 8 (d := dd__law_other) rfl
    exact ⟨_, fd, F, He.glo_ok X G (c.d.fact 9 (f := .glo "_law_other") rfl)⟩
  · obtain ⟨fd, F⟩ := c.d.def_ 9 (d := dd_Heap_swap) rfl
    exact ⟨_, fd, F, He.meth_ok (x := "Heap") (m := "swap") (c.d.fact 10 rfl), He.cls_ok (x := "Heap") (c.d.fact 11 rfl)⟩
  · obtain ⟨fd, F⟩ := c.d.def_ 10 (d := dd_Heap_put) rfl
    exact ⟨_, fd, F, He.meth_ok (x := "Heap") (m := "put") (c.d.fact 12 rfl), He.cls_ok (x := "Heap") (c.d.fact 11 rfl)⟩
  · obtain ⟨fd, F⟩ := c.d.def_ 11 (d := dd_Heap_rows) rfl
    exact ⟨_, fd, F, He.meth_ok (x := "Heap") (m := "rows") (c.d.fact 13 rfl), He.cls_ok (x := "Heap") (c.d.fact 11 rfl)⟩
  · obtain ⟨fd, F⟩ := c.d.def_ 12 (d := dd_Heap_lesser) rfl
    exact ⟨_, fd, F, He.meth_ok (x := "Heap") (m := "lesser") (c.d.fact 14 rfl), He.cls_ok (x := "Heap") (c.d.fact 11 rfl)⟩
  · obtain ⟨fd, F⟩ := c.d.def_ 13 (d := dd_Heap_sink) rfl
    exact ⟨_, fd, F, He.meth_ok (x := "Heap") (m := "sink") (c.d.fact 15 rfl), He.cls_ok (x := "Heap") (c.d.fact 11 rfl)⟩
  · obtain ⟨fd, F⟩ := c.d.def_ 14 (d := dd_Heap_take) rfl
    exact ⟨_, fd, F, He.meth_ok (x := "Heap") (m := "take") (c.d.fact 16 rfl), He.cls_ok (x := "Heap") (c.d.fact 11 rfl)⟩
  · obtain ⟨fd, F⟩ := c.d.def_ 15 (d := dd__law_taken) rfl
    exact ⟨_, fd, F, He.glo_ok X G (c.d.fact 17 (f := .glo "_law_taken") rfl)⟩
  · obtain ⟨fd, F⟩ := c.d.def_ 16 (d := dd__law_whole) rfl
    exact ⟨_, fd, F, He.glo_ok X G (c.d.fact 18 (f := .glo "_law_whole") rfl)⟩
  · obtain ⟨fd, F⟩ := c.d.def_ 17 (d := dd__law_has_form) rfl
    exact ⟨_, fd, F, He.glo_ok X G (c.d.fact 19 (f := .glo "_law_has_form") rfl)⟩
  · obtain ⟨fd, F⟩ := c.d.def_ 18 (d := dd_Heap_many) rfl
    exact ⟨_, fd, F, He.meth_ok (x := "Heap") (m := "many") (c.d.fact 20 rfl), He.cls_ok (x := "Heap") (c.d.fact 11 rfl)⟩
  · obtain ⟨fd, F⟩ := c.d.def_ 19 (d := dd__law_told) rfl
    exact ⟨_, fd, F, He.glo_ok X G (c.d.fact 21 (f := .glo "_law_told") rfl)⟩
  · obtain ⟨fd, F⟩ := c.d.def_ 20 (d := dd_law) rfl
    exact ⟨_, fd, F, He.glo_ok X G (c.d.fact 22 (f := .glo "law") rfl)⟩
theorem hfacts {P : Program} {w : World} {K : PySem.W.Frag} {h : Heap} {mg : Str → Option Value} {f : Addr} (X : K.In h) (G : h.Ns mainGlobals mg) (hfa_ : mg ("law" : Str) = some (.ref f)) (c : SaysX [] hfa hfn K) :
    ∃ fd : FuncData, (∀ (s : Shared) (v : Value), BindsTo s fd ⟨[v], []⟩ [("_law_script", v)]) ∧ ∀ base : Heap, K.In base → base.Ns mainGlobals mg → FnOk P w K mg base (L2.CX P w) 5 f fd ["_law_script"] (spF (hD K) w 1 F_law) := by
  obtain ⟨fA, fd, FD, hm⟩ := (hG (P := P) (w := w) (base := h) X G c).def_law
  have e := hfa_.symm.trans hm
  cases e
  have b := FunD.bindsA (ps := ["_law_script"]) FD fun _ _ _ _ _ _ us hl => match us, hl with | [_], _ => rfl
  refine ⟨fd, fun s v => b s [v] rfl, fun base _ _ => ?_⟩
  exact fo_law (hG (base := base) X G c) FD
end HQ
open PySem PySem.W PySem.Calls PyProof.Rows
set_option maxHeartbeats 0
theorem PySem.Challenge.cw_homequay_k41_heaps_holds : PySem.Challenge.rw_homequay_k41_heaps.Holds := by
  w_on; o_law
  refine HandSHeadRun.head_any (r := OpenLaw.row PySem.Challenge.rw_homequay_k41_heaps) (q := view (OpenLaw.row PySem.Challenge.rw_homequay_k41_heaps).prog [16]) (H := HQ.hkX) (ob := HQ.hob) (M := 3000) (loose := HQ.hloose) (d := HandSHeadRun.topDef (OpenLaw.row PySem.Challenge.rw_homequay_k41_heaps).prog 16) (kwd := []) HQ.hob_eq
    (by kernel_rfl) (fun s => by kernel_rfl) HQ.hrun (by kernel_rfl) (by kernel_rfl) (by kernel_rfl) (by rfl) (by first | assumption | decide +kernel) (by decide +kernel) ⟨rfl, rfl, rfl, rfl, rfl, by decide +kernel⟩ ?hw ?hc
  case hw => w_witness2
  case hc =>
    refine HQ.walk_ofW (l := PySem.Challenge.rw_homequay_k41_heaps) (n := 63) (k := 5) (x := "_law_script") (CX := fun w => L2.CX (PySem.Challenge.rw_homequay_k41_heaps).prog w) rfl (by decide) (by kernel_rfl) ⟨rfl, by decide, by decide⟩ ?F fun _ _ _ _ _ ⟨_, _, _, _, _, _, _, _, _, _, _, _, h⟩ => h
    intro w mg fa h Y G hmg0
    obtain ⟨K, KX, c⟩ := Y
    have hmg : mg ("law" : PySem.Str) = some (.ref fa) := by
      have e : (HandSHeadRun.topDef (OpenLaw.row PySem.Challenge.rw_homequay_k41_heaps).prog 16).name = ("law" : PySem.Str) := by kernel_rfl
      rw [← e]
      exact hmg0
    obtain ⟨fd, hb, hF⟩ := HQ.hfacts (P := (PySem.Challenge.rw_homequay_k41_heaps).prog) (w := w) KX G hmg c
    exact ⟨K, fd, HQ.spF (HQ.hD K) w 1 HQ.F_law, KX, hb, fun H a ns hl hO hS => HQ.law_sp (fun p hp => by cases hp) (fun _ _ h => c.noL h) hS (HQ.law_ok ns hl), hF⟩
