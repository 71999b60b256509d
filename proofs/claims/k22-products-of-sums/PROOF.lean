import PyProof.Rows.All
import Wide.All
import OpenK.AllK
import Wide.FinOn
import KE.OsRunLaw
import HandS.ForMost
import HandS.Rev
import HandS.Zip
import HandS.IsInst
import HandS.Wide
import HandS.WideBits
import HandS.TupAny
import HandS.TupMul
import HandS.Conv
import HandS.NoneIn
import KE.KeyNested
import HandS.Lambda
import HandS.EndBits
import KE.KNest
import KE.KNestM
import KE.DataMinMax
import KE.SortData
import HandS.SortKw
import HandS.TupSets
import HandS.Deep
import HandS.DictTup
import HandS.TupLen
import KE.KDictCopyH
import KE.KDictKeyed
import KE.DataCmp
import HandS.DictEq
import KE.GoesEnum
import KE.KDictZip
import KE.GoesMore
import HandS.ListItems
import KE.KTurns
import HandS.Style
import KE.DataAny
import HandS.Zip0
import PyProof.ZipIter
import HandS.SetFor
import HandS.Strs
import HandS.Exc
import HandS.ExcOwn
import HandS.WordsExc
import HandS.TryElse
import KE.KExcIs
import KE.RegKTryMore
import KE.RegKIsAll
import KE.KDictDisplayH
import KE.SortKeyHeap
import PySem.Challenge.RW_bracketwords_k22_products_of_sums
set_option Elab.async false
set_option linter.all false
set_option maxRecDepth 100000
set_option maxHeartbeats 4000000
/-! DL: a data layer over HandS. Values as trees, the mutable objects apart, readings that compute. -/
namespace DL
open PySem PySem.Spec PyProof.Rows L2

/-- data: what is never written is a tree, what may be written is an address -/
inductive D where
  | non | bl (b : Bool) | int (i : Int) | str (x : Str)
  | tup (ds : List D) | lst (ds : List D)
  | dT (ks : List (List Key)) (ds : List D) | dK (ks : List Key) (ds : List D)
  | scr (ns : List Int)
  | ref (a : Addr)
  | exc (k : Nat) | exc1 (k : Nat) (d : D)
  | kt (ds : List D)

/-- objects that may be written -/
structure Cl where
  name : Str
  fs : List Str
inductive DO where
  | lst (ds : List D) | dT (ks : List (List Key)) (ds : List D) | dK (ks : List Key) (ds : List D) | ins (c : Cl) (ds : List D)
  | dN (o : Obj) (ks ds : List D)
  | fz (d : D)
def isFz : DO → Bool
  | .fz _ => true
  | _ => false

abbrev LH := Addr → Option DO
def uL (l : LH) (a : Addr) (o : DO) : LH := fun b => if b = a then some o else l b
theorem uL_same {l : LH} {a : Addr} {o : DO} : uL l a o a = some o := by unfold uL; rw [if_pos rfl]
theorem uL_ne {l : LH} {a b : Addr} {o : DO} (h : b ≠ a) : uL l a o b = l b := by unfold uL; rw [if_neg h]
theorem uL_uL {l : LH} {a : Addr} {o u : DO} : uL (uL l a o) a u = uL l a u := by
  funext b; unfold uL; split <;> rfl
def dL (l : LH) (a : Addr) : LH := fun b => if b = a then none else l b

/-- the program's own exceptions, numbered, and the field of each -/
def exNames : List Str := ["BracketError", "NoGround", "NoPlace", "TooLong", "NoRules", "NoPut", "BadText", "NoLetter", "NoName", "TooGreat", "BadName", "Ring", "BadRow"]
def exN (k : Nat) : Str := exNames.getD k "BracketError"
def exF (k : Nat) : Str := ["", "", "", "", "", "", "at", "letter", "name", "", "", "ring", "line"].getD k ""
/-- a caught exception of the class cls, its dict at d -/
def ExH (cls : Value) (d : Option Addr) (a : Addr) : HO := .ext fun h => ∃ (oe : Obj) (vs : Array Value), h.get? a = some oe ∧ oe.cls = cls ∧ oe.dict = d ∧ oe.data = .fields vs
mutual
inductive RelD (K : PySem.W.Frag) (F : Hp) : D → V → Prop
  | non : RelD K F .non .non
  | bl (b : Bool) : RelD K F (.bl b) (.bl b)
  | int (i : Int) : RelD K F (.int i) (.int i)
  | str (x : Str) : RelD K F (.str x) (.str x)
  | ref (a : Addr) : RelD K F (.ref a) (.ref a)
  | tup {p : Addr} {vs : List V} {ds : List D} : F p = some (.tup vs) → RelDs K F ds vs → RelD K F (.tup ds) (.ref p)
  | scr {p : Addr} {ns : List Int} : SqL K F p (ns.map V.int) → RelD K F (.scr ns) (.ref p)
  | lst {p : Addr} {vs : List V} {ds : List D} : F p = some (.lst vs) → RelDs K F ds vs → RelD K F (.lst ds) (.ref p)
  | dT {p : Addr} {od : Obj} {vs : List V} {ks : List (List Key)} {ds : List D} : F p = some (.frz od (.dT (ks.zip vs))) → ks.length = vs.length → RelDs K F ds vs → RelD K F (.dT ks ds) (.ref p)
  | dK {p : Addr} {od : Obj} {vs : List V} {ks : List Key} {ds : List D} : F p = some (.frz od (.dK (ks.zip vs))) → ks.length = vs.length → RelDs K F ds vs → RelD K F (.dK ks ds) (.ref p)
  | exc {p C : Addr} {k : Nat} : PySem.W.nsIn K mainGlobals (exN k) = some (some (.ref C)) → F p = some (ExH (.ref C) none p) → RelD K F (.exc k) (.ref p)
  | exc1 {p C dx : Addr} {k : Nat} {d : D} {v : V} : PySem.W.nsIn K mainGlobals (exN k) = some (some (.ref C)) → F p = some (ExH (.ref C) (some dx) p) → F dx = some (.xd [(exF k, v)]) → RelD K F d v → RelD K F (.exc1 k d) (.ref p)
  | kt {p : Addr} {od : Obj} {vs : List V} {ds : List D} : F p = some (.frz od (.tup vs)) → od.cls = .type "tuple" → od.dict = none → RelDs K F ds vs → RelD K F (.kt ds) (.ref p)
inductive RelDs (K : PySem.W.Frag) (F : Hp) : List D → List V → Prop
  | nil : RelDs K F [] []
  | cons {d : D} {ds : List D} {v : V} {vs : List V} : RelD K F d v → RelDs K F ds vs → RelDs K F (d :: ds) (v :: vs)
end

section
variable {K : PySem.W.Frag} {F F' F1 F2 H : Hp}
theorem rd_mono (h : Same F F') {a : Addr} {u : HO} : Rd F a u → Rd F' a u
  | .inl e => .inl (h _ _ e)
  | .inr ⟨o, e⟩ => .inr ⟨o, h _ _ e⟩
theorem sqT_mono (h : Same F F') {a : Addr} {xs : List V} : SqT K F a xs → SqT K F' a xs
  | .inl e => .inl (rd_mono h e)
  | .inr e => .inr e
theorem sqL_mono (h : Same F F') {a : Addr} {xs : List V} : SqL K F a xs → SqL K F' a xs
  | .inl e => .inl (rd_mono h e)
  | .inr e => .inr e
mutual
theorem RelD.mono (h : Same F F') : ∀ {d : D} {v : V}, RelD K F d v → RelD K F' d v
  | _, _, .non => .non
  | _, _, .bl b => .bl b
  | _, _, .int b => .int b
  | _, _, .str b => .str b
  | _, _, .ref b => .ref b
  | _, _, .tup a b => .tup (h _ _ a) (RelDs.mono h b)
  | _, _, .scr a => .scr (sqL_mono h a)
  | _, _, .lst a b => .lst (h _ _ a) (RelDs.mono h b)
  | _, _, .dT a e b => .dT (h _ _ a) e (RelDs.mono h b)
  | _, _, .dK a e b => .dK (h _ _ a) e (RelDs.mono h b)
  | _, _, .exc a e => .exc a (h _ _ e)
  | _, _, .exc1 a e f r => .exc1 a (h _ _ e) (h _ _ f) (RelD.mono h r)
  | _, _, .kt a e f r => .kt (h _ _ a) e f (RelDs.mono h r)
theorem RelDs.mono (h : Same F F') : ∀ {ds : List D} {vs : List V}, RelDs K F ds vs → RelDs K F' ds vs
  | _, _, .nil => .nil
  | _, _, .cons a b => .cons (RelD.mono h a) (RelDs.mono h b)
end
theorem RelDs.length : ∀ {ds : List D} {vs : List V}, RelDs K F ds vs → ds.length = vs.length
  | _, _, .nil => rfl
  | _, _, .cons _ b => by rw [List.length_cons, List.length_cons, b.length]
theorem RelDs.get : ∀ {ds : List D} {vs : List V} {i : Nat} {d : D}, RelDs K F ds vs → ds[i]? = some d → ∃ v, vs[i]? = some v ∧ RelD K F d v
  | _, _, _, _, .nil, e => by simp at e
  | _, _, 0, _, .cons r _, e => by simp at e; subst e; exact ⟨_, rfl, r⟩
  | _, _, i + 1, _, .cons _ t, e => by
    obtain ⟨u, h1, h2⟩ := RelDs.get (i := i) t (by simpa using e)
    exact ⟨u, by simpa using h1, h2⟩
theorem RelDs.append : ∀ {ds es : List D} {vs ws : List V}, RelDs K F ds vs → RelDs K F es ws → RelDs K F (ds ++ es) (vs ++ ws)
  | _, _, _, _, .nil, s => s
  | _, _, _, _, .cons r t, s => .cons r (RelDs.append t s)
theorem RelDs.take : ∀ {ds : List D} {vs : List V} (n : Nat), RelDs K F ds vs → RelDs K F (ds.take n) (vs.take n)
  | _, _, 0, _ => .nil
  | _, _, _ + 1, .nil => .nil
  | _, _, n + 1, .cons r t => .cons r (RelDs.take n t)
theorem RelDs.drop : ∀ {ds : List D} {vs : List V} (n : Nat), RelDs K F ds vs → RelDs K F (ds.drop n) (vs.drop n)
  | _, _, 0, r => r
  | _, _, _ + 1, .nil => .nil
  | _, _, n + 1, .cons _ t => RelDs.drop n t
theorem RelDs.set {d : D} {v : V} (r : RelD K F d v) : ∀ {ds : List D} {vs : List V} (i : Nat), RelDs K F ds vs → RelDs K F (ds.set i d) (vs.set i v)
  | _, _, _, .nil => .nil
  | _, _, 0, .cons _ t => .cons r t
  | _, _, i + 1, .cons q t => .cons q (RelDs.set r i t)
theorem RelDs.reverse : ∀ {ds : List D} {vs : List V}, RelDs K F ds vs → RelDs K F ds.reverse vs.reverse
  | _, _, .nil => .nil
  | _, _, .cons r t => by
    rw [List.reverse_cons, List.reverse_cons]
    exact (RelDs.reverse t).append (.cons r .nil)
theorem RelDs.one {d : D} {vs : List V} (h : RelDs K F [d] vs) : ∃ v, vs = [v] ∧ RelD K F d v := by
  cases h with
  | cons a b => cases b; exact ⟨_, rfl, a⟩
theorem RelDs.two {d e : D} {vs : List V} (h : RelDs K F [d, e] vs) : ∃ v u, vs = [v, u] ∧ RelD K F d v ∧ RelD K F e u := by
  cases h with
  | cons a b =>
    obtain ⟨u, rfl, r⟩ := b.one
    exact ⟨_, u, rfl, a, r⟩
theorem RelDs.ints : ∀ {ns : List Int} {vs : List V}, RelDs K F (ns.map D.int) vs → vs = ns.map V.int
  | [], _, .nil => rfl
  | n :: ns, _, .cons a b => by cases a; rw [RelDs.ints b]; rfl
theorem relDs_ints : ∀ (ns : List Int), RelDs K F (ns.map D.int) (ns.map V.int)
  | [] => .nil
  | n :: ns => .cons (.int n) (relDs_ints ns)
theorem RelDs.bls : ∀ {ns : List Bool} {vs : List V}, RelDs K F (ns.map D.bl) vs → vs = ns.map V.bl
  | [], _, .nil => rfl
  | n :: ns, _, .cons a b => by cases a; rw [RelDs.bls b]; rfl
end

/-! ### dicts whose keys are tuples of any depth: numbers, truth values, None -/
mutual
def nkD : D → NestedKey
  | .bl b => .num (if b = true then 1 else 0)
  | .int i => .num i
  | .tup ds => .tup (nksD ds)
  | _ => .none
def nksD : List D → List NestedKey
  | [] => []
  | d :: ds => nkD d :: nksD ds
end
mutual
def nkOk : D → Bool
  | .non => true
  | .bl _ => true
  | .int _ => true
  | .tup ds => nksOk ds
  | _ => false
def nksOk : List D → Bool
  | [] => true
  | d :: ds => nkOk d && nksOk ds
end
/-- a key: a tuple -/
def nkT : D → Bool
  | .tup ds => nksOk ds && decide ((nkD (.tup ds)).depth ≤ 8)
  | _ => false
/-- the object at a is just o -/
def EO (a : Addr) (o : Obj) : HO := .ext fun h => h.get? a = some o
structure NdF (o : Obj) (a : Addr) (ks : List D) (as : List Addr) (vs : List V) : Prop where
  sys : (a == sysModules) = false
  few : ks.length ≤ sizeLine
  len1 : as.length = ks.length
  len2 : vs.length = ks.length
  ok : ∀ k ∈ ks, nkT k = true
  one : (ks.map nkD).Nodup
  dict : o.ExactDict
  es : ∃ (es : Array DictEntry) (ep : Nat) (us : List Value), o.data = .dict es ep ∧ Vals vs us ∧ ∀ (P : Program) (w : World), es.toList = ((ks.map nkD).zip (as.zip us)).map (entryOfKey (nestedKind P w))
theorem tq {K : PySem.W.Frag} {H : Hp} {p : Addr} {vs : List V} (e : H p = some (.tup vs)) : SqT K H p vs := .inl (.inl e)
/-! ### what is held: F never changes, Fr is kept by what runs, l may be written -/
def DOk (K : PySem.W.Frag) (F H : Hp) (a : Addr) : DO → Prop
  | .lst ds => ∃ vs, RelDs K F ds vs ∧ H a = some (.lst vs)
  | .dT ks ds => ∃ vs, RelDs K F ds vs ∧ ks.length = vs.length ∧ H a = some (.dT (ks.zip vs))
  | .dK ks ds => ∃ vs, RelDs K F ds vs ∧ ks.length = vs.length ∧ H a = some (.dK (ks.zip vs))
  | .ins c ds => ∃ C dx vs, RelDs K F ds vs ∧ PySem.W.nsIn K mainGlobals c.name = some (some (.ref C)) ∧ vs.length ≤ c.fs.length ∧ H a = some (.ins C dx (c.fs.zip vs))
  | .dN o ks ds => ∃ (as : List Addr) (vs : List V), RelDs K F ks (as.map V.ref) ∧ RelDs K F ds vs ∧ NdF o a ks as vs ∧ H a = some (EO a o)
  | .fz d => RelD K F d (.ref a) ∧ ∃ u, F a = some u
theorem DOk.mono {K : PySem.W.Frag} {F F' H H' : Hp} {a : Addr} {o : DO} (h : Same F F') (e : H' a = H a) (x : DOk K F H a o) : DOk K F' H' a o := by
  cases o with
  | lst ds => obtain ⟨vs, r, q⟩ := x; exact ⟨vs, r.mono h, e.trans q⟩
  | dT ks ds => obtain ⟨vs, r, n, q⟩ := x; exact ⟨vs, r.mono h, n, e.trans q⟩
  | dK ks ds => obtain ⟨vs, r, n, q⟩ := x; exact ⟨vs, r.mono h, n, e.trans q⟩
  | ins c ds => obtain ⟨C, dx, vs, r, z, n, q⟩ := x; exact ⟨C, dx, vs, r.mono h, z, n, e.trans q⟩
  | dN o ks ds => obtain ⟨as, vs, r, r2, f, q⟩ := x; exact ⟨as, vs, r.mono h, r2.mono h, f, e.trans q⟩
  | fz d => obtain ⟨r, u, q⟩ := x; exact ⟨r.mono h, u, h _ _ q⟩
theorem DOk.there {K : PySem.W.Frag} {F H : Hp} {a : Addr} {o : DO} (s : Same F H) (x : DOk K F H a o) : ∃ u, H a = some u := by
  cases o with
  | lst ds => obtain ⟨vs, r, q⟩ := x; exact ⟨_, q⟩
  | dT ks ds => obtain ⟨vs, r, n, q⟩ := x; exact ⟨_, q⟩
  | dK ks ds => obtain ⟨vs, r, n, q⟩ := x; exact ⟨_, q⟩
  | ins c ds => obtain ⟨C, dx, vs, r, z, n, q⟩ := x; exact ⟨_, q⟩
  | dN o ks ds => obtain ⟨as, vs, r, r2, f, q⟩ := x; exact ⟨_, q⟩
  | fz d => obtain ⟨r, u, q⟩ := x; exact ⟨_, s _ _ q⟩

def isTupO : HO → Bool
  | .tup _ => true
  | .tbl _ => true
  | _ => false
/-! ### tables of code objects -/
def isTblO : HO → Bool
  | .tbl _ => true
  | _ => false
theorem tbl_of {o : HO} (h : isTupO o = false) : isTblO o = false := by
  cases o <;> first | rfl | cases h
def isTC : HO → Bool
  | .tbl _ => true
  | .ext _ => true
  | _ => false
/-- the def that makes lambdas -/
def lamMaker : Str := "laid_together"
def tabOf (K : PySem.W.Frag) : List (Addr × Str) := match PySem.W.tabIn K lamMaker with
  | some q => [(q.2, lamMaker ++ ".<locals>.<lambda>")]
  | none => []
/-- tables and what they tell of stay -/
def KeepT (H H' : Hp) : Prop := ∀ b o, ((∃ ps, o = .tbl ps) ∨ ∃ q, o = LamX.CodeO b q) → H b = some o → H' b = some o
theorem tabS_step {H H' : Hp} {P : Addr} {q : Str} (t : LamX.TabS H P q) (k : KeepT H H') : LamX.TabS H' P q := by
  obtain ⟨ps, h1, h2, h3⟩ := t
  refine ⟨ps, k _ _ (.inl ⟨_, rfl⟩) h1, h2, fun pos cv hc => ?_⟩
  obtain ⟨c, e1, e2⟩ := h3 pos cv hc
  exact ⟨c, e1, k _ _ (.inr ⟨_, rfl⟩) e2⟩
theorem keep_new {H : Hp} {p : Addr} {o : HO} (n : H p = none) : KeepT H (upd H p o) := fun b x _ e => by
  rw [upd_ne (ne_of_none e n)]
  exact e
theorem keep_at {H : Hp} {p : Addr} {o o' : HO} (e : H p = some o) (h : isTC o = false) : KeepT H (upd H p o') := fun b x hx q => by
  have hb : b ≠ p := fun z => by
    subst z
    rw [e] at q
    cases q
    rcases hx with ⟨ps, rfl⟩ | ⟨q, rfl⟩
    · cases h
    · cases h
  rw [upd_ne hb]
  exact q
theorem eo_code {a : Addr} {o : Obj} {q : Str} {es : Array DictEntry} {ep : Nat} (hd : o.data = .dict es ep) : EO a o ≠ LamX.CodeO a q := fun e => by
  have e' := HO.ext.inj e
  have hh : ({ (default : Heap) with objs := Array.replicate (a + 1) o } : Heap).get? a = some o := by
    obtain ⟨c, d, dt, sl⟩ := o
    have hd : dt = Data.dict es ep := hd
    subst hd
    simp [Heap.get?]
  have := (congrFun e' _).mp hh
  obtain ⟨oc, vs, t, h1, h2, _⟩ := this
  rw [hh] at h1
  cases h1
  rw [hd] at h2
  cases h2
theorem DOk.notbl {K : PySem.W.Frag} {F H : Hp} {a : Addr} {o : DO} (x : DOk K F H a o) (nf : isFz o = false) {u : HO} (e : H a = some u) : isTblO u = false := by
  cases o with
  | lst ds => obtain ⟨vs, _, q⟩ := x; rw [e] at q; cases q; rfl
  | dT ks ds => obtain ⟨vs, _, _, q⟩ := x; rw [e] at q; cases q; rfl
  | dK ks ds => obtain ⟨vs, _, _, q⟩ := x; rw [e] at q; cases q; rfl
  | ins c ds => obtain ⟨C, dx, vs, _, _, _, q⟩ := x; rw [e] at q; cases q; rfl
  | dN o ks ds => obtain ⟨as, vs, _, _, _, q⟩ := x; rw [e] at q; cases q; rfl
  | fz d => cases nf
theorem DOk.keep {K : PySem.W.Frag} {F H : Hp} {a : Addr} {o : DO} (x : DOk K F H a o) (nf : isFz o = false) {u : HO} : KeepT H (upd H a u) := by
  cases o with
  | lst ds => obtain ⟨vs, _, q⟩ := x; exact keep_at q rfl
  | dT ks ds => obtain ⟨vs, _, _, q⟩ := x; exact keep_at q rfl
  | dK ks ds => obtain ⟨vs, _, _, q⟩ := x; exact keep_at q rfl
  | ins c ds => obtain ⟨C, dx, vs, _, _, _, q⟩ := x; exact keep_at q rfl
  | dN o ks ds =>
    obtain ⟨as, vs, _, _, f, q⟩ := x
    intro b y hy e
    have hb : b ≠ a := fun z => by
      subst z
      rw [q] at e
      cases e
      rcases hy with ⟨ps, z⟩ | ⟨z, e⟩
      · cases z
      · obtain ⟨es, ep, us, hd, _⟩ := f.es
        exact eo_code hd e
    rw [upd_ne hb]
    exact e
  | fz d => cases nf
structure Rep (K : PySem.W.Frag) (F Fr : Hp) (l : LH) (H : Hp) : Prop where
  fz : Same F H
  fr : Same Fr H
  fd : ∀ a o, Fr a = some o → F a = none ∧ l a = none
  lv : ∀ a o, l a = some o → (isFz o = false → F a = none) ∧ DOk K F H a o
  ft : ∀ a vs, Fr a ≠ some (.tup vs)
  tb : ∀ p ∈ tabOf K, LamX.TabS H p.1 p.2
  nt : ∀ a o, F a = some o → isTblO o = false
  nr : ∀ a o, Fr a = some o → isTblO o = false

section
variable {K : PySem.W.Frag} {F F' F1 F2 Fr H : Hp} {l : LH} {p : Addr}
theorem Rep.F_none (r : Rep K F Fr l H) (n : H p = none) : F p = none := r.fz.free n
theorem Rep.Fr_none (r : Rep K F Fr l H) (n : H p = none) : Fr p = none := r.fr.free n
theorem Rep.l_none (r : Rep K F Fr l H) (n : H p = none) : l p = none := by
  cases q : l p with
  | none => rfl
  | some o =>
    obtain ⟨u, e⟩ := (r.lv p o q).2.there r.fz
    rw [n] at e; cases e
theorem same_upd {H : Hp} {p : Addr} {o : HO} (h : H p = none) : Same H (upd H p o) := fun b x e => by
  rw [upd_ne (ne_of_none e h)]
  exact e
theorem same_upd2 {F H : Hp} {p : Addr} {o : HO} (h : Same F H) : Same (upd F p o) (upd H p o) := fun b x e => by
  by_cases hb : b = p
  · subst hb; rw [upd_same] at e ⊢; exact e
  · rw [upd_ne hb] at e ⊢; exact h b x e
/-- a new object that stays as it is -/
theorem Rep.laid (r : Rep K F Fr l H) (n : H p = none) (o : HO) (ho : isTblO o = false := by rfl) : Rep K (upd F p o) Fr l (upd H p o) where
  fz := same_upd2 r.fz
  fr := fun b x e => by
    rw [upd_ne (fun z => by subst z; rw [r.Fr_none n] at e; cases e)]
    exact r.fr b x e
  fd := fun b x e => by
    have hb : b ≠ p := fun z => by subst z; rw [r.Fr_none n] at e; cases e
    rw [upd_ne hb]
    exact r.fd b x e
  lv := fun b x e => by
    have hb : b ≠ p := fun z => by subst z; rw [r.l_none n] at e; cases e
    obtain ⟨h1, h2⟩ := r.lv b x e
    rw [upd_ne hb]
    exact ⟨h1, h2.mono (same_upd (r.F_none n)) (upd_ne hb)⟩
  ft := r.ft
  tb := fun q hq => tabS_step (r.tb q hq) (keep_new n)
  nt := fun b x e => by
    by_cases hb : b = p
    · subst hb; rw [upd_same] at e; cases e; exact ho
    · rw [upd_ne hb] at e; exact r.nt b x e
  nr := r.nr
/-- a new object that may be written -/
theorem Rep.made (r : Rep K F Fr l H) (n : H p = none) {o : HO} {d : DO} (ok : DOk K F (upd H p o) p d) : Rep K F Fr (uL l p d) (upd H p o) where
  fz := fun b x e => by
    rw [upd_ne (fun z => by subst z; rw [r.F_none n] at e; cases e)]
    exact r.fz b x e
  fr := fun b x e => by
    rw [upd_ne (fun z => by subst z; rw [r.Fr_none n] at e; cases e)]
    exact r.fr b x e
  fd := fun b x e => by
    have hb : b ≠ p := fun z => by subst z; rw [r.Fr_none n] at e; cases e
    rw [uL_ne hb]
    exact r.fd b x e
  lv := fun b x e => by
    by_cases hb : b = p
    · subst hb; rw [uL_same] at e; cases e; exact ⟨fun _ => r.F_none n, ok⟩
    · rw [uL_ne hb] at e
      obtain ⟨h1, h2⟩ := r.lv b x e
      exact ⟨h1, h2.mono (fun _ _ q => q) (upd_ne hb)⟩
  ft := r.ft
  tb := fun q hq => tabS_step (r.tb q hq) (keep_new n)
  nt := r.nt
  nr := r.nr
/-- an object that may be written is -/
theorem Rep.write (r : Rep K F Fr l H) {a : Addr} {o : DO} (h : l a = some o) (nf : isFz o = false) {u : HO} {d : DO} (ok : DOk K F (upd H a u) a d) : Rep K F Fr (uL l a d) (upd H a u) where
  fz := fun b x e => by
    rw [upd_ne (fun z => by subst z; rw [(r.lv b o h).1 nf] at e; cases e)]
    exact r.fz b x e
  fr := fun b x e => by
    rw [upd_ne (fun z => by subst z; rw [(r.fd b x e).2] at h; cases h)]
    exact r.fr b x e
  fd := fun b x e => by
    have hb : b ≠ a := fun z => by subst z; rw [(r.fd b x e).2] at h; cases h
    rw [uL_ne hb]
    exact r.fd b x e
  lv := fun b x e => by
    by_cases hb : b = a
    · subst hb; rw [uL_same] at e; cases e; exact ⟨fun _ => (r.lv b o h).1 nf, ok⟩
    · rw [uL_ne hb] at e
      obtain ⟨h1, h2⟩ := r.lv b x e
      exact ⟨h1, h2.mono (fun _ _ q => q) (upd_ne hb)⟩
  ft := r.ft
  tb := fun q hq => tabS_step (r.tb q hq) ((r.lv a o h).2.keep nf)
  nt := r.nt
  nr := r.nr
theorem DOk.up {F : Hp} {ds : List D} {vs : List V} (r : RelDs K F ds vs) : DOk K F (upd H p (.lst vs)) p (.lst ds) := ⟨vs, r, upd_same⟩
/-- an own object that is kept by what runs: taken up -/
theorem Rep.take (r : Rep K F Fr l H) (n : H p = none) (o : HO) (ho : isTupO o = false := by rfl) : Rep K F (upd Fr p o) l (upd H p o) where
  fz := fun b x e => by
    rw [upd_ne (fun z => by subst z; rw [r.F_none n] at e; cases e)]
    exact r.fz b x e
  fr := same_upd2 r.fr
  fd := fun b x e => by
    by_cases hb : b = p
    · subst hb; exact ⟨r.F_none n, r.l_none n⟩
    · rw [upd_ne hb] at e; exact r.fd b x e
  lv := fun b x e => by
    have hb : b ≠ p := fun z => by subst z; rw [r.l_none n] at e; cases e
    obtain ⟨h1, h2⟩ := r.lv b x e
    exact ⟨h1, h2.mono (fun _ _ q => q) (upd_ne hb)⟩
  ft := fun b vs e => by
    by_cases hb : b = p
    · subst hb; rw [upd_same] at e; cases e; cases ho
    · rw [upd_ne hb] at e; exact r.ft b vs e
  tb := fun q hq => tabS_step (r.tb q hq) (keep_new n)
  nt := r.nt
  nr := fun b x e => by
    by_cases hb : b = p
    · subst hb; rw [upd_same] at e; cases e; exact tbl_of ho
    · rw [upd_ne hb] at e; exact r.nr b x e
theorem Rep.turn (r : Rep K F (upd Fr p o) l H) (o' : HO) (ho : isTupO o' = false := by rfl) (hx : isTC o = false := by rfl) : Rep K F (upd Fr p o') l (upd H p o') where
  fz := fun b x e => by
    rw [upd_ne (fun z => by subst z; rw [(r.fd b o upd_same).1] at e; cases e)]
    exact r.fz b x e
  fr := fun b x e => by
    by_cases hb : b = p
    · subst hb; rw [upd_same] at e ⊢; exact e
    · rw [upd_ne hb] at e ⊢
      exact r.fr b x (by rw [upd_ne hb]; exact e)
  fd := fun b x e => by
    by_cases hb : b = p
    · subst hb; exact r.fd b o upd_same
    · rw [upd_ne hb] at e; exact r.fd b x (by rw [upd_ne hb]; exact e)
  lv := fun b x e => by
    have hb : b ≠ p := fun z => by subst z; rw [(r.fd b o upd_same).2] at e; cases e
    obtain ⟨h1, h2⟩ := r.lv b x e
    exact ⟨h1, h2.mono (fun _ _ q => q) (upd_ne hb)⟩
  ft := fun b vs e => by
    by_cases hb : b = p
    · subst hb; rw [upd_same] at e; cases e; cases ho
    · rw [upd_ne hb] at e; exact r.ft b vs (by rw [upd_ne hb]; exact e)
  tb := fun q hq => tabS_step (r.tb q hq) (keep_at (r.fr _ _ upd_same) hx)
  nt := r.nt
  nr := fun b x e => by
    by_cases hb : b = p
    · subst hb; rw [upd_same] at e; cases e; exact tbl_of ho
    · rw [upd_ne hb] at e; exact r.nr b x (by rw [upd_ne hb]; exact e)
/-- given out as what never changes -/
theorem Rep.give (r : Rep K F (upd Fr p o) l H) (n : Fr p = none) : Rep K (upd F p o) Fr l H where
  fz := fun b x e => by
    by_cases hb : b = p
    · subst hb; rw [upd_same] at e; exact r.fr b x (by rw [upd_same]; exact e)
    · rw [upd_ne hb] at e; exact r.fz b x e
  fr := fun b x e => by
    have hb : b ≠ p := fun z => by subst z; rw [n] at e; cases e
    exact r.fr b x (by rw [upd_ne hb]; exact e)
  fd := fun b x e => by
    have hb : b ≠ p := fun z => by subst z; rw [n] at e; cases e
    rw [upd_ne hb]
    exact r.fd b x (by rw [upd_ne hb]; exact e)
  lv := fun b x e => by
    have hb : b ≠ p := fun z => by subst z; rw [(r.fd b o upd_same).2] at e; cases e
    obtain ⟨h1, h2⟩ := r.lv b x e
    rw [upd_ne hb]
    exact ⟨h1, h2.mono (same_upd (r.fd p o upd_same).1) rfl⟩
  ft := fun b vs e => by
    have hb : b ≠ p := fun z => by subst z; rw [n] at e; cases e
    exact r.ft b vs (by rw [upd_ne hb]; exact e)
  tb := r.tb
  nt := fun b x e => by
    by_cases hb : b = p
    · subst hb; rw [upd_same] at e; cases e; exact r.nr b _ upd_same
    · rw [upd_ne hb] at e; exact r.nt b x e
  nr := fun b x e => r.nr b x (by rw [upd_ne (fun z => by subst z; rw [n] at e; cases e)]; exact e)
/-- given out as what may be written -/
theorem Rep.giveL (r : Rep K F (upd Fr p o) l H) (n : Fr p = none) {d : DO} (ok : DOk K F H p d) : Rep K F Fr (uL l p d) H where
  fz := r.fz
  fr := fun b x e => by
    have hb : b ≠ p := fun z => by subst z; rw [n] at e; cases e
    exact r.fr b x (by rw [upd_ne hb]; exact e)
  fd := fun b x e => by
    have hb : b ≠ p := fun z => by subst z; rw [n] at e; cases e
    rw [uL_ne hb]
    exact r.fd b x (by rw [upd_ne hb]; exact e)
  lv := fun b x e => by
    by_cases hb : b = p
    · subst hb; rw [uL_same] at e; cases e; exact ⟨fun _ => (r.fd b o upd_same).1, ok⟩
    · rw [uL_ne hb] at e; exact r.lv b x e
  ft := fun b vs e => by
    have hb : b ≠ p := fun z => by subst z; rw [n] at e; cases e
    exact r.ft b vs (by rw [upd_ne hb]; exact e)
  tb := r.tb
  nt := r.nt
  nr := fun b x e => r.nr b x (by rw [upd_ne (fun z => by subst z; rw [n] at e; cases e)]; exact e)
/-- what may be written is from now on never written -/
theorem Rep.freeze (r : Rep K F Fr l H) {a : Addr} {o : DO} (h : l a = some o) (nf : isFz o = false) {u : HO} (e : H a = some u) : Rep K (upd F a u) Fr (dL l a) H where
  fz := fun b x q => by
    by_cases hb : b = a
    · subst hb; rw [upd_same] at q; cases q; exact e
    · rw [upd_ne hb] at q; exact r.fz b x q
  fr := r.fr
  fd := fun b x q => by
    have hb : b ≠ a := fun z => by subst z; rw [(r.fd b x q).2] at h; cases h
    unfold dL
    rw [upd_ne hb, if_neg hb]
    exact r.fd b x q
  lv := fun b x q => by
    unfold dL at q
    by_cases hb : b = a
    · rw [if_pos hb] at q; cases q
    · rw [if_neg hb] at q
      obtain ⟨h1, h2⟩ := r.lv b x q
      exact ⟨fun z => by rw [upd_ne hb]; exact h1 z, h2.mono (same_upd ((r.lv a o h).1 nf)) rfl⟩
  ft := r.ft
  tb := r.tb
  nt := fun b x q => by
    by_cases hb : b = a
    · subst hb; rw [upd_same] at q; cases q; exact (r.lv b o h).2.notbl nf e
    · rw [upd_ne hb] at q; exact r.nt b x q
  nr := r.nr
/-- a tuple that is there is kept -/
theorem Rep.tupIn (r : Rep K F Fr l H) {q : Addr} {vs : List V} (e : H q = some (.tup vs)) : ∃ F', Same F F' ∧ F' q = some (.tup vs) ∧ Rep K F' Fr l H := by
  cases hq : F q with
  | some u =>
    have := r.fz q u hq
    rw [e] at this; cases this
    exact ⟨F, Same.refl F, hq, r⟩
  | none =>
    refine ⟨upd F q (.tup vs), same_upd hq, upd_same, ?_⟩
    exact {
      fz := fun b x z => by
        by_cases hb : b = q
        · subst hb; rw [upd_same] at z; cases z; exact e
        · rw [upd_ne hb] at z; exact r.fz b x z
      fr := r.fr
      fd := fun b x z => by
        have hb : b ≠ q := fun w => by
          subst w
          have := r.fr b x z
          rw [e] at this; cases this
          exact r.ft _ _ z
        rw [upd_ne hb]
        exact r.fd b x z
      lv := fun b x z => by
        obtain ⟨h1, h2⟩ := r.lv b x z
        refine ⟨fun nf => ?_, h2.mono (same_upd hq) rfl⟩
        have hb : b ≠ q := fun w => by
          subst w
          cases x with
          | lst ds => obtain ⟨vs, _, q⟩ := h2; rw [e] at q; cases q
          | dT ks ds => obtain ⟨vs, _, _, q⟩ := h2; rw [e] at q; cases q
          | dK ks ds => obtain ⟨vs, _, _, q⟩ := h2; rw [e] at q; cases q
          | ins c ds => obtain ⟨C, dx, vs, _, _, _, q⟩ := h2; rw [e] at q; cases q
          | dN o ks ds => obtain ⟨as, vs, _, _, _, q⟩ := h2; rw [e] at q; cases q
          | fz d => cases nf
        rw [upd_ne hb]
        exact h1 nf
      ft := r.ft
      tb := r.tb
      nt := fun b x z => by
        by_cases hb : b = q
        · subst hb; rw [upd_same] at z; cases z; rfl
        · rw [upd_ne hb] at z; exact r.nt b x z
      nr := r.nr }
end
end DL

namespace DL
open PySem PySem.Spec PyProof.Rows L2

abbrev St := L2.St
/-! ### slots -/
abbrev DSt := List (Option D)
def RepE (K : PySem.W.Frag) (F : Hp) : DSt → St → Prop
  | [], [] => True
  | some d :: e, some v :: σ => RelD K F d v ∧ RepE K F e σ
  | none :: e, _ :: σ => RepE K F e σ
  | _, _ => False
def nthE : DSt → Nat → Option D
  | [], _ => none
  | x :: _, 0 => x
  | _ :: r, n + 1 => nthE r n
def setK : DSt → Nat → D → (DSt → Prop) → Prop
  | [], _, _, k => k []
  | _ :: r, 0, d, k => k (some d :: r)
  | x :: r, n + 1, d, k => setK r n d (fun r' => k (x :: r'))
def clrK : DSt → Nat → (DSt → Prop) → Prop
  | [], _, k => k []
  | _ :: r, 0, k => k (none :: r)
  | x :: r, n + 1, k => clrK r n (fun r' => k (x :: r'))
def wipeK : List Nat → DSt → (DSt → Prop) → Prop
  | [], e, k => k e
  | v :: vs, e, k => wipeK vs e (fun e' => clrK e' v k)
theorem setK_eq : ∀ (e : DSt) (i : Nat) (d : D) (k : DSt → Prop), setK e i d k = k (e.set i (some d))
  | [], _, _, _ => rfl
  | _ :: _, 0, _, _ => rfl
  | x :: r, n + 1, d, k => setK_eq r n d _
theorem clrK_eq : ∀ (e : DSt) (i : Nat) (k : DSt → Prop), clrK e i k = k (e.set i none)
  | [], _, _ => rfl
  | _ :: _, 0, _ => rfl
  | x :: r, n + 1, k => clrK_eq r n _
def wipeE (e : DSt) : List Nat → DSt
  | [] => e
  | v :: vs => (wipeE e vs).set v none
theorem wipeK_eq : ∀ (vs : List Nat) (e : DSt) (k : DSt → Prop), wipeK vs e k = k (wipeE e vs)
  | [], _, _ => rfl
  | v :: vs, e, k => by unfold wipeK; rw [wipeK_eq vs e]; exact clrK_eq _ _ _
section
variable {K : PySem.W.Frag} {F F' : Hp}
theorem RepE.mono (h : Same F F') : ∀ {e : DSt} {σ : St}, RepE K F e σ → RepE K F' e σ
  | [], [], _ => trivial
  | some d :: e, some v :: σ, ⟨a, b⟩ => ⟨a.mono h, RepE.mono h b⟩
  | none :: e, _ :: σ, b => RepE.mono h (e := e) (σ := σ) b
  | some _ :: _, none :: _, z => z.elim
  | [], _ :: _, z => z.elim
  | some _ :: _, [], z => z.elim
  | none :: _, [], z => z.elim
theorem RepE.get : ∀ {e : DSt} {σ : St} {i : Nat} {d : D}, RepE K F e σ → nthE e i = some d → ∃ v, σ[i]? = some (some v) ∧ RelD K F d v
  | [], _, _, _, _, q => by cases q
  | some d :: e, some v :: σ, 0, _, ⟨a, b⟩, q => by cases q; exact ⟨v, rfl, a⟩
  | none :: e, _ :: σ, 0, _, b, q => by cases q
  | some d :: e, some v :: σ, i + 1, _, ⟨a, b⟩, q => by
    obtain ⟨u, h1, h2⟩ := RepE.get (i := i) b q
    exact ⟨u, by simpa using h1, h2⟩
  | none :: e, _ :: σ, i + 1, _, b, q => by
    obtain ⟨u, h1, h2⟩ := RepE.get (e := e) (σ := σ) (i := i) b q
    exact ⟨u, by simpa using h1, h2⟩
  | some _ :: _, none :: _, _, _, z, _ => z.elim
  | some _ :: _, [], _, _, z, _ => z.elim
  | none :: _, [], _, _, z, _ => z.elim
theorem RepE.set {d : D} {v : V} (r : RelD K F d v) : ∀ {e : DSt} {σ : St} (i : Nat), RepE K F e σ → RepE K F (e.set i (some d)) (σ.set i (some v))
  | [], [], _, _ => trivial
  | some d :: e, some v :: σ, 0, ⟨a, b⟩ => ⟨r, b⟩
  | none :: e, _ :: σ, 0, b => ⟨r, b⟩
  | some d :: e, some v :: σ, i + 1, ⟨a, b⟩ => ⟨a, RepE.set r i b⟩
  | none :: e, _ :: σ, i + 1, b => RepE.set r (e := e) (σ := σ) i b
  | some _ :: _, none :: _, _, z => z.elim
  | [], _ :: _, _, z => z.elim
  | some _ :: _, [], _, z => z.elim
  | none :: _, [], _, z => z.elim
theorem RepE.clr : ∀ {e : DSt} {σ : St} (i : Nat) (x : Option V), RepE K F e σ → RepE K F (e.set i none) (σ.set i x)
  | [], [], _, _, _ => trivial
  | some d :: e, some v :: σ, 0, _, ⟨a, b⟩ => b
  | none :: e, _ :: σ, 0, _, b => b
  | some d :: e, some v :: σ, i + 1, x, ⟨a, b⟩ => ⟨a, RepE.clr i x b⟩
  | none :: e, _ :: σ, i + 1, x, b => RepE.clr (e := e) (σ := σ) i x b
  | some _ :: _, none :: _, _, _, z => z.elim
  | [], _ :: _, _, _, z => z.elim
  | some _ :: _, [], _, _, z => z.elim
  | none :: _, [], _, _, z => z.elim
theorem RepE.wipe {e : DSt} {σ : St} (r : RepE K F e σ) : ∀ vs : List Nat, RepE K F (wipeE e vs) (L2.wipe σ vs)
  | [] => r
  | v :: vs => RepE.clr v none (RepE.wipe r vs)
theorem RepE.start {ds : List D} {vs : List V} (r : RelDs K F ds vs) (n : Nat) : RepE K F (ds.map some ++ List.replicate n none) (vs.map some ++ List.replicate n none) := by
  induction r using RelDs.rec (motive_1 := fun _ _ _ => True) with
  | nil => 
    show RepE K F (List.replicate n none) (List.replicate n none)
    induction n with
    | zero => trivial
    | succ n ih => exact ih
  | cons a b _ ih => exact ⟨a, ih⟩
  | _ => trivial
end

/-! ### what is wanted -/
abbrev DK := D → LH → Prop
abbrev DTE := DSt → LH → DK → Prop
abbrev DTA := DSt → LH → (List D → LH → Prop) → Prop
abbrev DTT := DSt → LH → (Bool → LH → Prop) → Prop
abbrev DTG := D → DSt → LH → (DSt → LH → Prop) → Prop
abbrev DTI := DSt → LH → (List D → LH → Prop) → Prop
structure DEnds where
  nx : DSt → LH → Prop
  rt : DK
  bk : DSt → LH → Prop
  ct : DSt → LH → Prop
abbrev DTS := DEnds → DSt → LH → Prop

section
variable (K : PySem.W.Frag) (F Fr : Hp)
def LK (Q : DK) : VK := fun v H => ∃ F' d l, Same F F' ∧ RelD K F' d v ∧ Rep K F' Fr l H ∧ Q d l
def LA (Q : List D → LH → Prop) : List V → Hp → Prop := fun vs H => ∃ F' ds l, Same F F' ∧ RelDs K F' ds vs ∧ Rep K F' Fr l H ∧ Q ds l
def LB (Q : Bool → LH → Prop) : Bool → Hp → Prop := fun b H => ∃ F' l, Same F F' ∧ Rep K F' Fr l H ∧ Q b l
def LS (Q : DSt → LH → Prop) : St → Hp → Prop := fun σ H => ∃ F' e l, Same F F' ∧ RepE K F' e σ ∧ Rep K F' Fr l H ∧ Q e l
def LH' (Q : LH → Prop) : Hp → Prop := fun H => ∃ F' l, Same F F' ∧ Rep K F' Fr l H ∧ Q l
def LE (E : DEnds) : Ends := { nx := LS K F Fr E.nx, rt := LK K F Fr E.rt, bk := LS K F Fr E.bk, ct := LS K F Fr E.ct }
end
section
variable {K : PySem.W.Frag} {F F1 Fr : Hp}
theorem LK.weak (h : Same F F1) {Q : DK} {v : V} {H : Hp} : LK K F1 Fr Q v H → LK K F Fr Q v H
  | ⟨F', d, l, a, b⟩ => ⟨F', d, l, h.trans a, b⟩
theorem LA.weak (h : Same F F1) {Q : List D → LH → Prop} {v : List V} {H : Hp} : LA K F1 Fr Q v H → LA K F Fr Q v H
  | ⟨F', d, l, a, b⟩ => ⟨F', d, l, h.trans a, b⟩
theorem LB.weak (h : Same F F1) {Q : Bool → LH → Prop} {v : Bool} {H : Hp} : LB K F1 Fr Q v H → LB K F Fr Q v H
  | ⟨F', l, a, b⟩ => ⟨F', l, h.trans a, b⟩
theorem LS.weak (h : Same F F1) {Q : DSt → LH → Prop} {v : St} {H : Hp} : LS K F1 Fr Q v H → LS K F Fr Q v H
  | ⟨F', d, l, a, b⟩ => ⟨F', d, l, h.trans a, b⟩
theorem LK.mk {Q : DK} {v : V} {H : Hp} {d : D} {l : LH} (r : RelD K F d v) (p : Rep K F Fr l H) (q : Q d l) : LK K F Fr Q v H := ⟨F, d, l, Same.refl F, r, p, q⟩
theorem LK.new {Q : DK} {H : Hp} {d : D} {l : LH} {p : Addr} {o : HO} (n : H p = none) (R : Rep K F Fr l H) (r : RelD K (upd F p o) d (.ref p)) (q : Q d l) (ho : isTblO o = false := by rfl) : LK K F Fr Q (.ref p) (upd H p o) :=
  ⟨upd F p o, d, l, same_upd (R.F_none n), r, R.laid n o ho, q⟩
theorem relTup {p : Addr} {vs : List V} {ds : List D} (n : F p = none) (r : RelDs K F ds vs) : RelD K (upd F p (.tup vs)) (.tup ds) (.ref p) := .tup upd_same (r.mono (same_upd n))
theorem relLst {p : Addr} {vs : List V} {ds : List D} (n : F p = none) (r : RelDs K F ds vs) : RelD K (upd F p (.lst vs)) (.lst ds) (.ref p) := .lst upd_same (r.mono (same_upd n))
theorem LK.tup {Q : DK} {H : Hp} {vs : List V} {ds : List D} {l : LH} {p : Addr} (n : H p = none) (R : Rep K F Fr l H) (r : RelDs K F ds vs) (q : Q (.tup ds) l) : LK K F Fr Q (.ref p) (upd H p (.tup vs)) :=
  LK.new n R (relTup (R.F_none n) r) q
theorem LK.lst {Q : DK} {H : Hp} {vs : List V} {ds : List D} {l : LH} {p : Addr} (n : H p = none) (R : Rep K F Fr l H) (r : RelDs K F ds vs) (q : Q (.lst ds) l) : LK K F Fr Q (.ref p) (upd H p (.lst vs)) :=
  LK.new n R (relLst (R.F_none n) r) q
/-- a new list that may be written -/
def newL (o : DO) (l : LH) (Q : DK) : Prop := ∀ a, l a = none → Q (.ref a) (uL l a o)
theorem LK.mut {Q : DK} {H : Hp} {vs : List V} {ds : List D} {l : LH} {p : Addr} (n : H p = none) (R : Rep K F Fr l H) (r : RelDs K F ds vs) (q : newL (.lst ds) l Q) : LK K F Fr Q (.ref p) (upd H p (.lst vs)) :=
  ⟨F, .ref p, _, Same.refl F, .ref p, R.made n (show DOk K F _ p (.lst ds) from ⟨vs, r, upd_same⟩), q p (R.l_none n)⟩
end

/-! ### the strongest readings -/
def WE (X : Cx) (e : Expr) : TE := fun σ H Q => ∀ pins s, Inv X pins σ H s → wpAny (model X.prog X.w) X.A (eval e X.env) (EP X pins σ Q) X.xe s
def WT (X : Cx) (e : Expr) : TT := fun σ H Q => ∀ pins s, Inv X pins σ H s → wpAny (model X.prog X.w) X.A (isTrue e X.env (eval e X.env)) (TP X pins σ Q) X.xe s
def WW (X : Cx) (e : Expr) : TT := fun σ H Q => ∀ whole pins s, Inv X pins σ H s → wpAny (model X.prog X.w) X.A (isTrue e X.env whole) (TP X pins σ Q) X.xe s
def WA (X : Cx) (es : List Expr) : TA := fun σ H Q => ∀ pos pins s, Inv X pins σ H s → wpAny (model X.prog X.w) X.A (spliced (backTo pos (starEach es X.env))) (AP X pins σ Q) X.xe s
def WS (X : Cx) (st : Stmt) : TS := fun D σ H => ∀ pins s, Inv X pins σ H s → wpAny (model X.prog X.w) X.A (exec st X.env) (SP X pins D) X.xe s
def WSs (X : Cx) (st : List Stmt) : TS := fun D σ H => ∀ pins s, Inv X pins σ H s → wpAny (model X.prog X.w) X.A (execs st X.env) (SP X pins D) X.xe s
def WG (X : Cx) (tg : Expr) : TG := fun v σ H Q => ∀ pins s u, Inv X pins σ H s → RelV v u → wpAny (model X.prog X.w) X.A (assign tg X.env u) (fun _ s' => ∃ σ' H', Inv X pins σ' H' s' ∧ Q σ' H') X.xe s
def WGs (X : Cx) (ts : List Expr) : TGs := fun vs σ H Q => ∀ pins s us, Inv X pins σ H s → Vals vs us → wpAny (model X.prog X.w) X.A (assignInOrder ((assignEach ts X.env).map (·.2)) us) (fun _ s' => ∃ σ' H', Inv X pins σ' H' s' ∧ Q σ' H') X.xe s
section
variable {X : Cx}
theorem peW {e : Expr} : PE X e (WE X e) := ⟨fun pins s _ _ _ I h => h pins s I⟩
theorem ptW {e : Expr} : PT X e (WT X e) := ⟨fun pins s _ _ _ I h => h pins s I⟩
theorem pwW {e : Expr} : PW X e (WW X e) := ⟨fun whole pins s _ _ _ I h => h whole pins s I⟩
theorem paW {e : List Expr} : PA X e (WA X e) := ⟨fun pos pins s _ _ _ I h => h pos pins s I⟩
theorem psW {e : Stmt} : PS X e (WS X e) := ⟨fun pins s _ _ _ I h => h pins s I⟩
theorem pssW {e : List Stmt} : PSs X e (WSs X e) := ⟨fun pins s _ _ _ I h => h pins s I⟩
theorem pgW {e : Expr} : PG X e (WG X e) := ⟨fun pins s _ _ _ u _ I r h => h pins s u I r⟩
theorem pgsW {e : List Expr} : PGs X e (WGs X e) := ⟨fun pins s _ _ _ us _ I r h => h pins s us I r⟩
theorem EP.mono {pins : List (Addr × Obj)} {σ : St} {Q Q' : VK} {u : Value} {s : Shared} (h : ∀ v H, Q v H → Q' v H) : EP X pins σ Q u s → EP X pins σ Q' u s
  | ⟨v, H, a, b, c⟩ => ⟨v, H, a, b, h _ _ c⟩
theorem WE.mono {e : Expr} {σ : St} {H : Hp} {Q Q' : VK} (w : WE X e σ H Q) (h : ∀ v H, Q v H → Q' v H) : WE X e σ H Q' := fun pins s I => thn (w pins s I) fun _ _ q => EP.mono h q
theorem WT.mono {e : Expr} {σ : St} {H : Hp} {Q Q' : Bool → Hp → Prop} (w : WT X e σ H Q) (h : ∀ v H, Q v H → Q' v H) : WT X e σ H Q' := fun pins s I => thn (w pins s I) fun _ _ ⟨H, a, b⟩ => ⟨H, a, h _ _ b⟩
theorem WW.mono {e : Expr} {σ : St} {H : Hp} {Q Q' : Bool → Hp → Prop} (w : WW X e σ H Q) (h : ∀ v H, Q v H → Q' v H) : WW X e σ H Q' := fun whole pins s I => thn (w whole pins s I) fun _ _ ⟨H, a, b⟩ => ⟨H, a, h _ _ b⟩
theorem WA.mono {e : List Expr} {σ : St} {H : Hp} {Q Q' : List V → Hp → Prop} (w : WA X e σ H Q) (h : ∀ v H, Q v H → Q' v H) : WA X e σ H Q' := fun pos pins s I => thn (w pos pins s I) fun _ _ ⟨vs, H, a, b, c⟩ => ⟨vs, H, a, b, h _ _ c⟩
theorem SP.mono {pins : List (Addr × Obj)} {D D' : Ends} {f : Flow} {s : Shared} (h1 : ∀ σ H, D.nx σ H → D'.nx σ H) (h2 : ∀ v H, D.rt v H → D'.rt v H) (h3 : ∀ σ H, D.bk σ H → D'.bk σ H) (h4 : ∀ σ H, D.ct σ H → D'.ct σ H) (q : SP X pins D f s) : SP X pins D' f s := by
  cases f with
  | next => obtain ⟨σ, H, a, b⟩ := q; exact ⟨σ, H, a, h1 _ _ b⟩
  | brk => obtain ⟨σ, H, a, b⟩ := q; exact ⟨σ, H, a, h3 _ _ b⟩
  | cont => obtain ⟨σ, H, a, b⟩ := q; exact ⟨σ, H, a, h4 _ _ b⟩
  | ret u => obtain ⟨v, σ, H, a, b, c⟩ := q; exact ⟨v, σ, H, a, b, h2 _ _ c⟩
theorem WS.mono {e : Stmt} {σ : St} {H : Hp} {D D' : Ends} (w : WS X e D σ H) (h1 : ∀ σ H, D.nx σ H → D'.nx σ H) (h2 : ∀ v H, D.rt v H → D'.rt v H) (h3 : ∀ σ H, D.bk σ H → D'.bk σ H) (h4 : ∀ σ H, D.ct σ H → D'.ct σ H) : WS X e D' σ H := fun pins s I => thn (w pins s I) fun _ _ q => SP.mono h1 h2 h3 h4 q
theorem WSs.mono {e : List Stmt} {σ : St} {H : Hp} {D D' : Ends} (w : WSs X e D σ H) (h1 : ∀ σ H, D.nx σ H → D'.nx σ H) (h2 : ∀ v H, D.rt v H → D'.rt v H) (h3 : ∀ σ H, D.bk σ H → D'.bk σ H) (h4 : ∀ σ H, D.ct σ H → D'.ct σ H) : WSs X e D' σ H := fun pins s I => thn (w pins s I) fun _ _ q => SP.mono h1 h2 h3 h4 q
theorem WG.mono {e : Expr} {v : V} {σ : St} {H : Hp} {Q Q' : St → Hp → Prop} (w : WG X e v σ H Q) (h : ∀ σ H, Q σ H → Q' σ H) : WG X e v σ H Q' := fun pins s u I r => thn (w pins s u I r) fun _ _ ⟨σ, H, a, b⟩ => ⟨σ, H, a, h _ _ b⟩
theorem WGs.mono {e : List Expr} {v : List V} {σ : St} {H : Hp} {Q Q' : St → Hp → Prop} (w : WGs X e v σ H Q) (h : ∀ σ H, Q σ H → Q' σ H) : WGs X e v σ H Q' := fun pins s u I r => thn (w pins s u I r) fun _ _ ⟨σ, H, a, b⟩ => ⟨σ, H, a, h _ _ b⟩
theorem _root_.L2.PE.we {e : Expr} {t : TE} (h : PE X e t) {σ : St} {H : Hp} {Q : VK} (q : t σ H Q) : WE X e σ H Q := fun pins s I => h.run pins s σ H Q I q
theorem _root_.L2.PT.wt {e : Expr} {t : TT} (h : PT X e t) {σ : St} {H : Hp} {Q : Bool → Hp → Prop} (q : t σ H Q) : WT X e σ H Q := fun pins s I => h.run pins s σ H Q I q
theorem _root_.L2.PW.ww {e : Expr} {t : TT} (h : PW X e t) {σ : St} {H : Hp} {Q : Bool → Hp → Prop} (q : t σ H Q) : WW X e σ H Q := fun whole pins s I => h.run whole pins s σ H Q I q
theorem _root_.L2.PA.wa {e : List Expr} {t : TA} (h : PA X e t) {σ : St} {H : Hp} {Q : List V → Hp → Prop} (q : t σ H Q) : WA X e σ H Q := fun pos pins s I => h.run pos pins s σ H Q I q
theorem _root_.L2.PS.ws {e : Stmt} {t : TS} (h : PS X e t) {σ : St} {H : Hp} {D : Ends} (q : t D σ H) : WS X e D σ H := fun pins s I => h.run pins s σ H D I q
theorem _root_.L2.PSs.wss {e : List Stmt} {t : TS} (h : PSs X e t) {σ : St} {H : Hp} {D : Ends} (q : t D σ H) : WSs X e D σ H := fun pins s I => h.run pins s σ H D I q
theorem _root_.L2.PG.wg {e : Expr} {t : TG} (h : PG X e t) {v : V} {σ : St} {H : Hp} {Q : St → Hp → Prop} (q : t v σ H Q) : WG X e v σ H Q := fun pins s u I r => h.run pins s σ H v u Q I r q
theorem _root_.L2.PGs.wgs {e : List Expr} {t : TGs} (h : PGs X e t) {v : List V} {σ : St} {H : Hp} {Q : St → Hp → Prop} (q : t v σ H Q) : WGs X e v σ H Q := fun pins s u I r => h.run pins s σ H v u Q I r q
end

/-! ### the judgements -/
structure DE (X : Cx) (e : Expr) (t : DTE) : Prop where
  run : ∀ F Fr env l σ H Q, RepE X.K F env σ → Rep X.K F Fr l H → t env l Q → WE X e σ H (LK X.K F Fr Q)
instance {X : Cx} {e : Expr} {t : DTE} : CoeFun (DE X e t) (fun _ => ∀ F Fr env l σ H Q, RepE X.K F env σ → Rep X.K F Fr l H → t env l Q → WE X e σ H (LK X.K F Fr Q)) := ⟨DE.run⟩
structure DT (X : Cx) (e : Expr) (t : DTT) : Prop where
  run : ∀ F Fr env l σ H Q, RepE X.K F env σ → Rep X.K F Fr l H → t env l Q → WT X e σ H (LB X.K F Fr Q)
instance {X : Cx} {e : Expr} {t : DTT} : CoeFun (DT X e t) (fun _ => ∀ F Fr env l σ H Q, RepE X.K F env σ → Rep X.K F Fr l H → t env l Q → WT X e σ H (LB X.K F Fr Q)) := ⟨DT.run⟩
structure DW (X : Cx) (e : Expr) (t : DTT) : Prop where
  run : ∀ F Fr env l σ H Q, RepE X.K F env σ → Rep X.K F Fr l H → t env l Q → WW X e σ H (LB X.K F Fr Q)
instance {X : Cx} {e : Expr} {t : DTT} : CoeFun (DW X e t) (fun _ => ∀ F Fr env l σ H Q, RepE X.K F env σ → Rep X.K F Fr l H → t env l Q → WW X e σ H (LB X.K F Fr Q)) := ⟨DW.run⟩
structure DA (X : Cx) (e : List Expr) (t : DTA) : Prop where
  run : ∀ F Fr env l σ H Q, RepE X.K F env σ → Rep X.K F Fr l H → t env l Q → WA X e σ H (LA X.K F Fr Q)
instance {X : Cx} {e : List Expr} {t : DTA} : CoeFun (DA X e t) (fun _ => ∀ F Fr env l σ H Q, RepE X.K F env σ → Rep X.K F Fr l H → t env l Q → WA X e σ H (LA X.K F Fr Q)) := ⟨DA.run⟩
structure DS (X : Cx) (st : Stmt) (t : DTS) : Prop where
  run : ∀ F Fr env l σ H E, RepE X.K F env σ → Rep X.K F Fr l H → t E env l → WS X st (LE X.K F Fr E) σ H
instance {X : Cx} {st : Stmt} {t : DTS} : CoeFun (DS X st t) (fun _ => ∀ F Fr env l σ H E, RepE X.K F env σ → Rep X.K F Fr l H → t E env l → WS X st (LE X.K F Fr E) σ H) := ⟨DS.run⟩
structure DSs (X : Cx) (st : List Stmt) (t : DTS) : Prop where
  run : ∀ F Fr env l σ H E, RepE X.K F env σ → Rep X.K F Fr l H → t E env l → WSs X st (LE X.K F Fr E) σ H
instance {X : Cx} {st : List Stmt} {t : DTS} : CoeFun (DSs X st t) (fun _ => ∀ F Fr env l σ H E, RepE X.K F env σ → Rep X.K F Fr l H → t E env l → WSs X st (LE X.K F Fr E) σ H) := ⟨DSs.run⟩
/-- vs: the slots that the target may write -/
def LG (K : PySem.W.Frag) (F Fr : Hp) (vs : List Nat) (σ : St) (Q : DSt → LH → Prop) : St → Hp → Prop := fun σ' H => L2.wipe σ' vs = L2.wipe σ vs ∧ LS K F Fr Q σ' H
structure DG (X : Cx) (tg : Expr) (vs : List Nat) (g : DTG) : Prop where
  run : ∀ F Fr env l σ H d v Q, RepE X.K F env σ → Rep X.K F Fr l H → RelD X.K F d v → g d env l Q → WG X tg v σ H (LG X.K F Fr vs σ Q)
instance {X : Cx} {tg : Expr} {vs : List Nat} {g : DTG} : CoeFun (DG X tg vs g) (fun _ => ∀ F Fr env l σ H d v Q, RepE X.K F env σ → Rep X.K F Fr l H → RelD X.K F d v → g d env l Q → WG X tg v σ H (LG X.K F Fr vs σ Q)) := ⟨DG.run⟩
structure DGs (X : Cx) (tg : List Expr) (vs : List Nat) (g : List D → DSt → LH → (DSt → LH → Prop) → Prop) : Prop where
  run : ∀ F Fr env l σ H d v Q, RepE X.K F env σ → Rep X.K F Fr l H → RelDs X.K F d v → g d env l Q → WGs X tg v σ H (LG X.K F Fr vs σ Q)
instance {X : Cx} {tg : List Expr} {vs : List Nat} {g : List D → DSt → LH → (DSt → LH → Prop) → Prop} : CoeFun (DGs X tg vs g) (fun _ => ∀ F Fr env l σ H d v Q, RepE X.K F env σ → Rep X.K F Fr l H → RelDs X.K F d v → g d env l Q → WGs X tg v σ H (LG X.K F Fr vs σ Q)) := ⟨DGs.run⟩
/-- what an iterator gives: the items ds, the heap may be any that holds -/
def JOk (K : PySem.W.Frag) (F : Hp) (J : It) (ds : List D) : Prop := ∀ (i : Nat) F' Fr l H, Same F F' → Rep K F' Fr l H →
  (ds.length ≤ i → J.stop i H) ∧ (∀ d, ds[i]? = some d → J.go i H ∧ ∀ x H', J.yld i H x H' → ∃ F2, Same F' F2 ∧ RelD K F2 d x ∧ Rep K F2 Fr l H')
def WI (X : Cx) (tg iter : Expr) : TI := fun σ H R => ∀ pins s, Inv X pins σ H s → wpAny (model X.prog X.w) X.A (eval iter X.env) (fun v s1 => wpAny (model X.prog X.w) X.A (pyIter v) (PIE X pins σ tg R) X.xe s1) X.xe s
theorem piW {X : Cx} {tg iter : Expr} : PI X tg iter (WI X tg iter) := ⟨fun pins s σ H R I h => h pins s I⟩
theorem _root_.L2.PI.wi {X : Cx} {tg iter : Expr} {t : TI} (h : PI X tg iter t) {σ : St} {H : Hp} {R : It → Hp → Prop} (q : t σ H R) : WI X tg iter σ H R := fun pins s I => h.run pins s σ H R I q
theorem WI.mono {X : Cx} {tg iter : Expr} {σ : St} {H : Hp} {R R' : It → Hp → Prop} (w : WI X tg iter σ H R) (h : ∀ J H, R J H → R' J H) : WI X tg iter σ H R' := fun pins s I => thn (w pins s I) fun _ _ q => thn q fun _ _ ⟨it, fp, tn, J, H', a, b, c, d, e, f⟩ => ⟨it, fp, tn, J, H', a, b, c, d, e, h _ _ f⟩
def LI (K : PySem.W.Frag) (F Fr : Hp) (R : List D → LH → Prop) : It → Hp → Prop := fun J H => ∃ F1 l1 ds, Same F F1 ∧ Rep K F1 Fr l1 H ∧ JOk K F1 J ds ∧ R ds l1
structure DI (X : Cx) (tg iter : Expr) (t : DTI) : Prop where
  run : ∀ F Fr env l σ H R, RepE X.K F env σ → Rep X.K F Fr l H → t env l R → WI X tg iter σ H (LI X.K F Fr R)
instance {X : Cx} {tg iter : Expr} {t : DTI} : CoeFun (DI X tg iter t) (fun _ => ∀ F Fr env l σ H R, RepE X.K F env σ → Rep X.K F Fr l H → t env l R → WI X tg iter σ H (LI X.K F Fr R)) := ⟨DI.run⟩
end DL

namespace DL
open PySem PySem.Spec PyProof.Rows L2

/-! ### data as the library's data -/
mutual
def toPy : D → PyData
  | .non => .none
  | .bl b => .bool b
  | .int i => .int i
  | .str x => .str x
  | .tup ds => .tuple (toPys ds)
  | .lst ds => .list (toPys ds)
  | .dT _ _ => .dict []
  | .scr _ => .dict []
  | .dK _ _ => .dict []
  | .ref _ => .dict []
  | .exc _ => .dict []
  | .exc1 _ _ => .dict []
  | .kt ds => .tuple (toPys ds)
def toPys : List D → List PyData
  | [] => []
  | d :: ds => toPy d :: toPys ds
end
mutual
theorem RelD.dp {K : PySem.W.Frag} {F H : Hp} (h : Same F H) : ∀ {d : D} {v : V}, RelD K F d v → (toPy d).canLay0 = true → Dp K H v (toPy d)
  | _, _, .non, _ => .non
  | _, _, .bl b, _ => .bl b
  | _, _, .int b, _ => .int b
  | _, _, .str b, _ => .str b
  | _, _, .ref b, c => by rw [toPy, PyData.canLay0] at c; cases c
  | _, _, .scr b, c => by rw [toPy, PyData.canLay0] at c; cases c
  | _, _, .exc a b, c => by rw [toPy, PyData.canLay0] at c; cases c
  | _, _, .exc1 a b e f, c => by rw [toPy, PyData.canLay0] at c; cases c
  | _, _, .kt a e f b, c => by
    rw [toPy, PyData.canLay0] at c
    exact .tup (.inl (.inr ⟨_, h _ _ a⟩)) (RelDs.dp h b c)
  | _, _, .tup a b, c => by
    rw [toPy, PyData.canLay0] at c
    exact .tup (tq (h _ _ a)) (RelDs.dp h b c)
  | _, _, .lst a b, c => by
    rw [toPy, PyData.canLay0] at c
    exact .lst (.inl (.inl (h _ _ a))) (RelDs.dp h b c)
  | _, _, .dT a e b, c => by rw [toPy, PyData.canLay0] at c; cases c
  | _, _, .dK a e b, c => by rw [toPy, PyData.canLay0] at c; cases c
theorem RelDs.dp {K : PySem.W.Frag} {F H : Hp} (h : Same F H) : ∀ {ds : List D} {vs : List V}, RelDs K F ds vs → PyData.canLayAll0 (toPys ds) = true → DpAll K H vs (toPys ds)
  | _, _, .nil, _ => .nil
  | _, _, .cons a b, c => by
    rw [toPys, PyData.canLayAll0, Bool.and_eq_true] at c
    exact .cons (RelD.dp h a c.1) (RelDs.dp h b c.2)
end

/-! ### expressions -/
section
variable {X : Cx} {a b e : Expr} {ta tb tc te : DTE} {pos : Pos}
def dVar (i : Nat) : DTE := fun env l Q => match nthE env i with | some d => Q d l | none => False
def dC (d : D) : DTE := fun _ l Q => Q d l
theorem de_var (i : Nat) {x : Str} {pos : Pos} (hN : X.N[i]? = some x := by rfl) (hv : Vis X.env.scope x := by first | exact Or.inl rfl | exact Or.inr (Or.inl rfl) | exact Or.inr (Or.inr rfl)) (hd : (x == ("__debug__" : Str)) = false := by decide)
    (hcd : (x == ("__classdict__" : Str)) = false := by decide) : DE X (.Name x pos) (dVar i) := by
  refine ⟨?_⟩
  intro F Fr env l σ H Q he hr ht
  refine (pv i hN hv hd hcd).we ?_
  unfold dVar at ht
  cases q : nthE env i with
  | none => rw [q] at ht; exact ht.elim
  | some d =>
    rw [q] at ht
    obtain ⟨v, h1, h2⟩ := he.get q
    exact ⟨v, h1, LK.mk h2 hr ht⟩
theorem de_int {i j pos} : DE X (.Constant (.int i) j pos) (dC (.int i)) := ⟨fun F Fr env l σ H Q he hr ht => pe_int.we (LK.mk (.int i) hr ht)⟩
theorem de_bl {b j pos} : DE X (.Constant (.bool b) j pos) (dC (.bl b)) := ⟨fun F Fr env l σ H Q he hr ht => pe_bl.we (LK.mk (.bl b) hr ht)⟩
theorem de_non {j pos} : DE X (.Constant .none j pos) (dC .non) := ⟨fun F Fr env l σ H Q he hr ht => pe_non.we (LK.mk .non hr ht)⟩
theorem de_str {x j pos} : DE X (.Constant (.str x) j pos) (dC (.str x)) := ⟨fun F Fr env l σ H Q he hr ht => pe_str.we (LK.mk (.str x) hr ht)⟩
/-! operators, by values -/
def KOp (X : Cx) (r : R2) (k : D → D → LH → DK → Prop) : Prop := ∀ F Fr l H Q d e v u (Q' : VK), Rep X.K F Fr l H → RelD X.K F d v → RelD X.K F e u → (∀ v H, LK X.K F Fr Q v H → Q' v H) → k d e l Q → r v u H Q'
def KUn (X : Cx) (r : V → Hp → VK → Prop) (k : D → LH → DK → Prop) : Prop := ∀ F Fr l H Q d v (Q' : VK), Rep X.K F Fr l H → RelD X.K F d v → (∀ v H, LK X.K F Fr Q v H → Q' v H) → k d l Q → r v H Q'
def KCall (X : Cx) (r : List V → Hp → VK → Prop) (k : List D → LH → DK → Prop) : Prop := ∀ F Fr l H Q ds vs (Q' : VK), Rep X.K F Fr l H → RelDs X.K F ds vs → (∀ v H, LK X.K F Fr Q v H → Q' v H) → k ds l Q → r vs H Q'
def dOp (k : D → D → LH → DK → Prop) (ta tb : DTE) : DTE := fun env l Q => ta env l fun x l1 => tb env l1 fun y l2 => k x y l2 Q
def dUn (k : D → LH → DK → Prop) (ta : DTE) : DTE := fun env l Q => ta env l fun x l1 => k x l1 Q
theorem two {F Fr : Hp} {env : DSt} {l : LH} {σ : St} {H : Hp} {Q : DK} {r : R2} {k : D → D → LH → DK → Prop} (hk : KOp X r k) (ha : DE X a ta) (hb : DE X b tb) (he : RepE X.K F env σ) (hr : Rep X.K F Fr l H) (ht : dOp k ta tb env l Q) :
    WE X a σ H fun x H1 => WE X b σ H1 fun y H2 => r x y H2 (LK X.K F Fr Q) := by
  refine (ha F Fr env l σ H _ he hr ht).mono fun x H1 ⟨F1, d, l1, s1, r1, R1, q1⟩ => ?_
  refine (hb F1 Fr env l1 σ H1 _ (he.mono s1) R1 q1).mono fun y H2 ⟨F2, d2, l2, s2, r2, R2, q2⟩ => ?_
  exact hk F2 Fr l2 H2 Q d d2 x y _ R2 (r1.mono s2) r2 (fun v H q => q.weak (s1.trans s2)) q2
theorem de_op {op : Operator} {r : R2} {k : D → D → LH → DK → Prop} (ho : OpR X (binaryOp op) r) (hk : KOp X r k) (ha : DE X a ta) (hb : DE X b tb) : DE X (.BinOp a op b pos) (dOp k ta tb) :=
  ⟨fun F Fr env l σ H Q he hr ht => (pe_op ho peW peW).we (two hk ha hb he hr ht)⟩
theorem de_cmp {op : CmpOp} {r : R2} {k : D → D → LH → DK → Prop} (ho : OpR X (compareOp op) r) (hk : KOp X r k) (ha : DE X a ta) (hb : DE X b tb) (hm : behindInMarks op b = false) : DE X (.Compare a [op] [b] pos) (dOp k ta tb) :=
  ⟨fun F Fr env l σ H Q he hr ht => (pe_cmpR ho peW peW hm).we (two hk ha hb he hr ht)⟩
theorem de_un {op : UnaryOp} {r : V → Hp → VK → Prop} {k : D → LH → DK → Prop} (ho : UnR X (unaryOp op) r) (hk : KUn X r k) (ha : DE X a ta) : DE X (.UnaryOp op a pos) (dUn k ta) := by
  refine ⟨?_⟩
  intro F Fr env l σ H Q he hr ht
  refine (pe_un ho peW).we ?_
  refine (ha F Fr env l σ H _ he hr ht).mono fun x H1 ⟨F1, d, l1, s1, r1, R1, q1⟩ => ?_
  exact hk F1 Fr l1 H1 Q d x _ R1 r1 (fun v H q => q.weak s1) q1
/-- a < b < c -/
def dChain (k k' : D → D → LH → DK → Prop) (ta tb tc : DTE) : DTE := fun env l Q => ta env l fun x l1 => tb env l1 fun y l2 => k x y l2 fun z l3 => match z with
  | .bl true => tc env l3 fun u l4 => k' y u l4 Q
  | .bl false => Q (.bl false) l3
  | _ => False
/-! and, or, not, if as values -/
def dNot (ta : DTE) : DTE := fun env l Q => ta env l fun x l1 => match x with
  | .bl b => Q (.bl (!b)) l1
  | _ => False
theorem de_not (ha : DE X a ta) : DE X (.UnaryOp .Not a pos) (dNot ta) := by
  refine ⟨?_⟩
  intro F Fr env l σ H Q he hr ht
  refine (pe_not peW).we ?_
  refine (ha F Fr env l σ H _ he hr ht).mono fun x H1 ⟨F1, d, l1, s1, r1, R1, q1⟩ => ?_
  cases r1 with
  | bl z => exact ⟨z, rfl, F1, .bl (!z), l1, s1, .bl _, R1, q1⟩
  | _ => exact q1.elim
/-- by a known truth -/
structure ifB (b : Bool) (A B : Prop) : Prop where
  t : b = true → A
  f : b = false → B
theorem ifB_T {A B : Prop} (h : ifB true A B) : A := h.t rfl
theorem ifB_F {A B : Prop} (h : ifB false A B) : B := h.f rfl
theorem ifB_true {A B : Prop} (h : A) : ifB true A B := ⟨fun _ => h, (fun e => nomatch e)⟩
theorem ifB_false {A B : Prop} (h : B) : ifB false A B := ⟨(fun e => nomatch e), fun _ => h⟩
theorem ifB_dec {c A B : Prop} [Decidable c] (h1 : c → A) (h2 : ¬ c → B) : ifB (decide c) A B := ⟨fun e => h1 (of_decide_eq_true e), fun e => h2 (of_decide_eq_false e)⟩
theorem ifB_by {b : Bool} {A B : Prop} (h1 : b = true → A) (h2 : b = false → B) : ifB b A B := ⟨h1, h2⟩
def dIf (tt : DTT) (ta tb : DTE) : DTE := fun env l Q => tt env l fun c l1 => ifB c (ta env l1 Q) (tb env l1 Q)
theorem de_if {c : Expr} {tt : DTT} (hc : DT X c tt) (ha : DE X a ta) (hb : DE X b tb) : DE X (.IfExp c a b pos) (dIf tt ta tb) := by
  refine ⟨?_⟩
  intro F Fr env l σ H Q he hr ht
  refine (pe_ifExp ptW peW peW).we ?_
  refine (hc F Fr env l σ H _ he hr ht).mono fun x H1 ⟨F1, l1, s1, R1, q1⟩ => ?_
  cases x with
  | true => exact L2.iteT ((ha F1 Fr env l1 σ H1 _ (he.mono s1) R1 (ifB_T q1)).mono fun _ _ q => q.weak s1)
  | false => exact L2.iteF ((hb F1 Fr env l1 σ H1 _ (he.mono s1) R1 (ifB_F q1)).mono fun _ _ q => q.weak s1)

/-! tests -/
def dTV (t : DTE) : DTT := fun env l Q => t env l fun x l1 => match x with
  | .bl b => Q b l1
  | _ => False
theorem dt_val (h : DE X e te) (hs : ∀ whole, isTrue e X.env whole = (do let v ← whole; standAt e.pos; holding [v] (truthy v)) := by intro _; rfl) : DT X e (dTV te) := by
  refine ⟨?_⟩
  intro F Fr env l σ H Q he hr ht
  refine (pt_val peW hs).wt ?_
  refine (h F Fr env l σ H _ he hr ht).mono fun x H1 ⟨F1, d, l1, s1, r1, R1, q1⟩ => ?_
  cases r1 with
  | bl z => exact ⟨z, rfl, F1, l1, s1, R1, q1⟩
  | _ => exact q1.elim
theorem dt_cmp {op : CmpOp} {r : R2} {k : D → D → LH → DK → Prop} (ho : OpR X (compareOp op) r) (hk : KOp X r k) (ha : DE X a ta) (hb : DE X b tb) (hm : behindInMarks op b = false) : DT X (.Compare a [op] [b] pos) (dTV (dOp k ta tb)) := by
  refine ⟨?_⟩
  intro F Fr env l σ H Q he hr ht
  refine (pt_cmpR ho peW peW hm).wt ?_
  have h2 : WE X a σ H fun x H1 => WE X b σ H1 fun y H2 => r x y H2 (LK X.K F Fr fun x l1 => match x with | .bl b => Q b l1 | _ => False) := two hk ha hb he hr ht
  refine (ha F Fr env l σ H _ he hr ht).mono fun x H1 ⟨F1, d, l1, s1, r1, R1, q1⟩ => ?_
  refine (hb F1 Fr env l1 σ H1 _ (he.mono s1) R1 q1).mono fun y H2 ⟨F2, d2, l2, s2, r2, R2, q2⟩ => ?_
  refine hk F2 Fr l2 H2 _ d d2 x y _ R2 (r1.mono s2) r2 (fun v H q => ?_) q2
  obtain ⟨F3, d3, l3, s3, r3, R3, q3⟩ := q
  cases r3 with
  | bl z => exact ⟨z, rfl, F3, l3, s1.trans (s2.trans s3), R3, q3⟩
  | _ => exact q3.elim
theorem dt_chain {op op' : CmpOp} {r r' : R2} {k k' : D → D → LH → DK → Prop} {c : Expr} (ho : OpR X (compareOp op) r) (ho' : OpR X (compareOp op') r') (hk : KOp X r k) (hk' : KOp X r' k') (ha : DE X a ta) (hb : DE X b tb) (hc : DE X c tc) 
    (hm : lastMarks [op, op'] [b, c] = false := by rfl) : DT X (.Compare a [op, op'] [b, c] pos) (dTV (dChain k k' ta tb tc)) := by
  refine ⟨?_⟩
  intro F Fr env l σ H Q he hr ht
  refine (pt_chain ho ho' peW peW peW hm).wt ?_
  have lift : ∀ {F' : Hp} {v : V} {H : Hp}, Same F F' → LK X.K F' Fr (fun x l1 => match x with | .bl b => Q b l1 | _ => False) v H → ∃ k, v = .bl k ∧ LB X.K F Fr Q k H := by
    intro F' v H s q
    obtain ⟨F3, d3, l3, s3, r3, R3, q3⟩ := q
    cases r3 with
    | bl z => exact ⟨z, rfl, F3, l3, s.trans s3, R3, q3⟩
    | _ => exact q3.elim
  show WE X a σ H fun x H1 => WE X b σ H1 fun y H2 => r x y H2 fun z H3 => ∃ k, z = .bl k ∧ _
  refine (ha F Fr env l σ H _ he hr ht).mono fun x H1 ⟨F1, d, l1, s1, r1, R1, q1⟩ => ?_
  refine (hb F1 Fr env l1 σ H1 _ (he.mono s1) R1 q1).mono fun y H2 ⟨F2, d2, l2, s2, r2, R2, q2⟩ => ?_
  refine hk F2 Fr l2 H2 _ d d2 x y _ R2 (r1.mono s2) r2 (fun v H3 q => ?_) q2
  obtain ⟨F3, d3, l3, s3, r3, R3, q3⟩ := q
  cases r3 with
  | bl z =>
    refine ⟨z, rfl, ?_⟩
    cases z with
    | true =>
      refine (hc F3 Fr env l3 σ H3 _ (((he.mono s1).mono s2).mono s3) R3 q3).mono fun w H4 ⟨F4, d4, l4, s4, r4, R4, q4⟩ => ?_
      exact hk' F4 Fr l4 H4 _ d2 d4 y w _ R4 (r2.mono (s3.trans s4)) r4 (fun v H q => lift (s1.trans (s2.trans (s3.trans s4))) q) q4
    | false => exact ⟨false, rfl, F3, l3, s1.trans (s2.trans s3), R3, q3⟩
  | _ => exact q3.elim
theorem dw_dt {t : DTT} (h : DW X e t) : DT X e t := ⟨fun F Fr env l σ H Q he hr ht pins s I => h F Fr env l σ H Q he hr ht _ pins s I⟩
def tAnd (t u : DTT) : DTT := fun env l Q => t env l fun c l1 => ifB c (u env l1 Q) (Q false l1)
def tOr (t u : DTT) : DTT := fun env l Q => t env l fun c l1 => ifB c (Q true l1) (u env l1 Q)
def tNot (t : DTT) : DTT := fun env l Q => t env l fun c l1 => Q (!c) l1
variable {tt tu : DTT}
theorem dw_and1 (ha : DT X a tt) : DW X (.BoolOp .And [a] pos) tt := ⟨fun F Fr env l σ H Q he hr ht => (pw_and1 ptW).ww (ha F Fr env l σ H Q he hr ht)⟩
theorem dw_or1 (ha : DT X a tt) : DW X (.BoolOp .Or [a] pos) tt := ⟨fun F Fr env l σ H Q he hr ht => (pw_or1 ptW).ww (ha F Fr env l σ H Q he hr ht)⟩
theorem dw_and {rest : List Expr} (ha : DT X a tt) (hb : DW X (.BoolOp .And (b :: rest) pos) tu) : DW X (.BoolOp .And (a :: b :: rest) pos) (tAnd tt tu) := by
  refine ⟨?_⟩
  intro F Fr env l σ H Q he hr ht
  refine (pw_and ptW pwW).ww ?_
  refine (ha F Fr env l σ H _ he hr ht).mono fun x H1 ⟨F1, l1, s1, R1, q1⟩ => ?_
  cases x with
  | true => exact L2.iteT ((hb F1 Fr env l1 σ H1 _ (he.mono s1) R1 (ifB_T q1)).mono fun _ _ q => q.weak s1)
  | false => exact L2.iteF ⟨F1, l1, s1, R1, ifB_F q1⟩
theorem dw_or {rest : List Expr} (ha : DT X a tt) (hb : DW X (.BoolOp .Or (b :: rest) pos) tu) : DW X (.BoolOp .Or (a :: b :: rest) pos) (tOr tt tu) := by
  refine ⟨?_⟩
  intro F Fr env l σ H Q he hr ht
  refine (pw_or ptW pwW).ww ?_
  refine (ha F Fr env l σ H _ he hr ht).mono fun x H1 ⟨F1, l1, s1, R1, q1⟩ => ?_
  cases x with
  | false => exact L2.iteF ((hb F1 Fr env l1 σ H1 _ (he.mono s1) R1 (ifB_F q1)).mono fun _ _ q => q.weak s1)
  | true => exact L2.iteT ⟨F1, l1, s1, R1, ifB_T q1⟩
theorem dt_not (ha : DT X a tt) : DT X (.UnaryOp .Not a pos) (tNot tt) := by
  refine ⟨?_⟩
  intro F Fr env l σ H Q he hr ht
  refine (pt_not ptW).wt ?_
  exact (ha F Fr env l σ H _ he hr ht).mono fun x H1 ⟨F1, l1, s1, R1, q1⟩ => ⟨F1, l1, s1, R1, q1⟩

/-! argument lists, displays -/
def aNil : DTA := fun _ l Q => Q [] l
def aCons (t : DTE) (u : DTA) : DTA := fun env l Q => t env l fun d l1 => u env l1 fun ds l2 => Q (d :: ds) l2
variable {es : List Expr} {u : DTA}
theorem da_nil : DA X [] aNil := ⟨fun F Fr env l σ H Q he hr ht => pa_nil.wa ⟨F, [], l, Same.refl F, .nil, hr, ht⟩⟩
theorem da_cons (ha : DE X e te) (hr : DA X es u) (hs : starEach (e :: es) X.env = (false, eval e X.env) :: starEach es X.env := by rfl) : DA X (e :: es) (aCons te u) := by
  refine ⟨?_⟩
  intro F Fr env l σ H Q he hR ht
  refine (pa_cons peW paW hs).wa ?_
  refine (ha F Fr env l σ H _ he hR ht).mono fun x H1 ⟨F1, d, l1, s1, r1, R1, q1⟩ => ?_
  refine (hr F1 Fr env l1 σ H1 _ (he.mono s1) R1 q1).mono fun xs H2 ⟨F2, ds, l2, s2, r2, R2, q2⟩ => ?_
  exact ⟨F2, d :: ds, l2, s1.trans s2, .cons (r1.mono s2) r2, R2, q2⟩
def dTup (t : DTA) : DTE := fun env l Q => t env l fun ds l1 => ds.length ≤ sizeLine ∧ Q (.tup ds) l1
def dLst (t : DTA) : DTE := fun env l Q => t env l fun ds l1 => ds.length ≤ sizeLine ∧ Q (.lst ds) l1
def dLstM (t : DTA) : DTE := fun env l Q => t env l fun ds l1 => ds.length ≤ sizeLine ∧ newL (.lst ds) l1 Q
theorem de_tup {x1} (h : DA X es u) : DE X (.Tuple es x1 pos) (dTup u) := by
  refine ⟨?_⟩
  intro F Fr env l σ H Q he hR ht
  refine (pe_tup paW).we ?_
  refine (h F Fr env l σ H _ he hR ht).mono fun x H1 ⟨F1, ds, l1, s1, r1, R1, q1, q2⟩ => ?_
  exact ⟨by rw [← r1.length]; exact q1, fun p np => (LK.tup np R1 r1 q2).weak s1⟩
theorem de_lst (h : DA X es u) : DE X (.List es pos) (dLst u) := by
  refine ⟨?_⟩
  intro F Fr env l σ H Q he hR ht
  refine (pe_lst paW).we ?_
  refine (h F Fr env l σ H _ he hR ht).mono fun x H1 ⟨F1, ds, l1, s1, r1, R1, q1, q2⟩ => ?_
  exact ⟨by rw [← r1.length]; exact q1, fun p np => (LK.lst np R1 r1 q2).weak s1⟩
theorem de_lstM (h : DA X es u) : DE X (.List es pos) (dLstM u) := by
  refine ⟨?_⟩
  intro F Fr env l σ H Q he hR ht
  refine (pe_lst paW).we ?_
  refine (h F Fr env l σ H _ he hR ht).mono fun x H1 ⟨F1, ds, l1, s1, r1, R1, q1, q2⟩ => ?_
  exact ⟨by rw [← r1.length]; exact q1, fun p np => (LK.mut np R1 r1 q2).weak s1⟩

/-! calls of built-ins, by values -/
def dCall (k : List D → LH → DK → Prop) (t : DTA) : DTE := fun env l Q => t env l fun ds l1 => k ds l1 Q
theorem callK {r : List V → Hp → VK → Prop} {k : List D → LH → DK → Prop} (hk : KCall X r k) (h : DA X es u) {F Fr : Hp} {env : DSt} {l : LH} {σ : St} {H : Hp} {Q : DK} (he : RepE X.K F env σ) (hR : Rep X.K F Fr l H) (ht : dCall k u env l Q) :
    WA X es σ H fun vs H1 => r vs H1 (LK X.K F Fr Q) :=
  (h F Fr env l σ H _ he hR ht).mono fun x H1 ⟨F1, ds, l1, s1, r1, R1, q1⟩ => hk F1 Fr l1 H1 Q ds x _ R1 r1 (fun _ _ q => q.weak s1) q1
theorem de_callB {id : String} {r : List V → Hp → VK → Prop} {k : List D → LH → DK → Prop} {x : Str} {p : Pos} (hc : CallR X (.builtin id) r) (hk : KCall X r k) (hg : Gl X x) (hm : X.mg x = none) (hv : bootBuiltins x = some (.builtin id)) (h : DA X (e :: es) u) (hn : x ≠ "__name__" := by decide) (hdb : (x == ("__debug__" : Str)) = false := by decide)
    (he : starEach (e :: es) X.env = (false, eval e X.env) :: starEach es X.env := by rfl) (hpl : (backTo pos (starEach es X.env)).any (·.1) = false := by rfl) : DE X (.Call (.Name x p) (e :: es) [] pos) (dCall k u) :=
  ⟨fun F Fr env l σ H Q hE hr ht => (pe_callB hc hg hm hv paW hn hdb he hpl).we (callK hk h hE hr ht)⟩
theorem de_callT {T : String} {r : List V → Hp → VK → Prop} {k : List D → LH → DK → Prop} {x : Str} {p : Pos} (hc : CallR X (.type T) r) (hk : KCall X r k) (hg : Gl X x) (hm : X.mg x = none) (hv : bootBuiltins x = some (.type T)) (h : DA X (e :: es) u) (hn : x ≠ "__name__" := by decide) (hdb : (x == ("__debug__" : Str)) = false := by decide)
    (he : starEach (e :: es) X.env = (false, eval e X.env) :: starEach es X.env := by rfl) (hpl : (backTo pos (starEach es X.env)).any (·.1) = false := by rfl) : DE X (.Call (.Name x p) (e :: es) [] pos) (dCall k u) :=
  ⟨fun F Fr env l σ H Q hE hr ht => (pe_callTy hc hg hm hv paW hn hdb he hpl).we (callK hk h hE hr ht)⟩
end
end DL

namespace DL
open PySem PySem.Spec PyProof.Rows L2

/-! ### the operators' readings -/
section
variable {X : Cx}
/-- + -/
def kAdd : D → D → LH → DK → Prop := fun x y l Q => match x, y with
  | .int i, .int j => Q (.int (i + j)) l
  | .tup xs, .tup ys => xs.length + ys.length ≤ sizeLine ∧ Q (.tup (xs ++ ys)) l
  | .lst xs, .lst ys => xs.length + ys.length ≤ sizeLine ∧ Q (.lst (xs ++ ys)) l
  | .str i, .str j => i.length + j.length ≤ sizeLine ∧ Q (.str (i ++ j)) l
  | _, _ => False
def rAdd4 (K : PySem.W.Frag) : R2 := fun x y H Q => rI0 (fun i j => .int (i + j)) x y H Q ∨ (rCatA K x y H Q ∨ (rCat x y H Q ∨ ∃ i j, x = .str i ∧ y = .str j ∧ i.length + j.length ≤ sizeLine ∧ Q (.str (i ++ j)) H))
theorem op_add4 : OpR X (binaryOp .Add) (rAdd4 X.K) := op_add.or (op_catA.or (op_cat.or op_add_str))
theorem kAdd_ok : KOp X (rAdd4 X.K) kAdd := by
  intro F Fr l H Q d e v u Q' R rd re hq q
  cases rd with
  | int i =>
    cases re <;> try exact q.elim
    exact .inl ⟨_, _, rfl, rfl, hq _ _ (LK.mk (.int _) R q)⟩
  | str i =>
    cases re <;> try exact q.elim
    exact .inr (.inr (.inr ⟨_, _, rfl, rfl, q.1, hq _ _ (LK.mk (.str _) R q.2)⟩))
  | @tup p vs ds h1 r1 =>
    cases re <;> try exact q.elim
    rename_i p2 vs2 ds2 h2 r2
    refine .inr (.inl ⟨p, p2, vs, vs2, rfl, rfl, tq (R.fz _ _ h1), tq (R.fz _ _ h2), by rw [← r1.length, ← r2.length]; exact q.1, fun e => ?_, fun _ e => ?_, fun _ _ p np => ?_⟩)
    · subst e
      cases r1
      exact hq _ _ (LK.mk (.tup h2 r2) R q.2)
    · subst e
      cases r2
      have q2 := q.2
      rw [List.append_nil] at q2
      exact hq _ _ (LK.mk (.tup h1 r1) R q2)
    · exact hq _ _ (LK.tup np R (r1.append r2) q.2)
  | @lst p vs ds h1 r1 =>
    cases re <;> try exact q.elim
    rename_i p2 vs2 ds2 h2 r2
    exact .inr (.inr (.inl ⟨p, p2, vs, vs2, rfl, rfl, R.fz _ _ h1, R.fz _ _ h2, by rw [← r1.length, ← r2.length]; exact q.1, fun p np => hq _ _ (LK.lst np R (r1.append r2) q.2)⟩))
  | _ => exact q.elim

/-- whole numbers -/
theorem op_mulA : OpR X (binaryOp .Mult) (rI IntMulOk fun i j => .int (i * j)) := opI fun _ _ _ _ _ _ _ hc q => mul_int q hc
def dAdd : DTE → DTE → DTE := dOp kAdd
def kSub : D → D → LH → DK → Prop := fun x y l Q => match x, y with
  | .int i, .int j => Q (.int (i - j)) l
  | _, _ => False
theorem kSub_ok : KOp X (rI0 fun i j => .int (i - j)) kSub := by
  intro F Fr l H Q d e v u Q' R rd re hq q
  cases rd <;> try exact q.elim
  cases re <;> try exact q.elim
  exact ⟨_, _, rfl, rfl, hq _ _ (LK.mk (by constructor) R q)⟩
def kMod : D → D → LH → DK → Prop := fun x y l Q => match x, y with
  | .int i, .int j => 0 < j ∧ Q (.int (i % j)) l
  | _, _ => False
theorem kMod_ok : KOp X (rI (fun _ j => 0 < j) fun i j => .int (i % j)) kMod := by
  intro F Fr l H Q d e v u Q' R rd re hq q
  cases rd <;> try exact q.elim
  cases re <;> try exact q.elim
  exact ⟨_, _, rfl, rfl, q.1, hq _ _ (LK.mk (by constructor) R q.2)⟩
def kDiv : D → D → LH → DK → Prop := fun x y l Q => match x, y with
  | .int i, .int j => (0 < j ∧ j.natAbs.log2 < 9000) ∧ Q (.int (i / j)) l
  | _, _ => False
theorem kDiv_ok : KOp X (rI CDivW fun i j => .int (i / j)) kDiv := by
  intro F Fr l H Q d e v u Q' R rd re hq q
  cases rd <;> try exact q.elim
  cases re <;> try exact q.elim
  exact ⟨_, _, rfl, rfl, q.1, hq _ _ (LK.mk (by constructor) R q.2)⟩
def kPow : D → D → LH → DK → Prop := fun x y l Q => match x, y with
  | .int i, .int j => (0 ≤ j ∧ j ≤ 1000000 ∧ i.natAbs < 2 ^ 64) ∧ Q (.int (i ^ j.toNat)) l
  | _, _ => False
theorem kPow_ok : KOp X (rI CPow fun i j => .int (i ^ j.toNat)) kPow := by
  intro F Fr l H Q d e v u Q' R rd re hq q
  cases rd <;> try exact q.elim
  cases re <;> try exact q.elim
  exact ⟨_, _, rfl, rfl, q.1, hq _ _ (LK.mk (by constructor) R q.2)⟩
def kLe : D → D → LH → DK → Prop := fun x y l Q => match x, y with
  | .int i, .int j => Q (.bl (decide (i ≤ j))) l
  | _, _ => False
theorem kLe_ok : KOp X (rI0 fun i j => .bl (decide (i ≤ j))) kLe := by
  intro F Fr l H Q d e v u Q' R rd re hq q
  cases rd <;> try exact q.elim
  cases re <;> try exact q.elim
  exact ⟨_, _, rfl, rfl, hq _ _ (LK.mk (by constructor) R q)⟩
def kGt : D → D → LH → DK → Prop := fun x y l Q => match x, y with
  | .int i, .int j => Q (.bl (decide (j < i))) l
  | _, _ => False
theorem kGt_ok : KOp X (rI0 fun i j => .bl (decide (j < i))) kGt := by
  intro F Fr l H Q d e v u Q' R rd re hq q
  cases rd <;> try exact q.elim
  cases re <;> try exact q.elim
  exact ⟨_, _, rfl, rfl, hq _ _ (LK.mk (by constructor) R q)⟩
def kGe : D → D → LH → DK → Prop := fun x y l Q => match x, y with
  | .int i, .int j => Q (.bl (decide (j ≤ i))) l
  | _, _ => False
theorem kGe_ok : KOp X (rI0 fun i j => .bl (decide (j ≤ i))) kGe := by
  intro F Fr l H Q d e v u Q' R rd re hq q
  cases rd <;> try exact q.elim
  cases re <;> try exact q.elim
  exact ⟨_, _, rfl, rfl, hq _ _ (LK.mk (by constructor) R q)⟩
def dSub : DTE → DTE → DTE := dOp kSub
def dMod : DTE → DTE → DTE := dOp kMod
def dDiv : DTE → DTE → DTE := dOp kDiv
def dPow : DTE → DTE → DTE := dOp kPow
def dLe : DTE → DTE → DTE := dOp kLe
def dGt : DTE → DTE → DTE := dOp kGt
def dGe : DTE → DTE → DTE := dOp kGe
variable {a b e : Expr} {ta tb tc te : DTE} {pos : Pos}
theorem de_add (ha : DE X a ta) (hb : DE X b tb) : DE X (.BinOp a .Add b pos) (dAdd ta tb) := de_op op_add4 kAdd_ok ha hb
theorem de_sub (ha : DE X a ta) (hb : DE X b tb) : DE X (.BinOp a .Sub b pos) (dSub ta tb) := de_op op_sub kSub_ok ha hb
theorem de_mod (ha : DE X a ta) (hb : DE X b tb) : DE X (.BinOp a .Mod b pos) (dMod ta tb) := de_op op_mod kMod_ok ha hb
theorem de_div (ha : DE X a ta) (hb : DE X b tb) : DE X (.BinOp a .FloorDiv b pos) (dDiv ta tb) := de_op op_fdivW kDiv_ok ha hb
theorem de_pow (ha : DE X a ta) (hb : DE X b tb) : DE X (.BinOp a .Pow b pos) (dPow ta tb) := de_op op_pow kPow_ok ha hb
theorem de_gt (ha : DE X a ta) (hb : DE X b tb) : DE X (.Compare a [.Gt] [b] pos) (dGt ta tb) := de_cmp op_gt kGt_ok ha hb (nomark _)
theorem de_ge (ha : DE X a ta) (hb : DE X b tb) : DE X (.Compare a [.GtE] [b] pos) (dGe ta tb) := de_cmp op_ge kGe_ok ha hb (nomark _)
theorem dt_le (ha : DE X a ta) (hb : DE X b tb) : DT X (.Compare a [.LtE] [b] pos) (dTV (dLe ta tb)) := dt_cmp op_le kLe_ok ha hb (nomark _)
theorem dt_gt (ha : DE X a ta) (hb : DE X b tb) : DT X (.Compare a [.Gt] [b] pos) (dTV (dGt ta tb)) := dt_cmp op_gt kGt_ok ha hb (nomark _)
theorem un_negK : KUn X (rU fun i => .int (-i)) (fun x l Q => match x with | .int i => Q (.int (-i)) l | _ => False) := by
  intro F Fr l H Q d v Q' R rd hq q
  cases rd <;> try exact q.elim
  exact ⟨_, rfl, hq _ _ (LK.mk (.int _) R q)⟩
def dNeg : DTE → DTE := dUn fun x l Q => match x with | .int i => Q (.int (-i)) l | _ => False
theorem de_neg (ha : DE X a ta) : DE X (.UnaryOp .USub a pos) (dNeg ta) := de_un un_neg un_negK ha

/-- < of numbers and of tuples of numbers -/
def intsOf : List D → Option (List Int)
  | [] => some []
  | .int i :: r => (intsOf r).map fun s => i :: s
  | _ :: _ => none
theorem intsOf_map : ∀ ns : List Int, intsOf (ns.map D.int) = some ns
  | [] => rfl
  | n :: ns => by
    show (intsOf (ns.map D.int)).map _ = _
    rw [intsOf_map ns]
    rfl
def kLt : D → D → LH → DK → Prop := fun x y l Q => match x, y with
  | .int i, .int j => Q (.bl (decide (i < j))) l
  | .tup xs, .tup ys => ∃ ns ms, xs = ns.map D.int ∧ ys = ms.map D.int ∧ Q (.bl (HT.lexLt ns ms)) l
  | _, _ => False
theorem op_lt2 (hu : X.A.units < cLine) : OpR X (compareOp .Lt) (fun x y H Q => rI0 (fun i j => .bl (decide (i < j))) x y H Q ∨ rLtT X.K x y H Q) := op_lt.or (op_ltT hu)
theorem kLt_ok : KOp X (fun x y H Q => rI0 (fun i j => .bl (decide (i < j))) x y H Q ∨ rLtT X.K x y H Q) kLt := by
  intro F Fr l H Q d e v u Q' R rd re hq q
  cases rd with
  | int i =>
    cases re <;> try exact q.elim
    exact .inl ⟨_, _, rfl, rfl, hq _ _ (LK.mk (.bl _) R q)⟩
  | @tup p vs ds h1 r1 =>
    cases re <;> try exact q.elim
    rename_i p2 vs2 ds2 h2 r2
    obtain ⟨ns, ms, rfl, rfl, q⟩ := q
    have e1 := r1.ints
    have e2 := r2.ints
    subst e1 e2
    exact .inr ⟨p, p2, ns, ms, rfl, rfl, tq (R.fz _ _ h1), tq (R.fz _ _ h2), hq _ _ (LK.mk (.bl _) R q)⟩
  | _ => exact q.elim
def dLt : DTE → DTE → DTE := dOp kLt
theorem dt_lt (hu : X.A.units < cLine) (ha : DE X a ta) (hb : DE X b tb) : DT X (.Compare a [.Lt] [b] pos) (dTV (dLt ta tb)) := dt_cmp (op_lt2 hu) kLt_ok ha hb (nomark _)

/-- an object's content -/
def getO (l : LH) (a : Addr) (k : DO → Prop) : Prop := ∃ o, l a = some o ∧ k o
/-- == -/
def okD (d : D) : Prop := SeqAt.shaped (toPy d) = true
def eqD (d e : D) : Bool := PyData.eqv (toPy d) (toPy e)
/-- a list that may be written, as it stands -/
def resL (d : D) (l : LH) (k : D → Prop) : Prop := match d with
  | .ref a => getO l a fun o => match o with | .lst ds => k (.lst ds) | _ => False
  | d => k d
theorem resL_ok {K : PySem.W.Frag} {F Fr H : Hp} {l : LH} {d : D} {v : V} {k : D → Prop} (R : Rep K F Fr l H) (r : RelD K F d v) (q : resL d l k) : ∃ d', k d' ∧ ((toPy d').canLay0 = true → Dp K H v (toPy d')) := by
  cases r with
  | ref a =>
    obtain ⟨o, ho, q⟩ := q
    cases o with
    | lst ds =>
      obtain ⟨vs, r1, h1⟩ := (R.lv _ _ ho).2
      refine ⟨_, q, fun c => ?_⟩
      rw [toPy, PyData.canLay0] at c
      exact .lst (.inl (.inl h1)) (r1.dp R.fz c)
    | _ => exact q.elim
  | non => exact ⟨_, q, RelD.dp R.fz .non⟩
  | bl b => exact ⟨_, q, RelD.dp R.fz (.bl b)⟩
  | int b => exact ⟨_, q, RelD.dp R.fz (.int b)⟩
  | str b => exact ⟨_, q, RelD.dp R.fz (.str b)⟩
  | tup a b => exact ⟨_, q, RelD.dp R.fz (.tup a b)⟩
  | scr a => exact ⟨_, q, RelD.dp R.fz (.scr a)⟩
  | lst a b => exact ⟨_, q, RelD.dp R.fz (.lst a b)⟩
  | dT a b c => exact ⟨_, q, RelD.dp R.fz (.dT a b c)⟩
  | dK a b c => exact ⟨_, q, RelD.dp R.fz (.dK a b c)⟩
  | exc a b => exact ⟨_, q, RelD.dp R.fz (.exc a b)⟩
  | exc1 a b c d => exact ⟨_, q, RelD.dp R.fz (.exc1 a b c d)⟩
  | kt a b c d => exact ⟨_, q, RelD.dp R.fz (.kt a b c d)⟩
def kEq : D → D → LH → DK → Prop := fun x y l Q => resL x l fun x => resL y l fun y => okD x ∧ okD y ∧ Q (.bl (eqD x y)) l
def kNe : D → D → LH → DK → Prop := fun x y l Q => resL x l fun x => resL y l fun y => okD x ∧ okD y ∧ Q (.bl (!eqD x y)) l
theorem kEq_ok : KOp X (rEqD X.K) kEq := by
  intro F Fr l H Q d e v u Q' R rd re hq q
  obtain ⟨d', q, h1⟩ := resL_ok R rd q
  obtain ⟨e', q, h2⟩ := resL_ok R re q
  obtain ⟨c1, c2, q⟩ := q
  exact ⟨_, _, h1 (SeqAt.canLay_of_shaped c1), h2 (SeqAt.canLay_of_shaped c2), c1, c2, hq _ _ (LK.mk (.bl _) R q)⟩
theorem kNe_ok : KOp X (rNeD X.K) kNe := by
  intro F Fr l H Q d e v u Q' R rd re hq q
  obtain ⟨d', q, h1⟩ := resL_ok R rd q
  obtain ⟨e', q, h2⟩ := resL_ok R re q
  obtain ⟨c1, c2, q⟩ := q
  exact ⟨_, _, h1 (SeqAt.canLay_of_shaped c1), h2 (SeqAt.canLay_of_shaped c2), c1, c2, hq _ _ (LK.mk (.bl _) R q)⟩
def dEq : DTE → DTE → DTE := dOp kEq
def dNe : DTE → DTE → DTE := dOp kNe
theorem dt_eq (hu : X.A.units + 64 < cLine) (ha : DE X a ta) (hb : DE X b tb) : DT X (.Compare a [.Eq] [b] pos) (dTV (dEq ta tb)) := dt_cmp (op_eqD hu) kEq_ok ha hb (nomark _)
theorem dt_ne (hu : X.A.units + 64 < cLine) (ha : DE X a ta) (hb : DE X b tb) : DT X (.Compare a [.NotEq] [b] pos) (dTV (dNe ta tb)) := dt_cmp (op_neD hu) kNe_ok ha hb (nomark _)
/-! ### subscripts -/
theorem atI_rel {K : PySem.W.Frag} {F : Hp} {ds : List D} {vs : List V} {i : Int} {d : D} (r : RelDs K F ds vs) (h : atI ds i = some d) : ∃ v, atI vs i = some v ∧ RelD K F d v := by
  unfold atI at h ⊢
  rw [← r.length]
  cases q : ixN ds.length i with
  | none => rw [q] at h; cases h
  | some j =>
    rw [q] at h
    exact r.get h
def kIx : D → D → LH → DK → Prop := fun x y l Q => match x, y with
  | .tup ds, .int i => ∃ d, atI ds i = some d ∧ Q d l
  | .lst ds, .int i => ∃ d, atI ds i = some d ∧ Q d l
  | .ref a, .int i => getO l a fun o => match o with | .lst ds => ∃ d, atI ds i = some d ∧ Q d l | _ => False
  | .scr ns, .int i => ∃ d, atI (ns.map D.int) i = some d ∧ Q d l
  | .str z, .int i => z.length ≤ sizeLine ∧ ∃ c, atI z.cps.toList i = some c ∧ Q (.str ⟨#[c]⟩) l
  | _, _ => False
theorem kIx_ok : KOp X (rIx X.K) kIx := by
  intro F Fr l H Q d e v u Q' R rd re hq q
  cases rd with
  | @tup p vs ds h1 r1 =>
    cases re <;> try exact q.elim
    obtain ⟨d, hd, q⟩ := q
    obtain ⟨v, hv, rv⟩ := atI_rel r1 hd
    exact .inr (.inl ⟨p, vs, _, v, rfl, rfl, tq (R.fz _ _ h1), hv, hq _ _ (LK.mk rv R q)⟩)
  | @lst p vs ds h1 r1 =>
    cases re <;> try exact q.elim
    obtain ⟨d, hd, q⟩ := q
    obtain ⟨v, hv, rv⟩ := atI_rel r1 hd
    exact .inl ⟨p, vs, _, v, rfl, rfl, .inl (.inl (R.fz _ _ h1)), hv, hq _ _ (LK.mk rv R q)⟩
  | @scr p ns h1 =>
    cases re <;> try exact q.elim
    obtain ⟨d, hd, q⟩ := q
    obtain ⟨v, hv, rv⟩ := atI_rel (relDs_ints (K := X.K) (F := F) ns) hd
    exact .inl ⟨p, _, _, v, rfl, rfl, sqL_mono R.fz h1, hv, hq _ _ (LK.mk rv R q)⟩
  | ref a =>
    cases re <;> try exact q.elim
    obtain ⟨o, ho, q⟩ := q
    cases o with
    | lst ds =>
      obtain ⟨d, hd, q⟩ := q
      obtain ⟨vs, r1, h1⟩ := (R.lv _ _ ho).2
      obtain ⟨v, hv, rv⟩ := atI_rel r1 hd
      exact .inl ⟨a, vs, _, v, rfl, rfl, .inl (.inl h1), hv, hq _ _ (LK.mk rv R q)⟩
    | _ => exact q.elim
  | str z =>
    cases re <;> try exact q.elim
    obtain ⟨hz, c, hc, q⟩ := q
    exact .inr (.inr ⟨_, _, c, rfl, rfl, hz, hc, hq _ _ (LK.mk (.str _) R q)⟩)
  | _ => exact q.elim
def dIx : DTE → DTE → DTE := dOp kIx
theorem de_ix (ha : DE X a ta) (hb : DE X b tb) (hs : PlainIx b := by exact fun _ _ => rfl) : DE X (.Subscript a b pos) (dIx ta tb) :=
  ⟨fun F Fr env l σ H Q he hr ht => (pe_ix ix_seq peW peW hs).we (two kIx_ok ha hb he hr ht)⟩
/-- slices -/
def cutD (ds : List D) (lo hi : Option Int) : List D := (ds.drop (HT.sIx ds.length 0 lo)).take (HT.sIx ds.length ds.length hi - HT.sIx ds.length 0 lo)
theorem cut_rel {K : PySem.W.Frag} {F : Hp} {ds : List D} {vs : List V} (r : RelDs K F ds vs) (lo hi : Option Int) : RelDs K F (cutD ds lo hi) (cutV vs lo hi) := by
  unfold cutD cutV
  rw [← r.length]
  exact (r.drop _).take _
theorem cut_whole (ds : List D) (lo hi : Option Int) (h : HT.sIx ds.length 0 lo = 0 ∧ HT.sIx ds.length ds.length hi = ds.length) : cutD ds lo hi = ds := by
  unfold cutD
  rw [h.1, h.2, List.drop_zero, Nat.sub_zero, List.take_length]
abbrev DTO := DSt → LH → (Option Int → LH → Prop) → Prop
def LO (K : PySem.W.Frag) (F Fr : Hp) (Q : Option Int → LH → Prop) : Option Int → Hp → Prop := fun v H => ∃ F' l, Same F F' ∧ Rep K F' Fr l H ∧ Q v l
def WO (X : Cx) (e : Option Expr) : TO := fun σ H Q => ∀ pins s, Inv X pins σ H s → wpAny (model X.prog X.w) X.A (evalPart e X.env) (fun u s' => ∃ o H', Inv X pins σ H' s' ∧ IsPart u o ∧ Q o H') X.xe s
theorem poW {e : Option Expr} : PO X e (WO X e) := ⟨fun pins s _ _ _ I h => h pins s I⟩
theorem WO.mono {e : Option Expr} {σ : St} {H : Hp} {Q Q' : Option Int → Hp → Prop} (w : WO X e σ H Q) (h : ∀ v H, Q v H → Q' v H) : WO X e σ H Q' := fun pins s I => thn (w pins s I) fun _ _ ⟨o, H, a, b, c⟩ => ⟨o, H, a, b, h _ _ c⟩
structure DP (X : Cx) (e : Option Expr) (t : DTO) : Prop where
  run : ∀ F Fr env l σ H Q, RepE X.K F env σ → Rep X.K F Fr l H → t env l Q → WO X e σ H (LO X.K F Fr Q)
instance {X : Cx} {e : Option Expr} {t : DTO} : CoeFun (DP X e t) (fun _ => ∀ F Fr env l σ H Q, RepE X.K F env σ → Rep X.K F Fr l H → t env l Q → WO X e σ H (LO X.K F Fr Q)) := ⟨DP.run⟩
def oNo : DTO := fun _ l Q => Q none l
def oSm (t : DTE) : DTO := fun env l Q => t env l fun d l1 => match d with | .int i => Q (some i) l1 | _ => False
theorem dp_no : DP X none oNo := ⟨fun F Fr env l σ H Q he hr ht pins s I => po_none.run pins s σ H _ I ⟨F, l, Same.refl F, hr, ht⟩⟩
theorem dp_sm (h : DE X e te) : DP X (some e) (oSm te) := by
  refine ⟨?_⟩
  intro F Fr env l σ H Q he hr ht pins s I
  refine (po_some (peW (X := X) (e := e))).run pins s σ H _ I ?_
  refine (h F Fr env l σ H _ he hr ht).mono fun x H1 ⟨F1, d, l1, s1, r1, R1, q1⟩ => ?_
  cases r1 with
  | int i => exact ⟨i, rfl, F1, l1, s1, R1, q1⟩
  | _ => exact q1.elim
def kSl (x : D) (lo hi : Option Int) (l : LH) (Q : DK) : Prop := match x with
  | .tup ds => Q (.tup (cutD ds lo hi)) l
  | .lst ds => Q (.lst (cutD ds lo hi)) l
  | .scr ns => Q (.lst (cutD (ns.map D.int) lo hi)) l
  | .ref a => getO l a fun o => match o with | .lst ds => Q (.lst (cutD ds lo hi)) l | _ => False
  | _ => False
def dSl (te : DTE) (tl tu : DTO) : DTE := fun env l Q => te env l fun x l1 => tl env l1 fun lo l2 => tu env l2 fun hi l3 => kSl x lo hi l3 Q
variable {lo hi : Option Expr} {tl tu : DTO} {p2 : Pos}
theorem de_sl (he : DE X e te) (hl : DP X lo tl) (hu : DP X hi tu) : DE X (.Subscript e (.Slice lo hi none p2) pos) (dSl te tl tu) := by
  refine ⟨?_⟩
  intro F Fr env l σ H Q hE hR ht
  refine (pe_slice (sl_list.or sl_tupA) peW poW poW).we ?_
  refine (he F Fr env l σ H _ hE hR ht).mono fun x H1 ⟨F1, d, l1, s1, r1, R1, q1⟩ => ?_
  refine (hl F1 Fr env l1 σ H1 _ (hE.mono s1) R1 q1).mono fun i H2 ⟨F2, l2, s2, R2, q2⟩ => ?_
  refine (hu F2 Fr env l2 σ H2 _ ((hE.mono s1).mono s2) R2 q2).mono fun j H3 ⟨F3, l3, s3, R3, q3⟩ => ?_
  have r3 := r1.mono (s2.trans s3)
  have S := s1.trans (s2.trans s3)
  cases r3 with
  | @tup p vs ds h1 rr =>
    refine .inr ⟨p, vs, rfl, tq (R3.fz _ _ h1), fun c => ?_, fun c p np => (LK.tup np R3 (cut_rel rr i j) q3).weak S⟩
    rw [← rr.length] at c
    have q4 : Q (.tup (cutD ds i j)) l3 := q3
    rw [cut_whole ds i j c] at q4
    exact (LK.mk (.tup h1 rr) R3 q4).weak S
  | @lst p vs ds h1 rr => exact .inl ⟨p, vs, rfl, .inl (.inl (R3.fz _ _ h1)), fun p np => (LK.lst np R3 (cut_rel rr i j) q3).weak S⟩
  | @scr p ns h1 => exact .inl ⟨p, _, rfl, sqL_mono R3.fz h1, fun p np => (LK.lst np R3 (cut_rel (relDs_ints ns) i j) q3).weak S⟩
  | ref a =>
    obtain ⟨o, ho, q3⟩ := q3
    cases o with
    | lst ds =>
      obtain ⟨vs, r1, h1⟩ := (R3.lv _ _ ho).2
      exact .inl ⟨a, vs, rfl, .inl (.inl h1), fun p np => (LK.lst np R3 (cut_rel r1 i j) q3).weak S⟩
    | _ => exact q3.elim
  | _ => exact q3.elim
end
end DL

namespace DL
open PySem PySem.Spec PyProof.Rows L2
/-! tuple * int, whatever the int -/
theorem tuple_mulSame (l : Addr) (items : Array Value) (n : Nat) (dd : Option Addr) (sl : Array (Option Value)) (x : Int) (u : Tok) (c0 : (decide (x < -(2 ^ 63)) || decide (x ≥ 2 ^ 63)) = false) (c1 : (items.isEmpty || x == 1) = true) :
    Meets (Builtin.«tuple.__mul__» ⟨[.ref l, .int x u], []⟩) (fun _ R s => s.heap.get? l = some { cls := .type "tuple", dict := dd, data := .seq items n, slots := sl } ∧ R (.ok (.ret (Value.ref l))) s) :=
  .of_wp fun prog w A R s h => by
    obtain ⟨hp, g, d, tk, os⟩ := s
    obtain ⟨hl, h⟩ := h
    have f1 := AutoSeq1.idx_int
    wp_walk using wpAny_loadPart' hl
    repeat (first
      | (refine wpAny_ite_false (decide_eq_false (by rw [c0]; exact Bool.false_ne_true)) ?_; wp_walk using wpAny_loadPart' hl)
      | (refine wpAny_ite_true (decide_eq_true (by rw [c1])) ?_; wp_walk using wpAny_loadPart' hl))
    exact ⟨_, rfl, h⟩
theorem tuple_mulNone (l : Addr) (items : Array Value) (n : Nat) (dd : Option Addr) (sl : Array (Option Value)) (x : Int) (u : Tok) (c0 : (decide (x < -(2 ^ 63)) || decide (x ≥ 2 ^ 63)) = false) (c1 : (items.isEmpty || x == 1) = false) (c2 : (decide (x ≤ 0) || items.isEmpty) = true) :
    Meets (Builtin.«tuple.__mul__» ⟨[.ref l, .int x u], []⟩) (fun _ R s => s.heap.get? l = some { cls := .type "tuple", dict := dd, data := .seq items n, slots := sl } ∧
      R (.ok (.ret (Value.ref s.heap.objs.size))) { s with heap := s.heap.push { cls := Value.type "tuple", data := Data.seq #[] }, toks := s.toks }) :=
  .of_wp fun prog w A R s h => by
    obtain ⟨hp, g, d, tk, os⟩ := s
    obtain ⟨hl, h⟩ := h
    have f1 := AutoSeq1.idx_int
    wp_walk using wpAny_loadPart' hl
    repeat (first
      | (refine wpAny_ite_false (decide_eq_false (by rw [c0]; exact Bool.false_ne_true)) ?_; wp_walk using wpAny_loadPart' hl)
      | (refine wpAny_ite_false (decide_eq_false (by rw [c1]; exact Bool.false_ne_true)) ?_; wp_walk using wpAny_loadPart' hl)
      | (refine wpAny_ite_true (decide_eq_true (by rw [c2])) ?_; wp_walk using wpAny_loadPart' hl))
    exact ⟨_, rfl, h⟩
def rMulT (K : PySem.W.Frag) : R2 := fun x y H Q => ∃ l k xs, x = .ref l ∧ y = .int k ∧ SqT K H l xs ∧ -(2 ^ 63) ≤ k ∧ k < 2 ^ 63 ∧ xs.length * k.toNat ≤ sizeLine ∧
  ((xs = [] ∨ k = 1) → Q (.ref l) H) ∧ (¬ (xs = [] ∨ k = 1) → ∀ p, H p = none → Q (.ref p) (upd H p (.tup (List.replicate k.toNat xs).flatten)))
section
variable {X : Cx}
theorem op_mulT : OpR X (binaryOp .Mult) (rMulT X.K) := by
  intro pins s σ H x y v u Q I rx ry h
  obtain ⟨l, k, xs, rfl, rfl, hT, h1, h2, hz, q1, q2⟩ := h
  cases rx
  obtain ⟨t, rfl⟩ := ry
  obtain ⟨its, r, ⟨⟨cls, dd, data, sl⟩, ho, hc, n, hd⟩, hs⟩ := I.tuple hT
  simp only at hc hd
  subst hc hd
  have hle : its.length = xs.length := r.length.symm
  have hsz0 : its.toArray.size = xs.length := by rw [List.size_toArray, hle]
  have c0 : (decide (k < -(2 ^ 63)) || decide (k ≥ 2 ^ 63)) = false := by
    rw [decide_eq_false (by omega), decide_eq_false (by omega)] <;> rfl
  refine wpAny_binaryOp_repeat_ref (T := "tuple") (U := "int") (by decide) ⟨_, ho, rfl⟩ (fun s' => typeIs_int s' k t) noFill_tuple_mul F.fills_int_mul F.slot_int_rmul repeat_tuple F.slot_int_index.lookup
    (call_meets F.slot_int_rmul (typeIs_int s k t) F.entry_int_rmul (F.args_int_rmul_2 _ _) (int_rmul_tuple k t l its.toArray n dd sl)
      ⟨ho, rfl, ⟨_, ho, rfl⟩, ?_⟩)
  have hemp : its.toArray.isEmpty = decide (xs = []) := by
    cases r with
    | nil => rfl
    | cons _ _ => rfl
  by_cases hw : xs = [] ∨ k = 1
  · refine call_meets F.slot_tuple_mul ⟨_, ho, rfl⟩ F.entry_tuple_mul (F.args_tuple_mul_2 _ _) (tuple_mulSame l its.toArray n dd sl k t c0 ?_) ⟨ho, ?_⟩
    · rw [hemp]
      rcases hw with e | e
      · rw [decide_eq_true e]; rfl
      · rw [e, beq_self_eq_true, Bool.or_true]
    · exact ⟨.ref l, H, I, rfl, q1 hw⟩
  · have hne : xs ≠ [] := fun e => hw (.inl e)
    have hi : its.toArray.isEmpty = false := by rw [hemp]; exact decide_eq_false hne
    have c1 : (its.toArray.isEmpty || k == 1) = false := by
      rw [hi, Bool.false_or]
      exact beq_eq_false_iff_ne.mpr fun e => hw (.inr e)
    have new : ∀ (ws : Array Value), Vals (List.replicate k.toNat xs).flatten ws.toList → EP X pins σ Q (.ref s.heap.objs.size) { s with heap := s.heap.push { cls := Value.type "tuple", data := Data.seq ws }, toks := s.toks } := fun ws rv => by
      refine ⟨.ref s.heap.objs.size, _, I.laid (t' := s.toks) (o := .tup (List.replicate k.toNat xs).flatten) (fun b ob q => Heap.get?_push_of_some _ q) (Nat.le_refl _) ?_, rfl, q2 hw _ (I.hok.fresh (Nat.le_refl _))⟩
      exact ⟨by rw [PyProof.Rows.lm_len_rep_flat, Nat.mul_comm]; exact hz, ws.toList, rv, IsTup.new _ _⟩
    by_cases hk : k ≤ 0
    · refine call_meets F.slot_tuple_mul ⟨_, ho, rfl⟩ F.entry_tuple_mul (F.args_tuple_mul_2 _ _) (tuple_mulNone l its.toArray n dd sl k t c0 c1 (by rw [decide_eq_true hk, Bool.true_or])) ⟨ho, ?_⟩
      have e0 : k.toNat = 0 := by omega
      exact new #[] (by rw [e0]; exact .nil)
    · have hN : xs.length * k.toNat ≤ 16777216 := by rw [← sizeLine_eq]; exact hz
      have hm : ((its.toArray.size : Nat) : Int) * k ≤ 16777216 := by
        rw [hsz0]
        have e1 : ((k.toNat : Nat) : Int) = k := by omega
        have e2 : ((xs.length : Nat) : Int) * k = ((xs.length * k.toNat : Nat) : Int) := by rw [← e1]; simp
        rw [e2]
        generalize xs.length * k.toNat = z at hN ⊢
        omega
      have flen : (List.replicate k.toNat its).flatten.length ≤ sizeLine := by
        rw [PyProof.Rows.lm_len_rep_flat, hle, Nat.mul_comm]
        exact hz
      have c2 : (decide (k ≤ 0) || its.toArray.isEmpty) = false := by
        rw [hi, Bool.or_false]
        exact decide_eq_false (by omega)
      have c4 : Builtin.Tuple.tupleTooMany (((its.toArray.size : Nat) : Int) * k) = false := by
        unfold Builtin.Tuple.tupleTooMany
        rw [sizeLine_eq]
        exact decide_eq_false (by omega)
      refine call_meets F.slot_tuple_mul ⟨_, ho, rfl⟩ F.entry_tuple_mul (F.args_tuple_mul_2 _ _) (tuple_mulW l its.toArray n dd sl k t c0 c1 c2 (by omega) c4 (by rw [size_rep, List.size_toArray]; exact flen)) ⟨ho, ?_⟩
      rw [size_rep]
      exact new _ (r.rep k.toNat)
/-- * -/
def kMul : D → D → LH → DK → Prop := fun x y l Q => match x, y with
  | .int i, .int j => IntMulOk i j ∧ Q (.int (i * j)) l
  | .tup xs, .int k => (-(2 ^ 63) ≤ k ∧ k < 2 ^ 63 ∧ xs.length * k.toNat ≤ sizeLine) ∧ Q (.tup (List.replicate k.toNat xs).flatten) l
  | .lst xs, .int k => (-(2 ^ 63) ≤ k ∧ k < 2 ^ 63 ∧ xs.length * k.toNat ≤ sizeLine) ∧ Q (.lst (List.replicate k.toNat xs).flatten) l
  | _, _ => False
theorem RelDs.rep {K : PySem.W.Frag} {F : Hp} {xs : List D} {us : List V} (h : RelDs K F xs us) : ∀ k : Nat, RelDs K F (List.replicate k xs).flatten (List.replicate k us).flatten
  | 0 => .nil
  | k + 1 => by
    rw [List.replicate_succ, List.replicate_succ, List.flatten_cons, List.flatten_cons]
    exact h.append (RelDs.rep h k)
def rMul3 (K : PySem.W.Frag) : R2 := fun x y H Q => rI IntMulOk (fun i j => .int (i * j)) x y H Q ∨ (rMulT K x y H Q ∨ rRep x y H Q)
theorem op_mul3 : OpR X (binaryOp .Mult) (rMul3 X.K) := op_mulA.or (op_mulT.or op_rep)
theorem kMul_ok : KOp X (rMul3 X.K) kMul := by
  intro F Fr l H Q d e v u Q' R rd re hq q
  cases rd with
  | int i =>
    cases re <;> try exact q.elim
    exact .inl ⟨_, _, rfl, rfl, q.1, hq _ _ (LK.mk (.int _) R q.2)⟩
  | @tup p vs ds h1 rr =>
    cases re <;> try exact q.elim
    rename_i k
    obtain ⟨⟨a1, a2, a3⟩, q⟩ := q
    refine .inr (.inl ⟨p, k, vs, rfl, rfl, tq (R.fz _ _ h1), a1, a2, by rw [← rr.length]; exact a3, fun c => ?_, fun c p np => hq _ _ (LK.tup np R (rr.rep _) q)⟩)
    have e : (List.replicate k.toNat ds).flatten = ds := by
      rcases c with c | c
      · subst c
        cases rr
        simp
      · subst c
        show (List.replicate 1 ds).flatten = ds
        simp
    rw [e] at q
    exact hq _ _ (LK.mk (.tup h1 rr) R q)
  | @lst p vs ds h1 rr =>
    cases re <;> try exact q.elim
    obtain ⟨⟨a1, a2, a3⟩, q⟩ := q
    exact .inr (.inr ⟨p, _, vs, rfl, rfl, R.fz _ _ h1, a1, a2, by rw [← rr.length]; exact a3, fun p np => hq _ _ (LK.lst np R (rr.rep _) q)⟩)
  | _ => exact q.elim
variable {a b e : Expr} {ta tb tc te : DTE} {pos : Pos}
def dMul : DTE → DTE → DTE := dOp kMul
theorem de_mul (ha : DE X a ta) (hb : DE X b tb) : DE X (.BinOp a .Mult b pos) (dMul ta tb) := de_op op_mul3 kMul_ok ha hb
end
end DL

namespace DL
open PySem PySem.Spec PyProof.Rows L2

/-! ### built-ins -/
section
variable {X : Cx}
def kLen : List D → LH → DK → Prop := fun ds l Q => match ds with
  | [.tup xs] => Q (.int xs.length) l
  | [.lst xs] => Q (.int xs.length) l
  | [.scr xs] => Q (.int xs.length) l
  | [.kt xs] => Q (.int xs.length) l
  | [.str z] => z.length ≤ sizeLine ∧ Q (.int z.length) l
  | [.ref a] => getO l a fun o => match o with | .lst xs => Q (.int xs.length) l | _ => False
  | _ => False
theorem call_len2 : CallR X (.builtin "len") (fun xs H Q => (∃ p ys, xs = [.ref p] ∧ (SqL X.K H p ys ∨ SqT X.K H p ys) ∧ Q (.int ys.length) H) ∨ ∃ z, xs = [.str z] ∧ z.length ≤ sizeLine ∧ Q (.int z.length) H) := call_len_seq.or call_len_str
theorem kLen_ok : KCall X (fun xs H Q => (∃ p ys, xs = [.ref p] ∧ (SqL X.K H p ys ∨ SqT X.K H p ys) ∧ Q (.int ys.length) H) ∨ ∃ z, xs = [.str z] ∧ z.length ≤ sizeLine ∧ Q (.int z.length) H) kLen := by
  intro F Fr l H Q ds vs Q' R rd hq q
  cases rd with
  | nil => exact q.elim
  | cons r1 rr =>
    cases rr with
    | cons _ _ => cases r1 <;> exact q.elim
    | nil =>
      cases r1 with
      | @tup p vs ds h1 r1 => exact .inl ⟨p, vs, rfl, .inr (tq (R.fz _ _ h1)), hq _ _ (LK.mk (.int _) R (by rw [← r1.length]; exact q))⟩
      | @kt p od vs ds h1 _ _ r1 => exact .inl ⟨p, vs, rfl, .inr (.inl (.inr ⟨_, R.fz _ _ h1⟩)), hq _ _ (LK.mk (.int _) R (by rw [← r1.length]; exact q))⟩
      | @lst p vs ds h1 r1 => exact .inl ⟨p, vs, rfl, .inl (.inl (.inl (R.fz _ _ h1))), hq _ _ (LK.mk (.int _) R (by rw [← r1.length]; exact q))⟩
      | @scr p ns h1 => exact .inl ⟨p, _, rfl, .inl (sqL_mono R.fz h1), hq _ _ (LK.mk (.int _) R (by rw [List.length_map]; exact q))⟩
      | str z => exact .inr ⟨_, rfl, q.1, hq _ _ (LK.mk (.int _) R q.2)⟩
      | ref a =>
        obtain ⟨o, ho, q⟩ := q
        cases o with
        | lst ds =>
          obtain ⟨vs, r1, h1⟩ := (R.lv _ _ ho).2
          exact .inl ⟨a, vs, rfl, .inl (.inl (.inl h1)), hq _ _ (LK.mk (.int _) R (by rw [← r1.length]; exact q))⟩
        | _ => exact q.elim
      | _ => exact q.elim
def kAbs : List D → LH → DK → Prop := fun ds l Q => match ds with
  | [.int i] => Q (.int (if i < 0 then -i else i)) l
  | _ => False
theorem kAbs_ok : KCall X (fun xs H Q => ∃ i, xs = [.int i] ∧ Q (.int (if i < 0 then -i else i)) H) kAbs := by
  intro F Fr l H Q ds vs Q' R rd hq q
  cases rd with
  | nil => exact q.elim
  | cons r1 rr =>
    cases rr with
    | cons _ _ => cases r1 <;> exact q.elim
    | nil =>
      cases r1 <;> try exact q.elim
      exact ⟨_, rfl, hq _ _ (LK.mk (.int _) R q)⟩
/-- int(n), int(flag) -/
def kInt1 : List D → LH → DK → Prop := fun ds l Q => match ds with
  | [.int i] => Q (.int i) l
  | [.bl b] => Q (.int (if b then 1 else 0)) l
  | _ => False
theorem kInt1_ok : KCall X (fun xs H Q => (∃ i, xs = [.int i] ∧ Q (.int i) H) ∨ ∃ k, xs = [.bl k] ∧ Q (.int (if k then 1 else 0)) H) kInt1 := by
  intro F Fr l H Q ds vs Q' R rd hq q
  cases rd with
  | nil => exact q.elim
  | cons r1 rr =>
    cases rr with
    | cons _ _ => cases r1 <;> exact q.elim
    | nil =>
      cases r1 <;> try exact q.elim
      · exact .inr ⟨_, rfl, hq _ _ (LK.mk (.int _) R q)⟩
      · exact .inl ⟨_, rfl, hq _ _ (LK.mk (.int _) R q)⟩
def kMax : List D → LH → DK → Prop := fun ds l Q => match ds with
  | [.int i, .int j] => Q (.int (if j > i then j else i)) l
  | _ => False
theorem kMax_ok : KCall X (fun xs H Q => ∃ i j, xs = [.int i, .int j] ∧ Q (.int (if j > i then j else i)) H) kMax := by
  intro F Fr l H Q ds vs Q' R rd hq q
  cases rd with
  | nil => exact q.elim
  | cons r1 rr =>
    cases r1 <;> try (cases rr <;> exact q.elim)
    cases rr with
    | nil => exact q.elim
    | cons r2 rr =>
      cases rr with
      | cons _ _ => cases r2 <;> exact q.elim
      | nil =>
        cases r2 <;> try exact q.elim
        exact ⟨_, _, rfl, hq _ _ (LK.mk (.int _) R q)⟩
def kMin : List D → LH → DK → Prop := fun ds l Q => match ds with
  | [.int i, .int j] => Q (.int (if j < i then j else i)) l
  | _ => False
theorem kMin_ok : KCall X (fun xs H Q => ∃ i j, xs = [.int i, .int j] ∧ Q (.int (if j < i then j else i)) H) kMin := by
  intro F Fr l H Q ds vs Q' R rd hq q
  cases rd with
  | nil => exact q.elim
  | cons r1 rr =>
    cases r1 <;> try (cases rr <;> exact q.elim)
    cases rr with
    | nil => exact q.elim
    | cons r2 rr =>
      cases rr with
      | cons _ _ => cases r2 <;> exact q.elim
      | nil =>
        cases r2 <;> try exact q.elim
        exact ⟨_, _, rfl, hq _ _ (LK.mk (.int _) R q)⟩
def kDivmod : List D → LH → DK → Prop := fun ds l Q => match ds with
  | [.int i, .int j] => CDiv i j ∧ Q (.tup [.int (i / j), .int (i % j)]) l
  | _ => False
theorem kDivmod_ok : KCall X (fun xs H Q => ∃ i j, xs = [.int i, .int j] ∧ CDiv i j ∧ ∀ p, H p = none → Q (.ref p) (upd H p (.tup [.int (i / j), .int (i % j)]))) kDivmod := by
  intro F Fr l H Q ds vs Q' R rd hq q
  cases rd with
  | nil => exact q.elim
  | cons r1 rr =>
    cases r1 <;> try (cases rr <;> exact q.elim)
    cases rr with
    | nil => exact q.elim
    | cons r2 rr =>
      cases rr with
      | cons _ _ => cases r2 <;> exact q.elim
      | nil =>
        cases r2 <;> try exact q.elim
        exact ⟨_, _, rfl, q.1, fun p np => hq _ _ (LK.tup np R (.cons (.int _) (.cons (.int _) .nil)) q.2)⟩
/-- list(x), tuple(x) -/
def kList (new : List D → LH → DK → Prop) : List D → LH → DK → Prop := fun ds l Q => match ds with
  | [.tup xs] => new xs l Q
  | [.kt xs] => new xs l Q
  | [.lst xs] => new xs l Q
  | [.ref a] => getO l a fun o => match o with | .lst xs => new xs l Q | _ => False
  | _ => False
def nMut : List D → LH → DK → Prop := fun xs l Q => newL (.lst xs) l Q
def kListM := kList nMut
def kTuple : List D → LH → DK → Prop := fun ds l Q => match ds with
  | [.tup xs] => Q (.tup xs) l
  | [.kt xs] => Q (.kt xs) l
  | [.lst xs] => Q (.tup xs) l
  | [.ref a] => getO l a fun o => match o with | .lst xs => Q (.tup xs) l | _ => False
  | _ => False
theorem kList_ok {new : List D → LH → DK → Prop} (hn : ∀ {F Fr : Hp} {l : LH} {H : Hp} {Q : DK} {vs : List V} {ds : List D} {p : Addr}, H p = none → Rep X.K F Fr l H → RelDs X.K F ds vs → new ds l Q → LK X.K F Fr Q (.ref p) (upd H p (.lst vs))) :
    KCall X (fun xs H Q => ∃ p ys, xs = [.ref p] ∧ (SqL X.K H p ys ∨ SqT X.K H p ys) ∧ ∀ l, H l = none → Q (.ref l) (upd H l (.lst ys))) (kList new) := by
  intro F Fr l H Q ds vs Q' R rd hq q
  cases rd with
  | nil => exact q.elim
  | cons r1 rr =>
    cases rr with
    | cons _ _ => cases r1 <;> exact q.elim
    | nil =>
      cases r1 with
      | @tup p vs ds h1 r1 => exact ⟨p, vs, rfl, .inr (tq (R.fz _ _ h1)), fun p np => hq _ _ (hn np R r1 q)⟩
      | @kt p od vs ds h1 _ _ r1 => exact ⟨p, vs, rfl, .inr (.inl (.inr ⟨_, R.fz _ _ h1⟩)), fun p np => hq _ _ (hn np R r1 q)⟩
      | @lst p vs ds h1 r1 => exact ⟨p, vs, rfl, .inl (.inl (.inl (R.fz _ _ h1))), fun p np => hq _ _ (hn np R r1 q)⟩
      | ref a =>
        obtain ⟨o, ho, q⟩ := q
        cases o with
        | lst ds =>
          obtain ⟨vs, r1, h1⟩ := (R.lv _ _ ho).2
          exact ⟨a, vs, rfl, .inl (.inl (.inl h1)), fun p np => hq _ _ (hn np R r1 q)⟩
        | _ => exact q.elim
      | _ => exact q.elim
theorem kListM_ok : KCall X (fun xs H Q => ∃ p ys, xs = [.ref p] ∧ (SqL X.K H p ys ∨ SqT X.K H p ys) ∧ ∀ l, H l = none → Q (.ref l) (upd H l (.lst ys))) kListM := kList_ok fun np R r q => LK.mut np R r q
theorem kTuple_ok : KCall X (fun xs H Q => ∃ p ys, xs = [.ref p] ∧ ((SqL X.K H p ys ∧ ∀ l, H l = none → Q (.ref l) (upd H l (.tup ys))) ∨ (SqT X.K H p ys ∧ Q (.ref p) H))) kTuple := by
  intro F Fr l H Q ds vs Q' R rd hq q
  cases rd with
  | nil => exact q.elim
  | cons r1 rr =>
    cases rr with
    | cons _ _ => cases r1 <;> exact q.elim
    | nil =>
      cases r1 with
      | @tup p vs ds h1 r1 => exact ⟨p, vs, rfl, .inr ⟨tq (R.fz _ _ h1), hq _ _ (LK.mk (.tup h1 r1) R q)⟩⟩
      | @kt p od vs ds h1 hc hd r1 => exact ⟨p, vs, rfl, .inr ⟨.inl (.inr ⟨_, R.fz _ _ h1⟩), hq _ _ (LK.mk (.kt h1 hc hd r1) R q)⟩⟩
      | @lst p vs ds h1 r1 => exact ⟨p, vs, rfl, .inl ⟨.inl (.inl (R.fz _ _ h1)), fun p np => hq _ _ (LK.tup np R r1 q)⟩⟩
      | ref a =>
        obtain ⟨o, ho, q⟩ := q
        cases o with
        | lst ds =>
          obtain ⟨vs, r1, h1⟩ := (R.lv _ _ ho).2
          exact ⟨a, vs, rfl, .inl ⟨.inl (.inl h1), fun p np => hq _ _ (LK.tup np R r1 q)⟩⟩
        | _ => exact q.elim
      | _ => exact q.elim
def kAny : List D → LH → DK → Prop := fun ds l Q => match ds with
  | [.lst xs] => ∃ bs : List Bool, xs = bs.map D.bl ∧ Q (.bl (bs.any id)) l
  | _ => False
theorem kAny_ok : KCall X (rAny X.K) kAny := by
  intro F Fr l H Q ds vs Q' R rd hq q
  cases rd with
  | nil => exact q.elim
  | cons r1 rr =>
    cases rr with
    | cons _ _ => cases r1 <;> exact q.elim
    | nil =>
      cases r1 <;> try exact q.elim
      rename_i h1 r1
      obtain ⟨bs, rfl, q⟩ := q
      have e := r1.bls
      subst e
      exact ⟨_, bs, rfl, .inl (.inl (R.fz _ _ h1)), hq _ _ (LK.mk (.bl _) R q)⟩
def kSum : List D → LH → DK → Prop := fun ds l Q => match ds with
  | [.lst xs] => ∃ bs : List Int, xs = bs.map D.int ∧ Q (.int bs.sum) l
  | _ => False
theorem kSum_ok : KCall X (rSum X.K) kSum := by
  intro F Fr l H Q ds vs Q' R rd hq q
  cases rd with
  | nil => exact q.elim
  | cons r1 rr =>
    cases rr with
    | cons _ _ => cases r1 <;> exact q.elim
    | nil =>
      cases r1 <;> try exact q.elim
      rename_i h1 r1
      obtain ⟨bs, rfl, q⟩ := q
      have e := r1.ints
      subst e
      exact ⟨_, bs, rfl, .inl (.inl (R.fz _ _ h1)), hq _ _ (LK.mk (.int _) R q)⟩

/-! isinstance -/
variable {a b e : Expr} {ta tb tc te : DTE} {pos : Pos} {es : List Expr} {u : DTA}
theorem de_len (hg : Gl X "len") (hm : X.mg "len" = none) {p : Pos} (h : DE X e te) (he : starEach [e] X.env = (false, eval e X.env) :: starEach [] X.env := by rfl) : DE X (.Call (.Name "len" p) [e] [] pos) (dCall kLen (aCons te aNil)) :=
  de_callB call_len2 kLen_ok hg hm PySem.boot_len (da_cons h da_nil he) (by decide) (by decide) he
end
end DL

namespace DL
open PySem PySem.Spec PyProof.Rows L2

/-! ### targets -/
theorem wipe_set {i : Nat} {x : Option V} : ∀ {vs : List Nat} {σ : St}, i ∈ vs → L2.wipe (σ.set i x) vs = L2.wipe σ vs := by
  have key : ∀ (vs : List Nat) (σ : St), (i ∈ vs → L2.wipe (σ.set i x) vs = L2.wipe σ vs) ∧ (i ∉ vs → L2.wipe (σ.set i x) vs = (L2.wipe σ vs).set i x) := by
    intro vs
    induction vs with
    | nil => exact fun σ => ⟨fun h => by simp at h, fun _ => rfl⟩
    | cons v vs ih =>
      intro σ
      obtain ⟨h1, h2⟩ := ih σ
      constructor
      · intro h
        show (L2.wipe (σ.set i x) vs).set v none = (L2.wipe σ vs).set v none
        by_cases hi : i ∈ vs
        · rw [h1 hi]
        · have e : i = v := by
            rcases List.mem_cons.mp h with e | e
            · exact e
            · exact absurd e hi
          subst e
          rw [h2 hi, List.set_set]
      · intro h
        simp only [List.mem_cons, not_or] at h
        show (L2.wipe (σ.set i x) vs).set v none = ((L2.wipe σ vs).set v none).set i x
        rw [h2 h.2, List.set_comm _ _ h.1]
  intro vs σ h
  exact (key vs σ).1 h
section
variable {X : Cx}
def gName (i : Nat) : DTG := fun d env l Q => setK env i d fun env' => Q env' l
theorem dg_name {i : Nat} {x : Str} {pos : Pos} {vs : List Nat} (hN : X.N.Nodup) (hi : X.N[i]? = some x) (hx : Loc X.env.scope x) (hv : i ∈ vs) (hf : X.fn x = true ∨ X.env.scope.names.lookup x = some .local := by first | exact .inl rfl | exact .inr rfl | assumption) : DG X (.Name x pos) vs (gName i) := by
  refine ⟨?_⟩
  intro F Fr env l σ H d v Q he hr hd ht
  refine (pg_name hN hi hx hf).wg ?_
  unfold gName at ht
  rw [setK_eq] at ht
  exact ⟨wipe_set hv, F, _, l, Same.refl F, he.set hd i, hr, ht⟩
def gNil : List D → DSt → LH → (DSt → LH → Prop) → Prop := fun ds env l Q => match ds with | [] => Q env l | _ => False
def gCons (g : DTG) (u : List D → DSt → LH → (DSt → LH → Prop) → Prop) : List D → DSt → LH → (DSt → LH → Prop) → Prop := fun ds env l Q => match ds with
  | d :: r => g d env l fun env1 l1 => u r env1 l1 Q
  | [] => False
def gTup (n : Nat) (u : List D → DSt → LH → (DSt → LH → Prop) → Prop) : DTG := fun d env l Q => match d with
  | .tup ds => ds.length = n ∧ u ds env l Q
  | .lst ds => ds.length = n ∧ u ds env l Q
  | .ref a => getO l a fun o => match o with | .lst ds => ds.length = n ∧ u ds env l Q | _ => False
  | _ => False
theorem dgs_nil {vs : List Nat} : DGs X [] vs gNil := by
  refine ⟨?_⟩
  intro F Fr env l σ H d v Q he hr hd ht
  cases hd with
  | nil => exact pgs_nil.wgs ⟨rfl, rfl, F, env, l, Same.refl F, he, hr, ht⟩
  | cons _ _ => exact ht.elim
theorem dgs_cons {e : Expr} {es : List Expr} {vs : List Nat} {g : DTG} {u : List D → DSt → LH → (DSt → LH → Prop) → Prop} (h1 : DG X e vs g) (h2 : DGs X es vs u)
    (hm : (assignEach (e :: es) X.env).map (·.2) = assign e X.env :: (assignEach es X.env).map (·.2) := by rfl) : DGs X (e :: es) vs (gCons g u) := by
  refine ⟨?_⟩
  intro F Fr env l σ H d v Q he hr hd ht
  cases hd with
  | nil => exact ht.elim
  | cons r1 rr =>
    refine (pgs_cons pgW pgsW hm).wgs ?_
    refine ⟨_, _, rfl, ?_⟩
    refine (h1 F Fr env l σ H _ _ _ he hr r1 ht).mono fun σ1 H1 ⟨w1, F1, env1, l1, s1, he1, R1, q1⟩ => ?_
    refine (h2 F1 Fr env1 l1 σ1 H1 _ _ _ he1 R1 (rr.mono s1) q1).mono fun σ2 H2 ⟨w2, q2⟩ => ?_
    exact ⟨w2.trans w1, q2.weak s1⟩
theorem dg_tup {es : List Expr} {k n : Nat} {pos : Pos} {vs : List Nat} {u : List D → DSt → LH → (DSt → LH → Prop) → Prop} (hc : X.calm = true) (h : DGs X es vs u)
    (hn : (assignEach es X.env).length = n := by rfl) (hst : (assignEach es X.env).findIdx? (·.1) = none := by rfl) : DG X (.Tuple es k pos) vs (gTup n u) := by
  refine ⟨?_⟩
  intro F Fr env l σ H d v Q he hr hd ht
  cases hd with
  | @tup p vs ds h1 rr =>
    refine (pg_tup hc pgsW hn hst).wg ?_
    exact ⟨p, _, rfl, tq (hr.fz _ _ h1), by rw [← rr.length]; exact ht.1, h F Fr env l σ H _ _ _ he hr rr ht.2⟩
  | @lst p vs ds h1 rr =>
    refine (pg_unl hc pgsW hn hst).wg ?_
    exact ⟨p, _, rfl, .inl (.inl (hr.fz _ _ h1)), by rw [← rr.length]; exact ht.1, h F Fr env l σ H _ _ _ he hr rr ht.2⟩
  | ref a =>
    obtain ⟨o, ho, ht⟩ := ht
    cases o with
    | lst ds =>
      obtain ⟨vs, rr, h1⟩ := (hr.lv _ _ ho).2
      refine (pg_unl hc pgsW hn hst).wg ?_
      exact ⟨a, _, rfl, .inl (.inl h1), by rw [← rr.length]; exact ht.1, h F Fr env l σ H _ _ _ he hr rr ht.2⟩
    | _ => exact ht.elim
  | _ => exact ht.elim
/-- o[i] = v -/
def gSub (to ti : DTE) (k : D → D → D → LH → (LH → Prop) → Prop) : DTG := fun d env l Q => to env l fun o l1 => ti env l1 fun i l2 => k o i d l2 fun l3 => Q env l3
def KSet (X : Cx) (t : TSet) (k : D → D → D → LH → (LH → Prop) → Prop) : Prop := ∀ F Fr l H (Q : LH → Prop) o i d ov iv v (Q' : Hp → Prop), Rep X.K F Fr l H → RelD X.K F o ov → RelD X.K F i iv → RelD X.K F d v → (∀ H, LH' X.K F Fr Q H → Q' H) → k o i d l Q → t ov iv v H Q'
theorem dg_sub {o i : Expr} {to ti : DTE} {t : TSet} {k : D → D → D → LH → (LH → Prop) → Prop} {pos : Pos} {vs : List Nat} (hs : PSet X t) (hk : KSet X t k) (ho : DE X o to) (hi : DE X i ti)
    (ha : ∀ v, assign (.Subscript o i pos) X.env v = (do
      let ov ← holding [v] (eval o X.env)
      let iv ← holding [v, ov] (eval i X.env)
      standAt pos
      holding [v, ov, iv] (setItem ov iv v)
      release [v, ov, iv] []) := by intro _; rfl) : DG X (.Subscript o i pos) vs (gSub to ti k) := by
  refine ⟨?_⟩
  intro F Fr env l σ H d v Q he hr hd ht
  refine (pg_sub peW peW hs ha).wg ?_
  refine (ho F Fr env l σ H _ he hr ht).mono fun x H1 ⟨F1, d1, l1, s1, r1, R1, q1⟩ => ?_
  refine (hi F1 Fr env l1 σ H1 _ (he.mono s1) R1 q1).mono fun y H2 ⟨F2, d2, l2, s2, r2, R2, q2⟩ => ?_
  refine hk F2 Fr l2 H2 _ d1 d2 d x y v _ R2 (r1.mono s2) r2 (hd.mono (s1.trans s2)) (fun H3 q => ?_) q2
  obtain ⟨F3, l3, s3, R3, q3⟩ := q
  exact ⟨rfl, F3, env, l3, s1.trans (s2.trans s3), he.mono (s1.trans (s2.trans s3)), R3, q3⟩
def kSetL : D → D → D → LH → (LH → Prop) → Prop := fun o i d l Q => match o, i with
  | .ref a, .int k => getO l a fun u => match u with | .lst ds => ∃ j, ixN ds.length k = some j ∧ Q (uL l a (.lst (ds.set j d))) | _ => False
  | _, _ => False
theorem kSetL_ok : KSet X rSetL kSetL := by
  intro F Fr l H Q o i d ov iv v Q' R ro ri rd hq q
  cases ro <;> try exact q.elim
  cases ri <;> try exact q.elim
  obtain ⟨u, ho, q⟩ := q
  cases u with
  | lst ds =>
    obtain ⟨j, hj, q⟩ := q
    obtain ⟨vs, rr, h1⟩ := (R.lv _ _ ho).2
    exact ⟨_, vs, _, j, rfl, rfl, h1, by rw [← rr.length]; exact hj, hq _ ⟨F, _, Same.refl F, R.write ho rfl (show DOk X.K F _ _ (.lst (ds.set j d)) from ⟨_, rr.set rd j, upd_same⟩), q⟩⟩
  | _ => exact q.elim
def gIx (to ti : DTE) : DTG := gSub to ti kSetL

/-! ### statements -/
section
variable {e : Expr} {te : DTE} {st : Stmt} {rest : List Stmt} {t u : DTS} {pos : Pos}
def sSeq (t u : DTS) : DTS := fun E env l => t ⟨u E, E.rt, E.bk, E.ct⟩ env l
def sNext : DTS := fun E env l => E.nx env l
theorem dss_nil : DSs X [] sNext := ⟨fun F Fr env l σ H E he hr ht => pss_nil.wss ⟨F, env, l, Same.refl F, he, hr, ht⟩⟩
theorem dss_one (h : DS X st t) : DSs X [st] t := ⟨fun F Fr env l σ H E he hr ht => (pss_one psW).wss (h F Fr env l σ H E he hr ht)⟩
theorem dss_cons (h1 : DS X st t) (h2 : DSs X rest u) : DSs X (st :: rest) (sSeq t u) := by
  refine ⟨?_⟩
  intro F Fr env l σ H E he hr ht
  refine (pss_cons psW pssW).wss ?_
  refine (h1 F Fr env l σ H _ he hr ht).mono (fun σ1 H1 ⟨F1, env1, l1, s1, he1, R1, q1⟩ => ?_) (fun _ _ q => q) (fun _ _ q => q) (fun _ _ q => q)
  exact (h2 F1 Fr env1 l1 σ1 H1 E he1 R1 q1).mono (fun _ _ q => LS.weak s1 q) (fun _ _ q => LK.weak s1 q) (fun _ _ q => LS.weak s1 q) (fun _ _ q => LS.weak s1 q)
def sRet (te : DTE) : DTS := fun E env l => te env l E.rt
theorem ds_ret (h : DE X e te) : DS X (.Return (some e) pos) (sRet te) := ⟨fun F Fr env l σ H E he hr ht => (ps_ret peW).ws (h F Fr env l σ H _ he hr ht)⟩
def sExpr (te : DTE) : DTS := fun E env l => te env l fun _ l1 => E.nx env l1
theorem ds_expr (h : DE X e te) (hs : swapsWith e none pos.line X.env = pure false := by rfl) : DS X (.Expr e pos) (sExpr te) := by
  refine ⟨?_⟩
  intro F Fr env l σ H E he hr ht
  refine (ps_expr peW hs).ws ?_
  exact (h F Fr env l σ H _ he hr ht).mono fun x H1 ⟨F1, d, l1, s1, r1, R1, q1⟩ => ⟨F1, env, l1, s1, he.mono s1, R1, q1⟩
def sIf (tt : DTT) (t u : DTS) : DTS := fun E env l => tt env l fun c l1 => ifB c (t E env l1) (u E env l1)
theorem ds_if {c : Expr} {a b : List Stmt} {tt : DTT} (hc : DT X c tt) (ha : DSs X a t) (hb : DSs X b u) : DS X (.If c a b pos) (sIf tt t u) := by
  refine ⟨?_⟩
  intro F Fr env l σ H E he hr ht
  refine (ps_if ptW pssW pssW).ws ?_
  refine (hc F Fr env l σ H _ he hr ht).mono fun x H1 ⟨F1, l1, s1, R1, q1⟩ => ?_
  cases x with
  | true => exact L2.iteT ((ha F1 Fr env l1 σ H1 E (he.mono s1) R1 (ifB_T q1)).mono (fun _ _ q => LS.weak s1 q) (fun _ _ q => LK.weak s1 q) (fun _ _ q => LS.weak s1 q) (fun _ _ q => LS.weak s1 q))
  | false => exact L2.iteF ((hb F1 Fr env l1 σ H1 E (he.mono s1) R1 (ifB_F q1)).mono (fun _ _ q => LS.weak s1 q) (fun _ _ q => LK.weak s1 q) (fun _ _ q => LS.weak s1 q) (fun _ _ q => LS.weak s1 q))
def sAsg (te : DTE) (g : DTG) : DTS := fun E env l => te env l fun d l1 => g d env l1 E.nx
theorem ds_asg {tg : Expr} {g : DTG} {vs : List Nat} (h : DE X e te) (hg : DG X tg vs g) (hs : swapsWithSole [tg] e pos.line X.env = pure false := by rfl) (hw : swappedStores [tg] e X.env = pure none := by rfl)
    (h1 : (assignEach [tg] X.env).map (·.2) = [assign tg X.env] := by rfl) : DS X (.Assign [tg] e pos) (sAsg te g) := by
  refine ⟨?_⟩
  intro F Fr env l σ H E he hr ht
  refine (ps_asg peW pgW hs hw h1).ws ?_
  refine (h F Fr env l σ H _ he hr ht).mono fun x H1 ⟨F1, d, l1, s1, r1, R1, q1⟩ => ?_
  exact (hg F1 Fr env l1 σ H1 _ _ _ (he.mono s1) R1 r1 q1).mono fun σ2 H2 ⟨_, q2⟩ => LS.weak s1 q2
def sSet (i : Nat) (te : DTE) : DTS := fun E env l => te env l fun d l1 => setK env i d fun env' => E.nx env' l1
theorem ds_set {i : Nat} {x : Str} {pos' : Pos} (hN : X.N.Nodup) (hi : X.N[i]? = some x) (hx : Loc X.env.scope x) (h : DE X e te) (hs : swapsWith e (some (.Name x pos')) pos.line X.env = pure false := by rfl) (hf : X.fn x = true ∨ X.env.scope.names.lookup x = some .local := by first | exact .inl rfl | exact .inr rfl | assumption) : DS X (.Assign [.Name x pos'] e pos) (sSet i te) := by
  refine ⟨?_⟩
  intro F Fr env l σ H E he hr ht
  refine (ps_set hN hi hx peW hs hf).ws ?_
  refine (h F Fr env l σ H _ he hr ht).mono fun x H1 ⟨F1, d, l1, s1, r1, R1, q1⟩ => ?_
  replace q1 : setK env i d fun env' => E.nx env' l1 := q1
  rw [setK_eq] at q1
  exact ⟨F1, _, l1, s1, (he.mono s1).set r1 i, R1, q1⟩
/-- a, b = e1, e2 of plain local names -/
def sPar (i j : Nat) (ta : DTA) : DTS := fun E env l => ta env l fun ds l1 => match ds with
  | [v, w] => setK env i v fun env1 => setK env1 j w fun env2 => E.nx env2 l1
  | _ => False
theorem ds_par {i j : Nat} {x y : Str} {a b : Expr} {ta : DTA} {px py pt : Pos} {kt k2 pt2} (hc : X.calm = true) (hN : X.N.Nodup) (hi : X.N[i]? = some x) (hj : X.N[j]? = some y) (hij : i ≠ j)
    (hx : X.env.scope.names.lookup x = some .local) (hy : X.env.scope.names.lookup y = some .local) (ha : DA X [a, b] ta)
    (hw : swappedStores [.Tuple [.Name x px, .Name y py] kt pt] (.Tuple [a, b] k2 pt2) X.env = pure (some [x, y]))
    (hs : swapsWithSole [.Tuple [.Name x px, .Name y py] kt pt] (.Tuple [a, b] k2 pt2) pos.line X.env = pure false := by rfl) :
    DS X (.Assign [.Tuple [.Name x px, .Name y py] kt pt] (.Tuple [a, b] k2 pt2) pos) (sPar i j ta) := by
  refine ⟨?_⟩
  intro F Fr env l σ H E he hr ht
  refine (ps_par hc hN hi hj hij hx hy paW hw hs).ws ?_
  refine (ha F Fr env l σ H _ he hr ht).mono fun vs H1 ⟨F1, ds, l1, s1, r1, R1, q1⟩ => ?_
  cases r1 with
  | nil => exact q1.elim
  | cons ra rr =>
    cases rr with
    | nil => exact q1.elim
    | cons rb rr =>
      cases rr with
      | cons _ _ => exact q1.elim
      | nil =>
        replace q1 : setK env i _ _ := q1
        rw [setK_eq, setK_eq] at q1
        exact ⟨_, _, rfl, F1, _, l1, s1, ((he.mono s1).set ra i).set rb j, R1, q1⟩
/-! ### loops -/
def forL (g : DTG) (tb : DTS) : List D → DTS
  | [], E, env, l => E.nx env l
  | d :: ds, E, env, l => g d env l fun env1 l1 => tb ⟨forL g tb ds E, E.rt, E.nx, forL g tb ds E⟩ env1 l1
def sFor (ti : DTI) (g : DTG) (tb : DTS) : DTS := fun E env l => ti env l fun ds l1 => forL g tb ds E env l1
theorem ds_for {tg iter : Expr} {body : List Stmt} {ti : DTI} {g : DTG} {tb : DTS} {vs : List Nat} (hp : PassesOwn (model X.prog X.w) X.A X.env X.xe) (hc : X.calm = true) (hi : DI X tg iter ti) (hg : DG X tg vs g) (hb : DSs X body tb)
    (hs : ∀ x, foldedSetIterable iter X.env x = pure x := by intro _; rfl) : DS X (.For tg iter body [] pos) (sFor ti g tb) := by
  refine ⟨?_⟩
  intro F Fr env l σ H E he hr ht
  refine (ps_for hp hc piW pgW pssW hs).ws ?_
  refine (hi F Fr env l σ H _ he hr ht).mono fun J H1 ⟨F1, l1, ds, s1, R1, jk, q1⟩ => ?_
  refine ⟨fun i m σ H => m = ds.length - i ∧ i ≤ ds.length ∧ ∃ F' env l, Same F1 F' ∧ RepE X.K F' env σ ∧ Rep X.K F' Fr l H ∧ forL g tb (ds.drop i) E env l, ⟨_, rfl, Nat.zero_le _, F1, env, l1, Same.refl _, he.mono s1, R1, q1⟩, ?_⟩
  rintro i m σ H ⟨rfl, hi, F2, env, l, s2, he2, R2, q2⟩
  obtain ⟨j1, j2⟩ := jk i F2 Fr l H s2 R2
  by_cases hlt : i < ds.length
  · rw [List.drop_eq_getElem_cons hlt] at q2
    obtain ⟨go, y⟩ := j2 ds[i] (List.getElem?_eq_getElem hlt)
    refine .inr ⟨go, fun σ H => ∃ F' env l, Same F1 F' ∧ RepE X.K F' env σ ∧ Rep X.K F' Fr l H ∧ forL g tb (ds.drop (i + 1)) E env l, fun σ' H' h => ⟨_, by omega, rfl, hlt, h⟩, fun x H' hy => ?_⟩
    obtain ⟨F3, s3, rx, R3⟩ := y x H' hy
    refine (hg F3 Fr env l σ H' _ _ _ (he2.mono s3) R3 rx q2).mono fun σ4 H4 ⟨_, F4, env4, l4, s4, he4, R4, q4⟩ => ?_
    have S : Same F1 F4 := s2.trans (s3.trans s4)
    refine (hb F4 Fr env4 l4 σ4 H4 _ he4 R4 q4).mono (fun σ5 H5 q => ?_) (fun _ _ q => LK.weak (s1.trans S) q) (fun _ _ q => LS.weak (s1.trans S) q) (fun σ5 H5 q => ?_)
    · obtain ⟨F5, env5, l5, s5, he5, R5, q5⟩ := q
      exact ⟨F5, env5, l5, S.trans s5, he5, R5, q5⟩
    · obtain ⟨F5, env5, l5, s5, he5, R5, q5⟩ := q
      exact ⟨F5, env5, l5, S.trans s5, he5, R5, q5⟩
  · have e : i = ds.length := by omega
    subst e
    rw [List.drop_length] at q2
    exact .inl ⟨j1 (Nat.le_refl _), F2, env, l, s1.trans s2, he2, R2, q2⟩
/-- while: by an invariant and a measure -/
def sWhile (tt : DTT) (tb : DTS) : DTS := fun E env l => ∃ W : Nat → DSt → LH → Prop, (∃ m, W m env l) ∧ ∀ m env l, W m env l →
  tt env l fun c l1 => ifB c (tb ⟨fun env l => ∃ m', m' < m ∧ W m' env l, E.rt, E.nx, fun env l => ∃ m', m' < m ∧ W m' env l⟩ env l1) (E.nx env l1)
theorem ds_while {c : Expr} {body : List Stmt} {tt : DTT} {tb : DTS} (hp : PassesOwn (model X.prog X.w) X.A X.env X.xe) (hc : DT X c tt) (hb : DSs X body tb) : DS X (.While c body [] pos) (sWhile tt tb) := by
  refine ⟨?_⟩
  intro F Fr env l σ H E he hr ht
  obtain ⟨W, ⟨m, w0⟩, step⟩ := ht
  refine (ps_while hp ptW pssW).ws ?_
  refine ⟨fun m σ H => ∃ F' env l, Same F F' ∧ RepE X.K F' env σ ∧ Rep X.K F' Fr l H ∧ W m env l, ⟨m, F, env, l, Same.refl F, he, hr, w0⟩, ?_⟩
  rintro m σ H ⟨F1, env, l, s1, he1, R1, w1⟩
  refine (hc F1 Fr env l σ H _ he1 R1 (step m env l w1)).mono fun x H1 ⟨F2, l2, s2, R2, q2⟩ => ?_
  have S := s1.trans s2
  cases x with
  | true =>
    refine L2.iteT ⟨fun σ H => ∃ m', m' < m ∧ ∃ F' env l, Same F F' ∧ RepE X.K F' env σ ∧ Rep X.K F' Fr l H ∧ W m' env l, fun σ' H' h => h, ?_⟩
    refine (hb F2 Fr env l2 σ H1 _ (he1.mono s2) R2 (ifB_T q2)).mono (fun σ5 H5 q => ?_) (fun _ _ q => LK.weak S q) (fun _ _ q => LS.weak S q) (fun σ5 H5 q => ?_)
    · obtain ⟨F5, env5, l5, s5, he5, R5, m', hm, q5⟩ := q
      exact ⟨m', hm, F5, env5, l5, S.trans s5, he5, R5, q5⟩
    · obtain ⟨F5, env5, l5, s5, he5, R5, m', hm, q5⟩ := q
      exact ⟨m', hm, F5, env5, l5, S.trans s5, he5, R5, q5⟩
  | false => exact L2.iteF ⟨F2, env, l2, S, he1.mono s2, R2, ifB_F q2⟩
end
end
end DL

namespace DL
open PySem PySem.Spec PyProof.Rows L2

/-! ### what is walked -/
section
variable {X : Cx} {tg : Expr}
theorem it_list {pins : List (Addr × Obj)} {σ : St} {H : Hp} {s : Shared} {R : It → Hp → Prop} {E : Value → Shared → Prop} {a : Addr} {xs : List V} (I : Inv X pins σ H s) (hq : SqL X.K H a xs) (q : R (Itl X.K a) H) :
    wpAny (model X.prog X.w) X.A (pyIter (.ref a)) (PIE X pins σ tg R) E s := by
  obtain ⟨its, rv, p, hz⟩ := I.list hq
  refine wpAny_pyIter_list p.isList ?_
  refine ⟨s.heap.objs.size, [s.heap.objs.size], _, _, H, rfl, I.kept (t' := s.toks) fun b o e => Heap.get?_push_of_some _ e, turn_list a _, ⟨_, Heap.get?_push_size _ rfl, rfl, rfl⟩, fun b hb => ?_, q⟩
  have e : b = s.heap.objs.size := by simpa using hb
  subst e
  exact I.fpOk (Nat.le_refl _) (I.hok.fresh (Nat.le_refl _))
theorem it_tup {pins : List (Addr × Obj)} {σ : St} {H : Hp} {s : Shared} {R : It → Hp → Prop} {E : Value → Shared → Prop} {a : Addr} {xs : List V} (I : Inv X pins σ H s) (hq : SqT X.K H a xs) (q : R (Itt X.K a) H) :
    wpAny (model X.prog X.w) X.A (pyIter (.ref a)) (PIE X pins σ tg R) E s := by
  obtain ⟨its, rv, p, hz⟩ := I.tuple hq
  refine wpAny_pyIter_tuple (show s.heap.IsTuple a its.toArray from p) ?_
  refine ⟨s.heap.objs.size, [s.heap.objs.size], _, _, H, rfl, I.kept (t' := s.toks) fun b o e => Heap.get?_push_of_some _ e, turn_tuple a _, ⟨_, Heap.get?_push_size _ rfl, rfl, rfl⟩, fun b hb => ?_, q⟩
  have e : b = s.heap.objs.size := by simpa using hb
  subst e
  exact I.fpOk (Nat.le_refl _) (I.hok.fresh (Nat.le_refl _))
end
/-- an iterator that gives the items of ds, whatever the reading of its own -/
theorem jok_list {K : PySem.W.Frag} {F : Hp} {a : Addr} {vs : List V} {ds : List D} (h : SqL K F a vs) (r : RelDs K F ds vs) : JOk K F (Itl K a) ds := by
  intro i F' Fr l H s R
  have q : SqL K H a vs := sqL_mono R.fz (sqL_mono s h)
  refine ⟨fun hi => ⟨vs, q, by rw [← r.length]; exact hi⟩, fun d hd => ?_⟩
  obtain ⟨v, hv, rv⟩ := r.get hd
  refine ⟨⟨vs, v, q, hv⟩, fun x H' y => ?_⟩
  obtain ⟨e, y⟩ := y
  subst e
  have e := y vs q
  rw [hv] at e
  cases e
  exact ⟨F', Same.refl _, rv.mono s, R⟩
theorem jok_tup {K : PySem.W.Frag} {F : Hp} {a : Addr} {vs : List V} {ds : List D} (h : SqT K F a vs) (r : RelDs K F ds vs) : JOk K F (Itt K a) ds := by
  intro i F' Fr l H s R
  have q : SqT K H a vs := sqT_mono R.fz (sqT_mono s h)
  refine ⟨fun hi => ⟨vs, q, by rw [← r.length]; exact hi⟩, fun d hd => ?_⟩
  obtain ⟨v, hv, rv⟩ := r.get hd
  refine ⟨⟨vs, v, q, hv⟩, fun x H' y => ?_⟩
  obtain ⟨e, y⟩ := y
  subst e
  have e := y vs q
  rw [hv] at e
  cases e
  exact ⟨F', Same.refl _, rv.mono s, R⟩
section
variable {X : Cx} {tg e e2 : Expr} {te : DTE} {ta : DTA}
def iSeq (te : DTE) : DTI := fun env l R => te env l fun d l1 => match d with
  | .lst ds => R ds l1
  | .tup ds => R ds l1
  | .scr ns => R (ns.map D.int) l1
  | .kt ds => R ds l1
  | _ => False
theorem di_seq (h : DE X e te) : DI X tg e (iSeq te) := by
  refine ⟨?_⟩
  intro F Fr env l σ H R he hr ht pins s I
  refine thn (h F Fr env l σ H _ he hr ht pins s I) fun v s1 ⟨x, H1, I1, r1, F1, d, l1, s1', rd, R1, q1⟩ => ?_
  cases rd with
  | @tup p vs ds h1 rr => cases r1; exact it_tup I1 (tq (R1.fz _ _ h1)) ⟨F1, l1, ds, s1', R1, jok_tup (tq h1) rr, q1⟩
  | @kt p od vs ds h1 _ _ rr => cases r1; exact it_tup I1 (.inl (.inr ⟨_, R1.fz _ _ h1⟩)) ⟨F1, l1, ds, s1', R1, jok_tup (.inl (.inr ⟨_, h1⟩)) rr, q1⟩
  | @lst p vs ds h1 rr => cases r1; exact it_list I1 (.inl (.inl (R1.fz _ _ h1))) ⟨F1, l1, ds, s1', R1, jok_list (.inl (.inl h1)) rr, q1⟩
  | @scr p ns h1 => cases r1; exact it_list I1 (sqL_mono R1.fz h1) ⟨F1, l1, _, s1', R1, jok_list h1 (relDs_ints ns), q1⟩
  | _ => exact q1.elim
def rgD (lo : Int) (n : Nat) : List D := (List.range n).map fun i => D.int (lo + (i : Nat))
theorem jok_rng {K : PySem.W.Frag} {F : Hp} (lo : Int) (n : Nat) : JOk K F (Itr lo n) (rgD lo n) := by
  intro i F' Fr l H s R
  refine ⟨fun hi => by
    show n ≤ i
    simpa [rgD] using hi, fun d hd => ?_⟩
  have hi : i < n := by
    have := (List.getElem?_eq_some_iff.mp hd).1
    simpa [rgD] using this
  refine ⟨hi, fun x H' y => ?_⟩
  obtain ⟨e, y⟩ := y
  subst e y
  have e : d = .int (lo + (i : Nat)) := by
    unfold rgD at hd
    rw [List.getElem?_map, List.getElem?_range hi] at hd
    exact (Option.some.inj hd).symm
  subst e
  exact ⟨F', Same.refl _, .int _, R⟩
def iRg1 (ta : DTA) : DTI := fun env l R => ta env l fun ds l1 => match ds with
  | [.int j] => (-(2 ^ 62) ≤ j ∧ j < 2 ^ 62) ∧ R (rgD 0 j.toNat) l1
  | _ => False
def iRg2 (ta : DTA) : DTI := fun env l R => ta env l fun ds l1 => match ds with
  | [.int i, .int j] => (-(2 ^ 62) ≤ i ∧ i < 2 ^ 62 ∧ -(2 ^ 62) ≤ j ∧ j < 2 ^ 62) ∧ R (rgD i (j - i).toNat) l1
  | _ => False
theorem di_range1 {p pos : Pos} (hg : Gl X "range") (hm : X.mg "range" = none) (ha : DA X [e] ta) (hs : starEach [e] X.env = [(false, eval e X.env)] := by rfl) : DI X tg (.Call (.Name "range" p) [e] [] pos) (iRg1 ta) := by
  refine ⟨?_⟩
  intro F Fr env l σ H R he hr ht
  refine (pi_range1 hg hm paW hs).wi ?_
  refine (ha F Fr env l σ H _ he hr ht).mono fun vs H1 ⟨F1, ds, l1, s1, r1, R1, q1⟩ => ?_
  cases r1 with
  | nil => exact q1.elim
  | cons ra rr =>
    cases rr with
    | cons _ _ => cases ra <;> exact q1.elim
    | nil =>
      cases ra <;> try exact q1.elim
      exact ⟨_, rfl, q1.1.1, q1.1.2, F1, l1, _, s1, R1, jok_rng 0 _, q1.2⟩
theorem di_range2 {p pos : Pos} (hg : Gl X "range") (hm : X.mg "range" = none) (ha : DA X [e, e2] ta) (hs : starEach [e, e2] X.env = [(false, eval e X.env), (false, eval e2 X.env)] := by rfl) (hs2 : starEach [e2] X.env = [(false, eval e2 X.env)] := by rfl) : DI X tg (.Call (.Name "range" p) [e, e2] [] pos) (iRg2 ta) := by
  refine ⟨?_⟩
  intro F Fr env l σ H R he hr ht
  refine (pi_range2 hg hm paW hs hs2).wi ?_
  refine (ha F Fr env l σ H _ he hr ht).mono fun vs H1 ⟨F1, ds, l1, s1, r1, R1, q1⟩ => ?_
  cases r1 with
  | nil => exact q1.elim
  | cons ra rr =>
    cases ra <;> try (cases rr <;> exact q1.elim)
    cases rr with
    | nil => exact q1.elim
    | cons rb rr =>
      cases rr with
      | cons _ _ => cases rb <;> exact q1.elim
      | nil =>
        cases rb <;> try exact q1.elim
        exact ⟨_, _, rfl, q1.1, F1, l1, _, s1, R1, jok_rng _ _, q1.2⟩
def enumD : Nat → List D → List D
  | _, [] => []
  | i, d :: ds => .tup [.int (i : Nat), d] :: enumD (i + 1) ds
theorem enumD_get : ∀ (ds : List D) (k i : Nat), (enumD k ds)[i]? = (ds[i]?).map fun d => D.tup [.int ((k + i : Nat) : Int), d]
  | [], _, _ => by simp [enumD]
  | d :: ds, k, 0 => by simp [enumD]
  | d :: ds, k, i + 1 => by
    show (enumD (k + 1) ds)[i]? = _
    rw [enumD_get ds (k + 1) i, Nat.add_right_comm, Nat.add_assoc]
    rfl
theorem enumD_length : ∀ (ds : List D) (k : Nat), (enumD k ds).length = ds.length
  | [], _ => rfl
  | d :: ds, k => by rw [enumD, List.length_cons, enumD_length ds, List.length_cons]
theorem jok_enum {K : PySem.W.Frag} {F : Hp} {a : Addr} {vs : List V} {ds : List D} (h : SqL K F a vs) (r : RelDs K F ds vs) : JOk K F (Ite K a) (enumD 0 ds) := by
  intro i F' Fr l H s R
  have q : SqL K H a vs := sqL_mono R.fz (sqL_mono s h)
  refine ⟨fun hi => ⟨vs, q, by rw [← r.length]; rw [enumD_length] at hi; exact hi⟩, fun d hd => ?_⟩
  rw [enumD_get] at hd
  cases e0 : ds[i]? with
  | none => rw [e0] at hd; cases hd
  | some d0 =>
    rw [e0] at hd
    cases hd
    obtain ⟨v, hv, rv⟩ := r.get e0
    refine ⟨⟨vs, v, q, hv⟩, fun x H' y => ?_⟩
    obtain ⟨T, x0, rfl, nT, rfl, y⟩ := y
    have e := y vs q
    rw [hv] at e
    cases e
    rw [Nat.zero_add]
    exact ⟨_, same_upd (R.F_none nT), relTup (R.F_none nT) (.cons (.int _) (.cons (rv.mono s) .nil)), R.laid nT _⟩
def iEnum (ta : DTA) : DTI := fun env l R => ta env l fun ds l1 => match ds with
  | [.lst xs] => R (enumD 0 xs) l1
  | [.scr ns] => R (enumD 0 (ns.map D.int)) l1
  | _ => False
theorem di_enum {p pos tpos : Pos} {elts : List Expr} {kk : Nat} (hg : Gl X "enumerate") (hm : X.mg "enumerate" = none) (ha : DA X [e] ta) (hs : starEach [e] X.env = [(false, eval e X.env)] := by rfl) : DI X (.Tuple elts kk tpos) (.Call (.Name "enumerate" p) [e] [] pos) (iEnum ta) := by
  refine ⟨?_⟩
  intro F Fr env l σ H R he hr ht
  refine (pi_enum hg hm paW hs).wi ?_
  refine (ha F Fr env l σ H _ he hr ht).mono fun vs H1 ⟨F1, ds, l1, s1, r1, R1, q1⟩ => ?_
  cases r1 with
  | nil => exact q1.elim
  | cons ra rr =>
    cases rr with
    | cons _ _ => cases ra <;> exact q1.elim
    | nil =>
      cases ra with
      | @scr p ns h1 => exact ⟨p, _, rfl, sqL_mono R1.fz h1, F1, l1, _, s1, R1, jok_enum h1 (relDs_ints ns), q1⟩
      | @lst p vs ds h1 rr => exact ⟨p, _, rfl, .inl (.inl (R1.fz _ _ h1)), F1, l1, _, s1, R1, jok_enum (.inl (.inl h1)) rr, q1⟩
      | _ => exact q1.elim
def zipD : List D → List D → List D
  | a :: as, b :: bs => .tup [a, b] :: zipD as bs
  | _, _ => []
theorem zipD_get : ∀ (as bs : List D) (i : Nat), (zipD as bs)[i]? = match as[i]?, bs[i]? with | some a, some b => some (D.tup [a, b]) | _, _ => none
  | [], bs, i => by simp [zipD]
  | a :: as, [], i => by
    simp only [zipD, List.getElem?_nil]
    split <;> simp_all
  | a :: as, b :: bs, 0 => by simp [zipD]
  | a :: as, b :: bs, i + 1 => by
    show (zipD as bs)[i]? = _
    rw [zipD_get as bs i]
    rfl
theorem jok_zip {K : PySem.W.Frag} {F : Hp} {a b : Addr} {vs us : List V} {ds es : List D} (h : SqL K F a vs) (r : RelDs K F ds vs) (h' : SqL K F b us) (r' : RelDs K F es us) : JOk K F (Itz K a b) (zipD ds es) := by
  intro i F' Fr l H s R
  have q : SqL K H a vs := sqL_mono R.fz (sqL_mono s h)
  have q' : SqL K H b us := sqL_mono R.fz (sqL_mono s h')
  constructor
  · intro hi
    have e : (zipD ds es)[i]? = none := List.getElem?_eq_none hi
    rw [zipD_get] at e
    refine ⟨vs, us, q, q', ?_⟩
    rw [← r.length, ← r'.length]
    cases e1 : ds[i]? with
    | none => exact .inl (List.getElem?_eq_none_iff.mp e1)
    | some _ =>
      cases e2 : es[i]? with
      | none => exact .inr (List.getElem?_eq_none_iff.mp e2)
      | some _ => rw [e1, e2] at e; cases e
  · intro d hd
    rw [zipD_get] at hd
    cases e1 : ds[i]? with
    | none => rw [e1] at hd; cases hd
    | some d1 =>
      cases e2 : es[i]? with
      | none => rw [e1, e2] at hd; cases hd
      | some d2 =>
        rw [e1, e2] at hd
        cases hd
        obtain ⟨v, hv, rv⟩ := r.get e1
        obtain ⟨u, hu, ru⟩ := r'.get e2
        refine ⟨⟨vs, us, v, u, q, q', hv, hu⟩, fun x H' y => ?_⟩
        obtain ⟨T, x0, y0, rfl, nT, rfl, y1, y2⟩ := y
        have f1 := y1 vs q
        have f2 := y2 us q'
        rw [hv] at f1
        rw [hu] at f2
        cases f1
        cases f2
        exact ⟨_, same_upd (R.F_none nT), relTup (R.F_none nT) (.cons (rv.mono s) (.cons (ru.mono s) .nil)), R.laid nT _⟩
theorem jok_zipT {K : PySem.W.Frag} {F : Hp} {a b : Addr} {vs us : List V} {ds es : List D} (h : SqT K F a vs) (r : RelDs K F ds vs) (h' : SqT K F b us) (r' : RelDs K F es us) : JOk K F (RZ.ItzT K a b) (zipD ds es) := by
  intro i F' Fr l H s R
  have q : SqT K H a vs := sqT_mono R.fz (sqT_mono s h)
  have q' : SqT K H b us := sqT_mono R.fz (sqT_mono s h')
  constructor
  · intro hi
    have e : (zipD ds es)[i]? = none := List.getElem?_eq_none hi
    rw [zipD_get] at e
    refine ⟨vs, us, q, q', ?_⟩
    rw [← r.length, ← r'.length]
    cases e1 : ds[i]? with
    | none => exact .inl (List.getElem?_eq_none_iff.mp e1)
    | some _ =>
      cases e2 : es[i]? with
      | none => exact .inr (List.getElem?_eq_none_iff.mp e2)
      | some _ => rw [e1, e2] at e; cases e
  · intro d hd
    rw [zipD_get] at hd
    cases e1 : ds[i]? with
    | none => rw [e1] at hd; cases hd
    | some d1 =>
      cases e2 : es[i]? with
      | none => rw [e1, e2] at hd; cases hd
      | some d2 =>
        rw [e1, e2] at hd
        cases hd
        obtain ⟨v, hv, rv⟩ := r.get e1
        obtain ⟨u, hu, ru⟩ := r'.get e2
        refine ⟨⟨vs, us, v, u, q, q', hv, hu⟩, fun x H' y => ?_⟩
        obtain ⟨T, x0, y0, rfl, nT, rfl, y1, y2⟩ := y
        have f1 := y1 vs q
        have f2 := y2 us q'
        rw [hv] at f1
        rw [hu] at f2
        cases f1
        cases f2
        exact ⟨_, same_upd (R.F_none nT), relTup (R.F_none nT) (.cons (rv.mono s) (.cons (ru.mono s) .nil)), R.laid nT _⟩
def iZip (ta : DTA) : DTI := fun env l R => ta env l fun ds l1 => match ds with
  | [.lst xs, .lst ys] => R (zipD xs ys) l1
  | [.tup xs, .tup ys] => R (zipD xs ys) l1
  | _ => False
theorem di_zip {p pos tpos : Pos} {elts : List Expr} {kk : Nat} (hg : Gl X "zip") (hm : X.mg "zip" = none) (ha : DA X [e, e2] ta)
    (hs : starEach [e, e2] X.env = (false, eval e X.env) :: starEach [e2] X.env := by rfl) (hpl : (backTo pos (starEach [e2] X.env)).any (·.1) = false := by rfl) : DI X (.Tuple elts kk tpos) (.Call (.Name "zip" p) [e, e2] [] pos) (iZip ta) := by
  refine ⟨?_⟩
  intro F Fr env l σ H R he hr ht
  refine (RZ.pi_zipA hg hm paW hs hpl).wi ?_
  refine (ha F Fr env l σ H _ he hr ht).mono fun vs H1 ⟨F1, ds, l1, s1, r1, R1, q1⟩ => ?_
  cases r1 with
  | nil => exact q1.elim
  | cons ra rr =>
    cases rr with
    | nil => cases ra <;> exact q1.elim
    | cons rb rr =>
      cases rr with
      | cons _ _ => cases ra <;> cases rb <;> exact q1.elim
      | nil =>
        cases ra with
        | @tup p vs ds h1 rr =>
          cases rb with
          | @tup p2 vs2 ds2 h2 rr2 => exact ⟨p, p2, _, _, rfl, .inr ⟨tq (R1.fz _ _ h1), tq (R1.fz _ _ h2), F1, l1, _, s1, R1, jok_zipT (tq h1) rr (tq h2) rr2, q1⟩⟩
          | _ => exact q1.elim
        | @lst p vs ds h1 rr =>
          cases rb with
          | @lst p2 vs2 ds2 h2 rr2 => exact ⟨p, p2, _, _, rfl, .inl ⟨.inl (.inl (R1.fz _ _ h1)), .inl (.inl (R1.fz _ _ h2)), F1, l1, _, s1, R1, jok_zip (.inl (.inl h1)) rr (.inl (.inl h2)) rr2, q1⟩⟩
          | _ => exact q1.elim
        | _ => cases rb <;> exact q1.elim
end
end DL

namespace DL
open PySem PySem.Spec PyProof.Rows L2

/-! ### comprehensions -/
theorem wipe_wipe (σ : St) (vs : List Nat) : L2.wipe (L2.wipe σ vs) vs = L2.wipe σ vs := by
  have key : ∀ us : List Nat, (∀ u ∈ us, u ∈ vs) → L2.wipe (L2.wipe σ us) vs = L2.wipe σ vs := by
    intro us
    induction us with
    | nil => exact fun _ => rfl
    | cons u us ih =>
      intro h
      show L2.wipe ((L2.wipe σ us).set u none) vs = _
      rw [wipe_set (h u List.mem_cons_self)]
      exact ih fun w hw => h w (List.mem_cons_of_mem _ hw)
  exact key vs fun _ h => h
def compL (g : DTG) (tt : DTT) (te : DTE) (vs : List Nat) : List D → DSt → LH → (List D → LH → Prop) → Prop
  | [], _, l, Q => Q [] l
  | d :: ds, env, l, Q => wipeK vs env fun env0 => g d env0 l fun env1 l1 => tt env1 l1 fun c l2 =>
      ifB c (te env1 l2 fun r l3 => compL g tt te vs ds env l3 fun rs l4 => Q (r :: rs) l4) (compL g tt te vs ds env l2 Q)
def tYes : DTT := fun _ l Q => Q true l
/-- ifs of a comprehension -/
def DTs (X : Cx) (ifs : List Expr) (t : DTT) : Prop := ∃ T : TT, PTs X ifs T ∧ ∀ F Fr env l σ H Q, RepE X.K F env σ → Rep X.K F Fr l H → t env l Q → T σ H (LB X.K F Fr Q)
theorem dts_nil {X : Cx} : DTs X [] tYes := ⟨_, pts_nil, fun F Fr env l σ H Q he hr ht => ⟨F, l, Same.refl F, hr, ht⟩⟩
theorem dts_one {X : Cx} {c : Expr} {t : DTT} (h : DT X c t) : DTs X [c] t := ⟨_, pts_one ptW, fun F Fr env l σ H Q he hr ht => h F Fr env l σ H Q he hr ht⟩
def WTs (X : Cx) (ifs : List Expr) : TT := fun σ H Q => ∀ pins s, Inv X pins σ H s → wpAny (model X.prog X.w) X.A (forIn ifs true fun c r => if r = true then do let ok ← isTrue c X.env (eval c X.env); pure (ForInStep.yield ok) else pure (ForInStep.yield r)) (TP X pins σ Q) X.xe s
section
variable {X : Cx}
theorem WTs.mono {ifs : List Expr} {σ : St} {H : Hp} {Q Q' : Bool → Hp → Prop} (w : WTs X ifs σ H Q) (h : ∀ v H, Q v H → Q' v H) : WTs X ifs σ H Q' := fun pins s I => thn (w pins s I) fun _ _ ⟨H, a, b⟩ => ⟨H, a, h _ _ b⟩
theorem DTs.w {ifs : List Expr} {t : DTT} (h : DTs X ifs t) : ∀ F Fr env l σ H Q, RepE X.K F env σ → Rep X.K F Fr l H → t env l Q → WTs X ifs σ H (LB X.K F Fr Q) := by
  obtain ⟨T, hT, h⟩ := h
  exact fun F Fr env l σ H Q he hr ht pins s I => hT.run pins s σ H _ I (h F Fr env l σ H Q he hr ht)
variable {elt tg iter : Expr} {ifs : List Expr} {scope : Scope} {own : List (Str × Nat)} {pos : Pos} {ti : DTI} {g : DTG} {tt : DTT} {te : DTE}
/-- the loop of a comprehension, its own readings given as the strongest ones in any block -/
theorem comp_core {F Fr : Hp} {env : DSt} {l : LH} {σ : St} {H : Hp} {Qf : List D → LH → Prop} {Qd : VK} {vs : List Nat} {G : TG} {TT' : TT} {TE' : TE} (he : RepE X.K F env σ) (hr : Rep X.K F Fr l H)
    (hi : DI X tg iter ti)
    (hg : ∀ F Fr env l σ H d v Q, RepE X.K F env σ → Rep X.K F Fr l H → RelD X.K F d v → g d env l Q → G v σ H (LG X.K F Fr vs σ Q))
    (hgm : ∀ v σ H Q Q', G v σ H Q → (∀ σ H, Q σ H → Q' σ H) → G v σ H Q')
    (ht : ∀ F Fr env l σ H Q, RepE X.K F env σ → Rep X.K F Fr l H → tt env l Q → TT' σ H (LB X.K F Fr Q))
    (htm : ∀ σ H Q Q', TT' σ H Q → (∀ b H, Q b H → Q' b H) → TT' σ H Q')
    (hE : ∀ F Fr env l σ H Q, RepE X.K F env σ → Rep X.K F Fr l H → te env l Q → TE' σ H (LK X.K F Fr Q))
    (hEm : ∀ σ H Q Q', TE' σ H Q → (∀ v H, Q v H → Q' v H) → TE' σ H Q')
    (hd : ∀ F' Fr' l' H' D acc vacc, Same F F' → Fr' = upd Fr D (.lst vacc) → Fr D = none → RelDs X.K F' acc vacc → Rep X.K F' Fr' l' H' → Qf acc l' → Qd (.ref D) H')
    (q : ti env l fun ds l1 => ds.length ≤ sizeLine ∧ compL g tt te vs ds env l1 Qf) : tLc (WI X tg iter) G TT' TE' vs σ H Qd := by
  refine (hi F Fr env l σ H _ he hr q).mono fun J H1 ⟨F1, l1, ds, s1, R1, jk, hz, q1⟩ => ?_
  intro p nD
  have nFr : Fr p = none := R1.Fr_none nD
  refine ⟨fun i m H => m = ds.length - i ∧ i ≤ ds.length ∧ ∃ F' l acc vacc, Same F1 F' ∧ Rep X.K F' (upd Fr p (.lst vacc)) l H ∧ RelDs X.K F' acc vacc ∧ acc.length ≤ i ∧ compL g tt te vs (ds.drop i) env l fun rs l' => Qf (acc ++ rs) l',
    ⟨_, rfl, Nat.zero_le _, F1, l1, [], [], Same.refl _, R1.take nD _, .nil, Nat.le_refl _, q1⟩, ?_⟩
  rintro i m H ⟨rfl, hi, F2, l2, acc, vacc, s2, R2, ra, hl, q2⟩
  obtain ⟨j1, j2⟩ := jk i F2 _ l2 H s2 R2
  by_cases hlt : i < ds.length
  · rw [List.drop_eq_getElem_cons hlt] at q2
    obtain ⟨go, y⟩ := j2 ds[i] (List.getElem?_eq_getElem hlt)
    refine .inr ⟨go, fun H => ∃ F' l acc vacc, Same F1 F' ∧ Rep X.K F' (upd Fr p (.lst vacc)) l H ∧ RelDs X.K F' acc vacc ∧ acc.length ≤ i + 1 ∧ compL g tt te vs (ds.drop (i + 1)) env l fun rs l' => Qf (acc ++ rs) l', fun H' h => ⟨_, by omega, rfl, hlt, h⟩, fun x H' hy => ?_⟩
    obtain ⟨F3, s3, rx, R3⟩ := y x H' hy
    replace q2 : wipeK vs env _ := q2
    rw [wipeK_eq] at q2
    have he3 : RepE X.K F3 (wipeE env vs) (L2.wipe σ vs) := (((he.mono s1).mono s2).mono s3).wipe vs
    refine hgm _ _ _ _ _ (hg F3 _ _ l2 _ H' _ _ _ he3 R3 rx q2) fun σ4 H4 ⟨w4, F4, env4, l4, s4, he4, R4, q4⟩ => ?_
    refine ⟨w4.trans (wipe_wipe σ vs), ?_⟩
    refine htm _ _ _ _ (ht F4 _ env4 l4 σ4 H4 _ he4 R4 q4) fun c H5 ⟨F5, l5, s5, R5, q5⟩ => ?_
    have S5 : Same F2 F5 := s3.trans (s4.trans s5)
    cases c with
    | false =>
      exact L2.iteF ⟨F5, l5, acc, vacc, s2.trans S5, R5, ra.mono S5, Nat.le_succ_of_le hl, ifB_F q5⟩
    | true =>
      refine L2.iteT (hEm _ _ _ _ (hE F5 _ env4 l5 σ4 H5 _ (he4.mono s5) R5 (ifB_T q5)) fun v H6 ⟨F6, d6, l6, s6, r6, R6, q6⟩ => ?_)
      have S6 : Same F2 F6 := S5.trans s6
      have ra6 := ra.mono S6
      refine ⟨vacc, R6.fr p _ upd_same, ?_, F6, l6, acc ++ [d6], vacc ++ [v], s2.trans S6, R6.turn _, ra6.append (.cons r6 .nil), ?_, ?_⟩
      · rw [← ra6.length]; omega
      · rw [List.length_append]; exact Nat.succ_le_succ hl
      · have e : (fun (rs : List D) l' => Qf (acc ++ [d6] ++ rs) l') = fun rs l' => Qf (acc ++ (d6 :: rs)) l' := by
          funext rs l'
          rw [List.append_assoc]
          rfl
        rw [e]
        exact q6
  · have e : i = ds.length := by omega
    subst e
    rw [List.drop_length] at q2
    replace q2 : Qf (acc ++ []) l2 := q2
    rw [List.append_nil] at q2
    exact .inl ⟨j1 (Nat.le_refl _), hd F2 _ l2 H p acc vacc (s1.trans s2) rfl nFr ra R2 q2⟩
def dLc (ti : DTI) (g : DTG) (tt : DTT) (te : DTE) (vs : List Nat) : DTE := fun env l Q => ti env l fun ds l1 => ds.length ≤ sizeLine ∧ compL g tt te vs ds env l1 fun rs l2 => Q (.lst rs) l2
theorem lc_end {F Fr F' Fr' : Hp} {l' : LH} {H' : Hp} {p : Addr} {acc : List D} {vacc : List V} {Q : DK} (s : Same F F') (e : Fr' = upd Fr p (.lst vacc)) (n : Fr p = none) (ra : RelDs X.K F' acc vacc) (R : Rep X.K F' Fr' l' H') (q : Q (.lst acc) l') : LK X.K F Fr Q (.ref p) H' := by
  subst e
  have nF : F' p = none := (R.fd p _ upd_same).1
  exact ⟨upd F' p (.lst vacc), .lst acc, l', s.trans (same_upd nF), relLst nF ra, R.give n, q⟩
section
variable (hc : X.calm = true) (hN : X.N.Nodup) (hi : DI X tg iter ti) (ok : BlkOk X.N X.env.scope scope own)
    (hg : ∀ (s : Shared) (H : Hp) (C : Addr) (cl : List (Str × Addr)) (fp : List Addr), DG (X.blk s H scope (compEnvC scope cl C X.env) fp) tg (own.map (·.2)) g)
    (ht : ∀ (s : Shared) (H : Hp) (C : Addr) (cl : List (Str × Addr)) (fp : List Addr), DTs (X.blk s H scope (compEnvC scope cl C X.env) fp) ifs tt)
    (he : ∀ (s : Shared) (H : Hp) (C : Addr) (cl : List (Str × Addr)) (fp : List Addr), DE (X.blk s H scope (compEnvC scope cl C X.env) fp) elt te)
include hi hg ht he
/-- the readings of the parts, whatever the block -/
def AG (X : Cx) (scope : Scope) (tg : Expr) : TG := fun v σ H Q => ∀ (s : Shared) (H0 : Hp) (C : Addr) (cl : List (Str × Addr)) (fp : List Addr), WG (X.blk s H0 scope (compEnvC scope cl C X.env) fp) tg v σ H Q
def AT (X : Cx) (scope : Scope) (ifs : List Expr) : TT := fun σ H Q => ∀ (s : Shared) (H0 : Hp) (C : Addr) (cl : List (Str × Addr)) (fp : List Addr), WTs (X.blk s H0 scope (compEnvC scope cl C X.env) fp) ifs σ H Q
def AE (X : Cx) (scope : Scope) (elt : Expr) : TE := fun σ H Q => ∀ (s : Shared) (H0 : Hp) (C : Addr) (cl : List (Str × Addr)) (fp : List Addr), WE (X.blk s H0 scope (compEnvC scope cl C X.env) fp) elt σ H Q
theorem comp_any {F Fr : Hp} {env : DSt} {l : LH} {σ : St} {H : Hp} {Qf : List D → LH → Prop} {Qd : VK} (hE : RepE X.K F env σ) (hr : Rep X.K F Fr l H)
    (hd : ∀ F' Fr' l' H' D acc vacc, Same F F' → Fr' = upd Fr D (.lst vacc) → Fr D = none → RelDs X.K F' acc vacc → Rep X.K F' Fr' l' H' → Qf acc l' → Qd (.ref D) H')
    (q : ti env l fun ds l1 => ds.length ≤ sizeLine ∧ compL g tt te (own.map (·.2)) ds env l1 Qf) : tLc (WI X tg iter) (AG X scope tg) (AT X scope ifs) (AE X scope elt) (own.map (·.2)) σ H Qd :=
  comp_core hE hr hi (fun F Fr env l σ H d v Q a b c d' s H0 C cl fp => hg s H0 C cl fp F Fr env l σ H d v Q a b c d') (fun v σ H Q Q' w h s H0 C cl fp => (w s H0 C cl fp).mono h)
    (fun F Fr env l σ H Q a b c s H0 C cl fp => (ht s H0 C cl fp).w F Fr env l σ H Q a b c) (fun σ H Q Q' w h s H0 C cl fp => (w s H0 C cl fp).mono h)
    (fun F Fr env l σ H Q a b c s H0 C cl fp => he s H0 C cl fp F Fr env l σ H Q a b c) (fun σ H Q Q' w h s H0 C cl fp => (w s H0 C cl fp).mono h) hd q
include hc hN ok
theorem de_lc (hs : ∀ x, foldedSetIterable iter X.env x = pure x := by intro _; rfl) : DE X (.ListComp elt [⟨tg, iter, ifs, 0⟩] scope pos) (dLc ti g tt te (own.map (·.2))) := by
  refine ⟨?_⟩
  intro F Fr env l σ H Q hE hr q
  refine (pe_lc (g := AG X scope tg) (tt := AT X scope ifs) (te := AE X scope elt) hc hN piW ok (fun s H0 C cl fp => ⟨fun pins s' σ' H' v u Q' I r h => h s H0 C cl fp pins s' u I r⟩) (fun s H0 C cl fp => ⟨fun pins s' σ' H' Q' I h => h s H0 C cl fp pins s' I⟩) (fun s H0 C cl fp => ⟨fun pins s' σ' H' Q' I h => h s H0 C cl fp pins s' I⟩) hs).we ?_
  exact comp_any hi hg ht he hE hr (fun F' Fr' l' H' p acc vacc s e n ra R q => lc_end s e n ra R q) q
/-- y = [..] of a plain local name, on one line -/
theorem ds_setLc {i : Nat} {y : Str} {py spos : Pos} (hy : X.N[i]? = some y) (hyl : X.env.scope.names.lookup y = some .local) (hsw : swapsWith (.ListComp elt [⟨tg, iter, ifs, 0⟩] scope pos) (some (.Name y py)) spos.line X.env = pure true)
    (hs : ∀ x, foldedSetIterable iter X.env x = pure x := by intro _; rfl) : DS X (.Assign [.Name y py] (.ListComp elt [⟨tg, iter, ifs, 0⟩] scope pos) spos) (sSet i (dLc ti g tt te (own.map (·.2)))) := by
  refine ⟨?_⟩
  intro F Fr env l σ H E hE hr q
  refine (ps_setLc (g := AG X scope tg) (tt := AT X scope ifs) (te := AE X scope elt) hc hN hy hyl hsw piW ok (fun s H0 C cl fp => ⟨fun pins s' σ' H' v u Q' I r h => h s H0 C cl fp pins s' u I r⟩) (fun s H0 C cl fp => ⟨fun pins s' σ' H' Q' I h => h s H0 C cl fp pins s' I⟩) (fun s H0 C cl fp => ⟨fun pins s' σ' H' Q' I h => h s H0 C cl fp pins s' I⟩) hs).ws ?_
  refine comp_any hi hg ht he hE hr (fun F' Fr' l' H' p acc vacc s e n ra R q => ?_) q
  obtain ⟨F2, d, l2, s2, r2, R2, q2⟩ := lc_end (Q := fun d l1 => setK env i d fun env' => E.nx env' l1) s e n ra R q
  rw [setK_eq] at q2
  exact ⟨F2, _, l2, s2, (hE.mono s2).set r2 i, R2, q2⟩
end
end

/-! ### defs -/
abbrev DSp := List D → LH → DK → Prop
def spOf (K : PySem.W.Frag) (dsp : DSp) : Sp := fun vs H Q _ => ∃ F Fr ds l Qd, RelDs K F ds vs ∧ Rep K F Fr l H ∧ dsp ds l Qd ∧ ∀ v H', LK K F Fr Qd v H' → Q v H'
/-- what a def's body makes of the arguments -/
def fnD (tb : DTS) (np nl : Nat) : DSp := fun ds l Q => ds.length = np ∧ tb ⟨fun _ l => Q .non l, Q, fun _ _ => False, fun _ _ => False⟩ (ds.map some ++ List.replicate nl none) l
/-- a call: not looked into -/
structure callD (sp : DSp) (ds : List D) (l : LH) (Q : DK) : Prop where
  run : sp ds l Q
def dDef (sp : DSp) (t : DTA) : DTE := fun env l Q => t env l fun ds l1 => callD sp ds l1 Q
section
variable {X : Cx} {e : Expr} {es : List Expr} {t : DTA} {pos p : Pos} {x : Str}
/-- a def keeps its reading, called where no repr is under way -/
structure FnG (P : Program) (w : World) (K : PySem.W.Frag) (mg : Str → Option Value) (base : Heap) (k : Nat) (f : Addr) (fd : FuncData) (ps : List Str) (dsp : DSp) : Prop where
  len : ∀ ds l Q, dsp ds l Q → ds.length = ps.length
  run : ∀ (A : Around) (outer : List Env) (s : Shared) (H : Hp) (args : Args) (us : List Value) (vs : List V) (Q : VK) (E : XK), Room k A → A.guards = some [] → Env0 P w K mg base A outer s H → BindsTo s fd args (ps.zip us) → Vals vs us → spOf K dsp vs H Q E →
    codeAny (model P w) A (.call (.ref f) args) (CR CX0 outer P w H s Q E) s
theorem FnG.mono {P : Program} {w : World} {K : PySem.W.Frag} {mg : Str → Option Value} {base : Heap} {j k : Nat} {f : Addr} {fd : FuncData} {ps : List Str} {dsp : DSp} (G : FnG P w K mg base j f fd ps dsp) (h : j ≤ k) : FnG P w K mg base k f fd ps dsp :=
  ⟨G.len, fun A outer s H args us vs Q E hr => G.run A outer s H args us vs Q E (hr.mono h)⟩
theorem FnG.imp {P : Program} {w : World} {K : PySem.W.Frag} {mg : Str → Option Value} {base : Heap} {k : Nat} {f : Addr} {fd : FuncData} {ps : List Str} {dsp dsp' : DSp} (G : FnG P w K mg base k f fd ps dsp) (h : ∀ ds l Q, dsp' ds l Q → dsp ds l Q) : FnG P w K mg base k f fd ps dsp' :=
  ⟨fun ds l Q q => G.len ds l Q (h _ _ _ q), fun A outer s H args us vs Q E hr hg e hb r ⟨F, Fr, ds, l, Qd, a, b, c, d⟩ => G.run A outer s H args us vs Q E hr hg e hb r ⟨F, Fr, ds, l, Qd, a, b, h _ _ _ c, d⟩⟩
theorem de_call {k : Nat} {f : Addr} {fd : FuncData} {ps : List Str} {dsp : DSp} (G : FnG X.prog X.w X.K X.mg X.base k f fd ps dsp) (hr : Room k X.A) (hgd : X.A.guards = some []) (hg : Gl X x) (hm : X.mg x = some (.ref f)) (hk : PySem.W.keepIn X.K (.ref f) = true) (hb : Binds X.K fd ps []) (ha : DA X (e :: es) t)
    (hdb : (x == ("__debug__" : Str)) = false := by decide) (he : starEach (e :: es) X.env = (false, eval e X.env) :: starEach es X.env := by rfl) (hpl : (backTo pos (starEach es X.env)).any (·.1) = false := by rfl) : DE X (.Call (.Name x p) (e :: es) [] pos) (dDef dsp t) := by
  refine ⟨?_⟩
  intro F Fr env l σ H Q hE hR ht pins s I
  refine wpAny_Call_Name_kw (ld_glob I hg hm ?_ hdb)
  refine PySem.W.callWith_K (h₀ := X.base) I.ok.mod.kin hk (thn (ha F Fr env l σ H _ hE hR ht pos pins s I) fun us s1 ⟨vs, H1, I1, r, F1, ds, l1, s1', r1, R1, q1⟩ => ⟨I1.kIn, ?_⟩) he hpl
  have hsp : spOf X.K dsp vs H1 (LK X.K F Fr Q) E0 := ⟨F1, Fr, ds, l1, Q, r1, R1, q1.run, fun v H' q => q.weak s1'⟩
  have hl : (us ++ []).length = ps.length := by rw [List.append_nil, ← r.length, ← r1.length]; exact G.len _ _ _ q1.run
  have hbd := hb s1 us I1.kIn hl
  rw [List.append_nil] at hbd
  refine wpAny_call (codeAny_mono (G.run X.A X.stack s1 H1 ⟨us, []⟩ us vs _ E0 hr hgd I1.env0 hbd r hsp) fun res s' hq => ?_)
  cases res with
  | error _ => exact hq.elim
  | ok fl =>
    cases fl with
    | ret u => exact I1.after hq
    | next => exact hq.elim
    | brk => exact hq.elim
    | cont => exact hq.elim
theorem fn_ok {P : Program} {w : World} {K : PySem.W.Frag} {mg : Str → Option Value} {base : Heap} {x qual : Str} {st : Stmt} {f : Addr} {fd : FuncData} {N ps : List Str} {k nl : Nat} {tb : DTS} (G : Fun K x qual st f fd) (S : FnScope N ps (defScope st)) (hn : nl = N.length - ps.length)
    (hb : ∀ (cdv : Value) (A : Around) (outer : List Env) (s : Shared) (H : Hp) (E : XK), Room k (A.deeper (envOfC qual (defScope st) s.heap.objs.size f cdv)) → (A.deeper (envOfC qual (defScope st) s.heap.objs.size f cdv)).guards = some [] → DSs (cxOf CX0 P w K mg base N qual (defScope st) f cdv A outer s H E).nox (defBody st) tb) :
    FnG P w K mg base (k + 1) f fd ps (fnD tb ps.length nl) := by
  obtain ⟨oc, od, kV, doc, pm, an, cdv, ct, osl, rfl, lk, hcd⟩ := G.ex
  refine ⟨fun ds l Q h => h.1, fun A outer s H args us vs Q E hr hgd e0 hbd r hsp => ?_⟩
  obtain ⟨F, Fr, ds, l, Qd, rd, R, ⟨h1, q⟩, hq⟩ := hsp
  have hlen : vs.length = ps.length := by rw [← rd.length, h1]
  have inK : K.In s.heap := e0.mod.kin.keeps fun b o e => (e0.bs b o e).1
  have hlim : s.heap.NoLimit := e0.mod.nolimit.keeps fun b o e => (e0.bs b o e).1
  have kinds : ∀ y ∈ ps.zip us, (defScope st).names.lookup y.1 = some .local ∨ ((defScope st).names.lookup y.1 = some .cell ∧ ((cellsFrom (s.heap.objs.size + 1) (defScope st).names []).lookup y.1).isSome = true) := by
    rintro ⟨n, v⟩ hy
    exact (S.par n (List.of_mem_zip hy).1).imp id fun q => ⟨q, PySem.W.cellsFrom_some _ _ _ (.inl q)⟩
  refine codeAny_call_function hr.depth (inK _ _ lk) rfl S.co S.gen rfl (PySem.W.codeRec_of inK hcd) (hbd _ _ _ _ (wpAny_newFunctionEnv_cells S.kind kinds fun env he s1 ic => ?_))
  subst he
  refine ⟨hlim.keeps ic.toInCall.keep, codeAny_func ?_⟩
  have I : Inv (cxOf CX0 P w K mg base N qual (defScope st) f cdv A outer s H E) [] (start N vs) H s1 := inv_start S hr.hd e0 hlen r ic
  have est : L2.start N vs = vs.map some ++ List.replicate nl none := by
    unfold L2.start
    rw [hn, hlen]
  have body : WSs (cxOf CX0 P w K mg base N qual (defScope st) f cdv A outer s H E).nox (defBody st) (LE K F Fr ⟨fun _ l => Qd .non l, Qd, fun _ _ => False, fun _ _ => False⟩) (L2.start N vs) H := by
    rw [est]
    exact hb cdv A outer s H E (hr.deeper _) hgd F Fr _ l _ H _ (RepE.start rd nl) R q
  refine thn (pssW.nox.run [] s1 _ H _ I body) fun fl s' hs => ?_
  have fin : ∀ {σ' : St} {H' : Hp} {v : V} {u : Value}, Inv (cxOf CX0 P w K mg base N qual (defScope st) f cdv A outer s H E) [] σ' H' s' → RelV v u → Q v H' → CE outer P w H s Q u s' := fun J rv q => ⟨_, _, J.os, J.bare, J.base, J.hok, rv, q⟩
  cases fl with
  | ret u => obtain ⟨v, σ', H', J, rv, q⟩ := hs; exact fin J rv (hq v H' q)
  | next =>
    obtain ⟨σ', H', J, F', e', l', s', re, R', q⟩ := hs
    exact fin (v := .non) (u := .none) J rfl (hq .non H' ⟨F', .non, l', s', .non, R', q⟩)
  | brk => obtain ⟨σ', H', J, F', e', l', s', re, R', q⟩ := hs; exact q.elim
  | cont => obtain ⟨σ', H', J, F', e', l', s', re, R', q⟩ := hs; exact q.elim
end

/-! ### methods of a list that may be written -/
section
variable {X : Cx} {o e : Expr} {es : List Expr} {to : DTE} {t : DTA}
def atRef (x : D) (l : LH) (k : Addr → Prop) : Prop := match x with
  | .ref a => getO l a fun u => match u with | .lst _ => k a | _ => False
  | _ => False
def KMt (X : Cx) (r : V → List V → Hp → VK → Prop) (k : Addr → List D → LH → DK → Prop) : Prop := ∀ F Fr l H Q a ds vs (Q' : VK), Rep X.K F Fr l H → RelDs X.K F ds vs → (∀ v H, LK X.K F Fr Q v H → Q' v H) → k a ds l Q → r (.ref a) vs H Q'
def dMt (k : Addr → List D → LH → DK → Prop) (to : DTE) (t : DTA) : DTE := fun env l Q => to env l fun x l1 => atRef x l1 fun a => t env l1 fun ds l2 => k a ds l2 Q
theorem atRef_ok {K : PySem.W.Frag} {F Fr H : Hp} {l : LH} {d : D} {v : V} {k : Addr → Prop} (R : Rep K F Fr l H) (r : RelD K F d v) (q : atRef d l k) : ∃ a, v = .ref a ∧ k a ∧ tyV K "list" (.ref a) H := by
  cases r with
  | ref a =>
    obtain ⟨u, ho, q⟩ := q
    cases u with
    | lst ds =>
      obtain ⟨vs, r1, h1⟩ := (R.lv _ _ ho).2
      exact ⟨a, rfl, q, .inl ⟨rfl, vs, .inl (.inl h1)⟩⟩
    | _ => exact q.elim
  | _ => exact q.elim
theorem de_mt {name : Str} {id : String} {r : V → List V → Hp → VK → Prop} {k : Addr → List D → LH → DK → Prop} {apos cpos : Pos} (slot : Slot "list" name id) (hty : typeOf (.builtin id) = pure (.type "method_descriptor")) (hm : MtR X id r) (hk : KMt X r k) (ho : DE X o to) (ha : DA X (e :: es) t)
    (hbase : attributeBase o name X.env (eval o X.env) = eval o X.env := by rfl)
    (hfew : ((backTo cpos (starEach (e :: es) X.env)).all (fun x => !x.1) && (backToKw cpos (keywordEach [] X.env)).all (fun x => x.1.isSome)
      && decide ((e :: es).length + ([] : List Keyword).length + (if ([] : List Keyword).isEmpty then 0 else 1) < 30)) = true := by rfl)
    (hline : (apos.endLine == cpos.line) = true := by rfl) (hs : starEach (e :: es) X.env = (false, eval e X.env) :: starEach es X.env := by rfl) (hplain : (backTo cpos (starEach es X.env)).any (·.1) = false := by rfl) :
    DE X (.Call (.Attribute o name apos) (e :: es) [] cpos) (dMt k to t) := by
  refine ⟨?_⟩
  intro F Fr env l σ H Q hE hR ht
  refine (pe_bm PySem.F.plainAttrs_list slot hty hm peW paW hbase hfew hline hs hplain).we ?_
  refine (ho F Fr env l σ H _ hE hR ht).mono fun x H1 ⟨F1, d, l1, s1, r1, R1, q1⟩ => ?_
  obtain ⟨a, rfl, q2, ty⟩ := atRef_ok R1 r1 q1
  refine ⟨ty, ?_⟩
  refine (ha F1 Fr env l1 σ H1 _ (hE.mono s1) R1 q2).mono fun vs H2 ⟨F2, ds, l2, s2, r2, R2, q3⟩ => ?_
  exact hk F2 Fr l2 H2 Q a ds vs _ R2 r2 (fun _ _ q => q.weak (s1.trans s2)) q3
theorem LK.wr {K : PySem.W.Frag} {F Fr H : Hp} {l : LH} {Q : DK} {a : Addr} {o : DO} {ds : List D} {vs : List V} (R : Rep K F Fr l H) (h : l a = some o) (nf : isFz o = false) (r : RelDs K F ds vs) {d : D} {v : V} (rd : RelD K F d v) (q : Q d (uL l a (.lst ds))) : LK K F Fr Q v (upd H a (.lst vs)) :=
  ⟨F, d, _, Same.refl F, rd, R.write h nf (show DOk K F _ a (.lst ds) from ⟨vs, r, upd_same⟩), q⟩
def kAppend : Addr → List D → LH → DK → Prop := fun a ds l Q => match ds with
  | [d] => getO l a fun u => match u with | .lst xs => xs.length < sizeLine ∧ Q .non (uL l a (.lst (xs ++ [d]))) | _ => False
  | _ => False
theorem kAppend_ok : KMt X rAppend kAppend := by
  intro F Fr l H Q a ds vs Q' R rd hq q
  cases rd with
  | nil => exact q.elim
  | cons r1 rr =>
    cases rr with
    | cons _ _ => exact q.elim
    | nil =>
      obtain ⟨u, ho, q⟩ := q
      cases u with
      | lst xs =>
        obtain ⟨ws, rw', h1⟩ := (R.lv _ _ ho).2
        exact ⟨a, ws, _, rfl, rfl, h1, by rw [← rw'.length]; exact q.1, hq _ _ (LK.wr R ho rfl (rw'.append (.cons r1 .nil)) .non q.2)⟩
      | _ => exact q.elim
def kExtend : Addr → List D → LH → DK → Prop := fun a ds l Q => match ds with
  | [.lst ys] => getO l a fun u => match u with | .lst xs => xs.length + ys.length ≤ sizeLine ∧ Q .non (uL l a (.lst (xs ++ ys))) | _ => False
  | _ => False
theorem kExtend_ok : KMt X rExtend kExtend := by
  intro F Fr l H Q a ds vs Q' R rd hq q
  cases rd with
  | nil => exact q.elim
  | cons r1 rr =>
    cases rr with
    | cons _ _ => cases r1 <;> exact q.elim
    | nil =>
      cases r1 with
      | @lst p ys es h2 r2 =>
        obtain ⟨u, ho, q⟩ := q
        cases u with
        | lst xs =>
          obtain ⟨ws, rw', h1⟩ := (R.lv _ _ ho).2
          exact ⟨a, p, ws, _, rfl, rfl, h1, R.fz _ _ h2, by rw [← rw'.length, ← r2.length]; exact q.1, hq _ _ (LK.wr R ho rfl (rw'.append r2) .non q.2)⟩
        | _ => exact q.elim
      | _ => exact q.elim
theorem de_append {apos cpos : Pos} (ho : DE X o to) (h : DE X e te) (hbase : attributeBase o "append" X.env (eval o X.env) = eval o X.env := by rfl) (hline : (apos.endLine == cpos.line) = true := by rfl) (hs : starEach [e] X.env = (false, eval e X.env) :: starEach [] X.env := by rfl)
    (hfew : ((backTo cpos (starEach [e] X.env)).all (fun x => !x.1) && (backToKw cpos (keywordEach [] X.env)).all (fun x => x.1.isSome)
      && decide (([e] : List Expr).length + ([] : List Keyword).length + (if ([] : List Keyword).isEmpty then 0 else 1) < 30)) = true := by rfl) : DE X (.Call (.Attribute o "append" apos) [e] [] cpos) (dMt kAppend to (aCons te aNil)) :=
  de_mt PySem.F.slot_list_append PySem.F.type_list_append mt_append kAppend_ok ho (da_cons h da_nil hs) hbase hfew hline hs
/-- what may be written is given out as what is never written any more -/
def frzK (d : D) (l : LH) (Q : DK) : Prop := match d with
  | .ref a => getO l a fun u => match u with | .lst ds => Q (.lst ds) (dL l a) | _ => False
  | d => Q d l
def dFrz (te : DTE) : DTE := fun env l Q => te env l fun d l1 => frzK d l1 Q
theorem de_frz (h : DE X e te) : DE X e (dFrz te) := by
  refine ⟨?_⟩
  intro F Fr env l σ H Q hE hR ht
  refine (h F Fr env l σ H _ hE hR ht).mono fun x H1 ⟨F1, d, l1, s1, r1, R1, q1⟩ => ?_
  cases r1 with
  | ref a =>
    obtain ⟨u, ho, q⟩ := q1
    cases u with
    | lst ds =>
      obtain ⟨vs, rr, h1⟩ := (R1.lv _ _ ho).2
      have n := (R1.lv _ _ ho).1 rfl
      exact ⟨upd F1 a (.lst vs), .lst ds, _, s1.trans (same_upd n), relLst n rr, R1.freeze ho rfl h1, q⟩
    | _ => exact q.elim
  | non => exact ⟨F1, _, l1, s1, .non, R1, q1⟩
  | bl b => exact ⟨F1, _, l1, s1, .bl b, R1, q1⟩
  | int b => exact ⟨F1, _, l1, s1, .int b, R1, q1⟩
  | str b => exact ⟨F1, _, l1, s1, .str b, R1, q1⟩
  | tup a b => exact ⟨F1, _, l1, s1, .tup a b, R1, q1⟩
  | scr a => exact ⟨F1, _, l1, s1, .scr a, R1, q1⟩
  | lst a b => exact ⟨F1, _, l1, s1, .lst a b, R1, q1⟩
  | dT a b c => exact ⟨F1, _, l1, s1, .dT a b c, R1, q1⟩
  | dK a b c => exact ⟨F1, _, l1, s1, .dK a b c, R1, q1⟩
  | exc a b => exact ⟨F1, _, l1, s1, .exc a b, R1, q1⟩
  | exc1 a b c d => exact ⟨F1, _, l1, s1, .exc1 a b c d, R1, q1⟩
  | kt a b c d => exact ⟨F1, _, l1, s1, .kt a b c d, R1, q1⟩
end
end DL

namespace DL
open PySem PySem.Spec PyProof.Rows L2
/-- a place where a reading stands still -/
structure Stop (p : Prop) : Prop where
  run : p
def nS (t : DTS) : DTS := fun E env l => Stop (t E env l)
def nE (t : DTE) : DTE := fun env l Q => Stop (t env l Q)
theorem dss_nS {X : Cx} {b : List Stmt} {t : DTS} (h : DSs X b t) : DSs X b (nS t) := ⟨fun F Fr env l σ H E he hr ht => h F Fr env l σ H E he hr ht.run⟩
theorem de_nE {X : Cx} {e : Expr} {t : DTE} (h : DE X e t) : DE X e (nE t) := ⟨fun F Fr env l σ H Q he hr ht => h F Fr env l σ H Q he hr ht.run⟩
section
variable {X : Cx} {pos : Pos}
/-- a, b, c = e1, e2, e3 of plain local names -/
def tPar3 (i j k : Nat) (ta : TA) : TS := fun D σ H => ta σ H fun vs H1 => ∃ u v w, vs = [u, v, w] ∧ D.nx (((σ.set i (some u)).set j (some v)).set k (some w)) H1
theorem ps_par3 {i j k : Nat} {x y z : Str} {a b c : Expr} {ta : TA} {px py pz pt : Pos} {kt k2 pt2} (hc : X.calm = true) (hN : X.N.Nodup) (hi : X.N[i]? = some x) (hj : X.N[j]? = some y) (hk : X.N[k]? = some z) (hij : i ≠ j) (hik : i ≠ k) (hjk : j ≠ k)
    (hx : X.env.scope.names.lookup x = some .local) (hy : X.env.scope.names.lookup y = some .local) (hz : X.env.scope.names.lookup z = some .local) (ha : PA X [a, b, c] ta)
    (hw : swappedStores [.Tuple [.Name x px, .Name y py, .Name z pz] kt pt] (.Tuple [a, b, c] k2 pt2) X.env = pure (some [x, y, z]))
    (hs : swapsWithSole [.Tuple [.Name x px, .Name y py, .Name z pz] kt pt] (.Tuple [a, b, c] k2 pt2) pos.line X.env = pure false := by rfl) :
    PS X (.Assign [.Tuple [.Name x px, .Name y py, .Name z pz] kt pt] (.Tuple [a, b, c] k2 pt2) pos) (tPar3 i j k ta) := by
  refine ⟨fun pins s σ H D I h => ?_⟩
  rw [exec_Assign_arm]
  refine wpAny_bind (wpAny_standAt ?_)
  rw [hs]
  refine wpAny_bind (wpAny_pure ?_)
  rw [if_neg (by decide)]
  refine wpAny_bind (Tuple_ (thn (ha.run _ pins s σ H _ I h) fun us s1 ⟨vs, H1, I1, r1, q1⟩ => ?_))
  obtain ⟨v1, v2, v3, e1, q1⟩ := q1
  subst e1
  obtain ⟨u1, u2, u3, rfl, r1, r2, r3⟩ : ∃ u1 u2 u3, us = [u1, u2, u3] ∧ RelV v1 u1 ∧ RelV v2 u2 ∧ RelV v3 u3 := by
    cases r1 with
    | cons p q =>
      cases q with
      | cons p' q' =>
        cases q' with
        | cons p'' q'' =>
          cases q''
          exact ⟨_, _, _, rfl, p, p', p''⟩
  refine wpAny_newObj_type ?_ (by show 3 ≤ sizeLine; decide)
  have I2 : Inv X pins σ H1 { s1 with heap := s1.heap.push { cls := .type "tuple", data := .seq [u1, u2, u3].toArray } } := I1.kept (t' := s1.toks) fun b o e => Heap.get?_push_of_some _ e
  rw [hw]
  refine wpAny_bind (wpAny_pure ?_)
  show wpAny (model X.prog X.w) X.A (do rule "assign.swapped-stores"; let items ← unpackItems (.ref s1.heap.objs.size) 3 none; assignInOrder [fun v => bindName X.env z v, fun v => bindName X.env y v, fun v => bindName X.env x v] items.reverse; pure Flow.next) _ _ _
  refine wpAny_bind (wpAny_rule (wpAny_bind (unpackItems_tuple (items := #[u1, u2, u3]) (I.ok.hd hc) (IsTup.new s1.heap _) fun h' hx' => ?_)))
  have I3 := I2.kept (h' := h') (t' := s1.toks) fun b o e => hx' b o (Nat.ne_of_lt (Heap.lt_size e)) e
  show wpAny _ _ (assignInOrder [fun v => bindName X.env z v, fun v => bindName X.env y v, fun v => bindName X.env x v] [u3, u2, u1] >>= fun _ => pure Flow.next) _ _ _
  refine wpAny_bind (assignInOrder_cons (wpAny_bindName (store_ok I3 hN hk (.inl hz) r3 (fun s2 I4 => ?_) (.inr hz))))
  refine assignInOrder_cons (wpAny_bindName (store_ok I4 hN hj (.inl hy) r2 (fun s3 I5 => ?_) (.inr hy)))
  refine assignInOrder_cons (wpAny_bindName (store_ok I5 hN hi (.inl hx) r1 (fun s4 I6 => assignInOrder_nil (wpAny_pure ?_)) (.inr hx)))
  have e : ((σ.set k (some v3)).set j (some v2)).set i (some v1) = ((σ.set i (some v1)).set j (some v2)).set k (some v3) := by
    rw [List.set_comm _ _ (Ne.symm hjk), List.set_comm _ _ (Ne.symm hik), List.set_comm _ _ (Ne.symm hij)]
  rw [e] at I6
  exact ⟨_, H1, I6, q1⟩
def sPar3 (i j k : Nat) (ta : DTA) : DTS := fun E env l => ta env l fun ds l1 => match ds with
  | [u, v, w] => setK env i u fun env1 => setK env1 j v fun env2 => setK env2 k w fun env3 => E.nx env3 l1
  | _ => False
theorem ds_par3 {i j k : Nat} {x y z : Str} {a b c : Expr} {ta : DTA} {px py pz pt : Pos} {kt k2 pt2} (hc : X.calm = true) (hN : X.N.Nodup) (hi : X.N[i]? = some x) (hj : X.N[j]? = some y) (hk : X.N[k]? = some z) (hij : i ≠ j) (hik : i ≠ k) (hjk : j ≠ k)
    (hx : X.env.scope.names.lookup x = some .local) (hy : X.env.scope.names.lookup y = some .local) (hz : X.env.scope.names.lookup z = some .local) (ha : DA X [a, b, c] ta)
    (hw : swappedStores [.Tuple [.Name x px, .Name y py, .Name z pz] kt pt] (.Tuple [a, b, c] k2 pt2) X.env = pure (some [x, y, z]))
    (hs : swapsWithSole [.Tuple [.Name x px, .Name y py, .Name z pz] kt pt] (.Tuple [a, b, c] k2 pt2) pos.line X.env = pure false := by rfl) :
    DS X (.Assign [.Tuple [.Name x px, .Name y py, .Name z pz] kt pt] (.Tuple [a, b, c] k2 pt2) pos) (sPar3 i j k ta) := by
  refine ⟨?_⟩
  intro F Fr env l σ H E he hr ht
  refine (ps_par3 hc hN hi hj hk hij hik hjk hx hy hz paW hw hs).ws ?_
  refine (ha F Fr env l σ H _ he hr ht).mono fun vs H1 ⟨F1, ds, l1, s1, r1, R1, q1⟩ => ?_
  cases r1 with
  | nil => exact q1.elim
  | cons ra rr =>
    cases rr with
    | nil => exact q1.elim
    | cons rb rr =>
      cases rr with
      | nil => exact q1.elim
      | cons rc rr =>
        cases rr with
        | cons _ _ => exact q1.elim
        | nil =>
          replace q1 : setK env i _ _ := q1
          rw [setK_eq, setK_eq, setK_eq] at q1
          exact ⟨_, _, _, rfl, F1, _, l1, s1, (((he.mono s1).set ra i).set rb j).set rc k, R1, q1⟩
end
end DL

namespace DL
open PySem PySem.Spec PyProof.Rows L2
theorem mulL {i j : Int} (h1 : -(2 ^ 64) < i) (h2 : i < 2 ^ 64) : IntMulOk i j := CMul.ok (.inl ⟨h1, h2⟩)
theorem mulR {i j : Int} (h1 : -(2 ^ 64) < j) (h2 : j < 2 ^ 64) : IntMulOk i j := CMul.ok (.inr ⟨h1, h2⟩)
theorem b01 (b : Bool) : (0 : Int) ≤ (if b = true then (1 : Int) else 0) ∧ (if b = true then (1 : Int) else 0) ≤ 1 := by cases b <;> decide
theorem atI_ints {ns : List Int} {k : Int} (h0 : 0 ≤ k) (h1 : k < ns.length) : ∃ c, atI (ns.map D.int) k = some (D.int c) ∧ atI ns k = some c := by
  obtain ⟨j, rfl⟩ := Int.eq_ofNat_of_zero_le h0
  have hl : j < ns.length := by omega
  exact ⟨ns[j], atI_nat (by rw [List.getElem?_map, List.getElem?_eq_getElem hl]; rfl), atI_nat (List.getElem?_eq_getElem hl)⟩
/-- what a box holds: drawn from behind at most k draws -/
def BoxO (o : DO) (k : Nat) : Prop := ∃ c0 c1 c2 : Int, o = .lst [.int c0, .int c1, .int c2] ∧ 0 ≤ c0 ∧ 0 ≤ c1 ∧ c1 < 2147483647 ∧ 0 ≤ c2 ∧ c2 ≤ k
def Box (l : LH) (a : Addr) (k : Nat) : Prop := ∃ o, l a = some o ∧ BoxO o k
def Oth (l l' : LH) (a : Addr) : Prop := ∀ b, b ≠ a → l' b = l b
theorem Oth.refl {l : LH} {a : Addr} : Oth l l a := fun _ _ => rfl
theorem Oth.trans {l l1 l2 : LH} {a : Addr} (h : Oth l l1 a) (h' : Oth l1 l2 a) : Oth l l2 a := fun b n => (h' b n).trans (h b n)
theorem Oth.upd {l : LH} {a : Addr} {o : DO} : Oth l (uL l a o) a := fun b n => uL_ne n
theorem Box.new {l : LH} {a : Addr} {c0 c1 : Int} (h0 : 0 ≤ c0) (h1 : 0 ≤ c1) (h2 : c1 < 2147483647) : Box (uL l a (.lst [.int c0, .int c1, .int 0])) a 0 := ⟨_, uL_same, c0, c1, 0, rfl, h0, h1, h2, Int.le_refl _, Int.le_refl _⟩

/-! data alike -/
def okN (n : Nat) (d : D) : Prop := (toPy d).canLay0 = true ∧ (toPy d).depth ≤ n
theorem okN.ok {n : Nat} {d : D} (h : okN n d) (hn : n ≤ 64 := by decide) : okD d := by
  unfold okD SeqAt.shaped
  rw [h.1, decide_eq_true (Nat.le_trans h.2 hn)]
  rfl
theorem okN.mono {n m : Nat} {d : D} (h : okN n d) (hm : n ≤ m) : okN m d := ⟨h.1, Nat.le_trans h.2 hm⟩
theorem okN_int (i : Int) : okN 0 (.int i) := ⟨by rw [toPy, PyData.canLay0], by rw [toPy, PyData.depth]; exact Nat.le_refl _⟩
theorem okN_all {n : Nat} : ∀ {ds : List D}, (∀ d ∈ ds, okN n d) → PyData.canLayAll0 (toPys ds) = true ∧ PyData.depthAll (toPys ds) ≤ n
  | [], _ => ⟨by rw [toPys, PyData.canLayAll0], by rw [toPys, PyData.depthAll]; exact Nat.zero_le _⟩
  | d :: ds, h => by
    obtain ⟨h1, h2⟩ := okN_all (ds := ds) fun e he => h e (List.mem_cons_of_mem _ he)
    obtain ⟨h3, h4⟩ := h d List.mem_cons_self
    exact ⟨by rw [toPys, PyData.canLayAll0, h3, h1]; rfl, by rw [toPys, PyData.depthAll]; exact Nat.max_le.mpr ⟨h4, h2⟩⟩
theorem okN_tup {n : Nat} {ds : List D} (h : ∀ d ∈ ds, okN n d) : okN (n + 1) (.tup ds) := by
  obtain ⟨h1, h2⟩ := okN_all h
  exact ⟨by rw [toPy, PyData.canLay0, h1], by rw [toPy, PyData.depth]; exact Nat.succ_le_succ h2⟩
theorem okN_tints (ns : List Int) : okN 1 (.tup (ns.map D.int)) := okN_tup fun d hd => by
  obtain ⟨i, _, rfl⟩ := List.mem_map.mp hd
  exact okN_int i
theorem eqvs_ints : ∀ ns ms : List Int, PyData.eqvAll (toPys (ns.map D.int)) (toPys (ms.map D.int)) = decide (ns = ms)
  | [], [] => by simp [toPys, PyData.eqvAll]
  | [], _ :: _ => by simp [toPys, PyData.eqvAll]
  | _ :: _, [] => by simp [toPys, PyData.eqvAll]
  | n :: ns, m :: ms => by
    have ih := eqvs_ints ns ms
    simp only [List.map_cons, toPys, toPy, PyData.eqvAll, PyData.eqv, ih]
    by_cases e : n = m
    · subst e; simp
    · simp [e]
theorem eqD_tints (ns ms : List Int) : eqD (.tup (ns.map D.int)) (.tup (ms.map D.int)) = decide (ns = ms) := by
  unfold eqD
  rw [toPy, toPy, PyData.eqv, eqvs_ints]
theorem eqD_int (i j : Int) : eqD (.int i) (.int j) = decide (i = j) := by
  unfold eqD
  rw [toPy, toPy, PyData.eqv, Bool.beq_eq_decide_eq]
theorem small {n : Nat} (h : n ≤ 100000) : n ≤ sizeLine := Nat.le_trans h (by decide)

/-! comprehensions that draw nothing and write nothing -/
theorem comp_pure {g : DTG} {tt : DTT} {te : DTE} {vs : List Nat} {f : D → D} {l : LH} {env : DSt} : ∀ {ds : List D} {Q : List D → LH → Prop}
    (hs : ∀ d ∈ ds, ∀ (K1 : DK) (K2 : LH → Prop), K1 (f d) l → wipeK vs env fun env0 => g d env0 l fun env1 l1 => tt env1 l1 fun c l2 => ifB c (te env1 l2 K1) (K2 l2)) (hq : Q (ds.map f) l), compL g tt te vs ds env l Q
  | [], Q, _, hq => hq
  | d :: ds, Q, hs, hq =>
    hs d List.mem_cons_self (fun r l3 => compL g tt te vs ds env l3 fun rs l4 => Q (r :: rs) l4) (fun l2 => compL g tt te vs ds env l2 Q) (comp_pure (Q := fun rs l4 => Q (f d :: rs) l4) (fun e he => hs e (List.mem_cons_of_mem _ he)) hq)
def E0 (Q : DK) : DEnds := ⟨fun _ l => Q .non l, Q, fun _ _ => False, fun _ _ => False⟩
/-- a word handed as a tuple or as a list -/
def Hd (x : D) (ws : List Int) : Prop := x = .tup (ws.map D.int) ∨ x = .lst (ws.map D.int)
theorem Hd.t (ws : List Int) : Hd (.tup (ws.map D.int)) ws := .inl rfl
theorem Hd.l (ws : List Int) : Hd (.lst (ws.map D.int)) ws := .inr rfl
theorem two_ok : 2 ≤ sizeLine := by decide
theorem lens {ws us : List Int} (hw : ws.length ≤ 60) (hu : us.length ≤ 60) : (ws.map D.int).length + (us.map D.int).length ≤ sizeLine := by
  rw [List.length_map, List.length_map]
  exact small (by omega)
theorem cutD_head (ns : List Int) (n : Int) (hn : 0 ≤ n) : DL.cutD (ns.map D.int) none (some n) = (ns.take n.toNat).map D.int := by
  obtain ⟨j, rfl⟩ := Int.eq_ofNat_of_zero_le hn
  unfold DL.cutD
  rw [HT.sIx_none, HT.sIx_nat, List.drop_zero, Nat.sub_zero, List.length_map, List.map_take]
  show _ = List.take j _
  by_cases h : j ≤ ns.length
  · rw [Nat.min_eq_left h]
  · rw [Nat.min_eq_right (by omega), List.take_of_length_le (by rw [List.length_map]; exact Nat.le_refl _), List.take_of_length_le (by rw [List.length_map]; omega)]
def WordOf (ws : List Int) (letters : Int) : Prop := ∀ w ∈ ws, w ≠ 0 ∧ -letters ≤ w ∧ w ≤ letters
/-- more objects than ahead -/
def Sub (l l' : LH) : Prop := ∀ a o, l a = some o → l' a = some o
theorem Sub.refl {l : LH} : Sub l l := fun _ _ h => h
theorem Sub.trans {l l1 l2 : LH} (h : Sub l l1) (h' : Sub l1 l2) : Sub l l2 := fun a o e => h' a o (h a o e)
theorem Box.sub {l l' : LH} {a : Addr} {k : Nat} (h : Sub l l') : Box l a k → Box l' a k
  | ⟨o, e, b⟩ => ⟨o, h a o e, b⟩
theorem Box.le {l : LH} {a : Addr} {k m : Nat} (h : k ≤ m) : Box l a k → Box l a m
  | ⟨o, e, c0, c1, c2, q, a0, a1, a2, a3, a4⟩ => ⟨o, e, c0, c1, c2, q, a0, a1, a2, a3, by omega⟩
/-- comprehensions with a test -/
theorem comp_filter {g : DTG} {tt : DTT} {te : DTE} {vs : List Nat} {f : D → D} {p : D → Bool} {l : LH} {env : DSt} : ∀ {ds : List D} {Q : List D → LH → Prop}
    (hs : ∀ d ∈ ds, ∀ (K1 : DK) (K2 : LH → Prop), (p d = true → K1 (f d) l) → (p d = false → K2 l) → wipeK vs env fun env0 => g d env0 l fun env1 l1 => tt env1 l1 fun c l2 => ifB c (te env1 l2 K1) (K2 l2)) (hq : Q ((ds.filter p).map f) l), compL g tt te vs ds env l Q
  | [], Q, _, hq => hq
  | d :: ds, Q, hs, hq => by
    refine hs d List.mem_cons_self (fun r l3 => compL g tt te vs ds env l3 fun rs l4 => Q (r :: rs) l4) (fun l2 => compL g tt te vs ds env l2 Q) (fun hp => ?_) (fun hp => ?_)
    · rw [List.filter_cons_of_pos hp] at hq
      exact comp_filter (Q := fun rs l4 => Q (f d :: rs) l4) (fun e he => hs e (List.mem_cons_of_mem _ he)) hq
    · rw [List.filter_cons_of_neg (by rw [hp]; exact Bool.false_ne_true)] at hq
      exact comp_filter (fun e he => hs e (List.mem_cons_of_mem _ he)) hq
theorem cutD_to (ds : List D) (j : Nat) : DL.cutD ds none (some (j : Int)) = ds.take j := by
  unfold DL.cutD
  rw [HT.sIx_none, HT.sIx_nat, List.drop_zero, Nat.sub_zero]
  by_cases h : j ≤ ds.length
  · rw [Nat.min_eq_left h]
  · rw [Nat.min_eq_right (by omega), List.take_length, List.take_of_length_le (by omega)]
theorem cutD_from (ds : List D) (j : Nat) : DL.cutD ds (some (j : Int)) none = ds.drop j := by
  unfold DL.cutD
  rw [HT.sIx_none, HT.sIx_nat]
  by_cases h : j ≤ ds.length
  · rw [Nat.min_eq_left h, List.take_of_length_le (by rw [List.length_drop]; exact Nat.le_refl _)]
  · rw [Nat.min_eq_right (by omega), List.drop_of_length_le (Nat.le_refl _), List.drop_of_length_le (by omega), List.take_nil]
end DL

namespace DL
open PySem PySem.Spec PyProof.Rows L2
/-! str of a list or a tuple -/
section
variable {X : Cx} {e : Expr} {te : DTE} {pos p : Pos} {k : Nat}
end

/-! texts alike -/
section
variable {X : Cx} {a b : Expr} {ta tb : DTE} {pos : Pos}
end

/-! what can be shown -/
def wordD (w : List Int) : D := .tup (w.map D.int)
end DL

namespace DL
open PySem PySem.Spec PyProof.Rows L2
/-! the least of a list of data -/
/-! words, in order -/
end DL

namespace DL
open PySem PySem.Spec PyProof.Rows L2
/-! ### tests that read what may be written, and write nothing -/
def simpD : D → Bool
  | .non | .bl _ | .int _ | .str _ => true
  | _ => false
/-- F1: F and some of l's objects -/
structure Bor (F : Hp) (l : LH) (H F1 : Hp) : Prop where
  up : Same F F1
  of : ∀ b o, F1 b = some o → F b = some o ∨ (l b ≠ none ∧ H b = some o)
theorem Bor.refl {F : Hp} {l : LH} {H : Hp} : Bor F l H F := ⟨Same.refl F, fun _ _ e => .inl e⟩
section
variable {K : PySem.W.Frag} {F Fr H F1 : Hp} {l : LH}
open Classical in
/-- all of l stays as it is -/
noncomputable def frB (Fr H F1 : Hp) (l : LH) : Hp := fun b => if l b ≠ none ∧ F1 b = none then H b else Fr b
theorem Bor.rep (R : Rep K F Fr l H) (B : Bor F l H F1) : Rep K F1 (frB Fr H F1 l) (fun _ => none) H where
  fz := fun b o e => by
    rcases B.of b o e with q | ⟨_, q⟩
    · exact R.fz b o q
    · exact q
  fr := fun b o e => by
    unfold frB at e
    split at e
    · exact e
    · exact R.fr b o e
  fd := fun b o e => by
    refine ⟨?_, rfl⟩
    unfold frB at e
    split at e
    · rename_i h; exact h.2
    · obtain ⟨h1, h2⟩ := R.fd b o e
      cases q : F1 b with
      | none => rfl
      | some u =>
        rcases B.of b u q with z | ⟨z, _⟩
        · rw [h1] at z; cases z
        · exact absurd h2 z
  lv := fun b o e => nomatch (show (none : Option DO) = some o from e)
  ft := fun b vs e => by
    unfold frB at e
    split at e
    · rename_i h
      cases q : l b with
      | none => exact h.1 q
      | some x =>
        obtain ⟨h1, h2⟩ := R.lv b x q
        cases x with
        | lst ds => obtain ⟨vs, _, z⟩ := h2; rw [e] at z; cases z
        | dT ks ds => obtain ⟨vs, _, _, z⟩ := h2; rw [e] at z; cases z
        | dK ks ds => obtain ⟨vs, _, _, z⟩ := h2; rw [e] at z; cases z
        | ins c ds => obtain ⟨C, dx, vs, _, _, _, z⟩ := h2; rw [e] at z; cases z
        | dN o ks ds => obtain ⟨as, vs, _, _, _, z⟩ := h2; rw [e] at z; cases z
        | fz d =>
          obtain ⟨_, u, z⟩ := h2
          rw [B.up _ _ z] at h
          exact nomatch h.2
    · exact R.ft b vs e
  tb := R.tb
  nt := fun b o e => by
    rcases B.of b o e with q | ⟨z, q⟩
    · exact R.nt b o q
    · cases q2 : l b with
      | none => exact absurd q2 z
      | some x =>
        cases hf : isFz x with
        | false => exact (R.lv b x q2).2.notbl hf q
        | true =>
          cases x with
          | fz d => obtain ⟨_, u, h⟩ := (R.lv b _ q2).2; have h2 := R.fz _ _ h; rw [q] at h2; cases h2; exact R.nt b _ h
          | _ => cases hf
  nr := fun b o e => by
    unfold frB at e
    split at e
    · rename_i h
      cases q2 : l b with
      | none => exact absurd q2 h.1
      | some x =>
        cases hf : isFz x with
        | false => exact (R.lv b x q2).2.notbl hf e
        | true =>
          cases x with
          | fz d => obtain ⟨_, u, z⟩ := (R.lv b _ q2).2; have h2 := R.fz _ _ z; rw [e] at h2; cases h2; exact R.nt b _ z
          | _ => cases hf
    · exact R.nr b o e
theorem Bor.back {F' H' : Hp} {l' : LH} (R : Rep K F Fr l H) (B : Bor F l H F1) (s : Same F1 F') (R' : Rep K F' (frB Fr H F1 l) l' H') : Rep K F Fr l H' where
  fz := fun b o e => R'.fz b o (s b o (B.up b o e))
  fr := fun b o e => by
    refine R'.fr b o ?_
    unfold frB
    rw [if_neg (fun z => z.1 (R.fd b o e).2)]
    exact e
  fd := R.fd
  lv := fun b o e => by
    obtain ⟨h1, h2⟩ := R.lv b o e
    refine ⟨h1, h2.mono (Same.refl F) ?_⟩
    obtain ⟨u, hu⟩ := h2.there R.fz
    rw [hu]
    cases q : F1 b with
    | none =>
      refine R'.fr b u ?_
      unfold frB
      rw [if_pos ⟨by rw [e]; exact fun z => (nomatch z), q⟩]
      exact hu
    | some u' =>
      rcases B.of b u' q with z | ⟨_, z⟩
      · have z := R.fz b u' z
        rw [hu] at z; cases z
        exact R'.fz b u (s b u q)
      · rw [hu] at z; cases z
        exact R'.fz b u (s b u q)
  ft := R.ft
  tb := R'.tb
  nt := R.nt
  nr := R.nr
end
section
variable {X : Cx} {e : Expr} {te : DTE} {tt : DTT}
end
end DL

namespace DL
open PySem PySem.Spec PyProof.Rows L2
/-! ### sorted(xs, reverse=b) of a list of words -/
end DL

namespace DL
open PySem PySem.Spec PyProof.Rows L2
/-! ### dicts with plain keys, never written -/
def keyD : D → Option Key
  | .int i => some (.inl i)
  | .str x => some (.inr x)
  | _ => none
theorem keyD_v {K : PySem.W.Frag} {F : Hp} {d : D} {v : V} {k : Key} (r : RelD K F d v) (h : keyD d = some k) : v = kV k := by
  cases r with
  | int i => cases h; rfl
  | str x => cases h; rfl
  | _ => cases h
section
variable {X : Cx} {a b e : Expr} {ta tb te : DTE} {pos p apos cpos : Pos} {tg : Expr}
/-! the values, in turn -/
end
/-! dict of a list of pairs -/
end DL

namespace DL
open PySem PySem.Spec PyProof.Rows L2
/-! ### xs.count(x) over data -/
section
variable {X : Cx}
variable {o e : Expr} {to te : DTE} {apos cpos pos p p2 q : Pos}
/-! ### len(set(xs)) of a list of words -/
end
end DL

namespace DL
open PySem PySem.Spec PyProof.Rows L2
/-! ### instances of the program's own classes -/
theorem Rep.extra {K : PySem.W.Frag} {F Fr H : Hp} {l : LH} {p : Addr} (r : Rep K F Fr l H) (n : H p = none) (o : HO) : Rep K F Fr l (upd H p o) where
  fz := fun b x e => by
    rw [upd_ne (fun z => by subst z; rw [r.F_none n] at e; cases e)]
    exact r.fz b x e
  fr := fun b x e => by
    rw [upd_ne (fun z => by subst z; rw [r.Fr_none n] at e; cases e)]
    exact r.fr b x e
  fd := r.fd
  lv := fun b x e => by
    have hb : b ≠ p := fun z => by subst z; rw [r.l_none n] at e; cases e
    obtain ⟨h1, h2⟩ := r.lv b x e
    exact ⟨h1, h2.mono (Same.refl F) (upd_ne hb)⟩
  ft := r.ft
  tb := fun q hq => tabS_step (r.tb q hq) (keep_new n)
  nt := r.nt
  nr := r.nr
def nthK : List D → Nat → (D → Prop) → Prop
  | [], _, _ => False
  | d :: _, 0, k => k d
  | _ :: r, n + 1, k => nthK r n k
theorem nthK_ok : ∀ {ds : List D} {i : Nat} {k : D → Prop}, nthK ds i k → ∃ d, ds[i]? = some d ∧ k d
  | [], _, _, h => h.elim
  | d :: _, 0, _, h => ⟨d, rfl, h⟩
  | _ :: r, n + 1, k, h => by
    obtain ⟨d, e, q⟩ := nthK_ok (ds := r) (i := n) h
    exact ⟨d, by simpa using e, q⟩
def putI : List D → Nat → D → (List D → Prop) → Prop
  | [], 0, d, k => k [d]
  | [], _ + 1, _, _ => False
  | _ :: r, 0, d, k => k (d :: r)
  | x :: r, n + 1, d, k => putI r n d fun r' => k (x :: r')
def putN {α : Type} : List α → Nat → α → List α
  | [], _, d => [d]
  | _ :: r, 0, d => d :: r
  | x :: r, n + 1, d => x :: putN r n d
theorem putI_ok : ∀ {ds : List D} {i : Nat} {d : D} {k : List D → Prop}, putI ds i d k → i ≤ ds.length ∧ k (putN ds i d)
  | [], 0, _, _, h => ⟨Nat.le_refl _, h⟩
  | [], _ + 1, _, _, h => h.elim
  | _ :: r, 0, d, k, h => ⟨Nat.zero_le _, h⟩
  | x :: r, n + 1, d, k, h => by
    obtain ⟨h1, h2⟩ := putI_ok (ds := r) (i := n) h
    exact ⟨Nat.succ_le_succ h1, h2⟩
theorem RelDs.putN {K : PySem.W.Frag} {F : Hp} {d : D} {v : V} (rd : RelD K F d v) : ∀ {ds : List D} {vs : List V} (i : Nat), RelDs K F ds vs → RelDs K F (putN ds i d) (DL.putN vs i v)
  | _, _, _, .nil => .cons rd .nil
  | _, _, 0, .cons _ t => .cons rd t
  | _, _, n + 1, .cons r t => .cons r (RelDs.putN rd n t)
theorem putN_len {α : Type} : ∀ (vs : List α) (i : Nat) (v : α), i ≤ vs.length → (DL.putN vs i v).length ≤ max vs.length (i + 1)
  | [], i, v, h => by
    show 1 ≤ _
    omega
  | _ :: r, 0, v, h => by
    show r.length + 1 ≤ _
    rw [List.length_cons]
    omega
  | x :: r, n + 1, v, h => by
    have := putN_len r n v (by rw [List.length_cons] at h; omega)
    show (DL.putN r n v).length + 1 ≤ _
    rw [List.length_cons]
    omega
theorem lookup_zip : ∀ {fs : List Str} {vs : List V} {i : Nat} {f : Str} {v : V}, fs.Nodup → fs[i]? = some f → vs[i]? = some v → (fs.zip vs).lookup f = some v
  | [], _, i, f, v, _, h, _ => by simp at h
  | _ :: _, [], i, f, v, _, _, h => by simp at h
  | g :: fs, u :: vs, 0, f, v, _, h1, h2 => by
    simp at h1 h2
    subst h1 h2
    simp
  | g :: fs, u :: vs, i + 1, f, v, nd, h1, h2 => by
    rw [List.nodup_cons] at nd
    simp only [List.getElem?_cons_succ] at h1 h2
    have hm := List.mem_of_getElem? h1
    have ne : ¬ (f == g) = true := fun e => nd.1 (by rw [← beq_iff_eq.mp e]; exact hm)
    rw [List.zip_cons_cons, List.lookup_cons, Bool.eq_false_iff.mpr ne]
    exact lookup_zip nd.2 h1 h2
theorem lookup_zip_none : ∀ {fs : List Str} {vs : List V} {f : Str}, f ∉ fs → (fs.zip vs).lookup f = none
  | [], _, f, _ => by simp
  | _ :: _, [], f, _ => by simp
  | g :: fs, u :: vs, f, h => by
    rw [List.mem_cons, not_or] at h
    rw [List.zip_cons_cons, List.lookup_cons, Bool.eq_false_iff.mpr (fun e => h.1 (beq_iff_eq.mp e))]
    exact lookup_zip_none h.2
theorem putF_zip : ∀ {fs : List Str} {vs : List V} {i : Nat} {f : Str} {v : V}, fs.Nodup → fs[i]? = some f → i ≤ vs.length → vs.length ≤ fs.length → putF f v (fs.zip vs) = fs.zip (DL.putN vs i v)
  | [], _, i, f, v, _, h, _, _ => by simp at h
  | g :: fs, [], 0, f, v, _, h1, _, _ => by
    simp at h1
    subst h1
    rw [List.zip_nil_right]
    show putF g v [] = (g :: fs).zip [v]
    simp [putF]
  | g :: fs, [], i + 1, f, v, _, h1, h2, _ => by simp at h2
  | g :: fs, u :: vs, 0, f, v, nd, h1, h2, h3 => by
    simp at h1
    subst h1
    rw [List.zip_cons_cons]
    show (if g = g then (g, v) :: fs.zip vs else _) = _
    rw [if_pos rfl]
    rfl
  | g :: fs, u :: vs, i + 1, f, v, nd, h1, h2, h3 => by
    rw [List.nodup_cons] at nd
    simp only [List.getElem?_cons_succ] at h1
    rw [List.length_cons] at h2
    rw [List.length_cons, List.length_cons] at h3
    have hm := List.mem_of_getElem? h1
    have ne : ¬ g = f := fun e => nd.1 (by rw [e]; exact hm)
    rw [List.zip_cons_cons]
    show (if g = f then _ else (g, u) :: putF f v (fs.zip vs)) = (g, u) :: fs.zip (DL.putN vs i v)
    rw [if_neg ne, putF_zip nd.2 h1 (by omega) (by omega)]
def atIns (x : D) (l : LH) (c : Cl) (k : Addr → List D → Prop) : Prop := match x with
  | .ref a => getO l a fun o => match o with | .ins c' ds => c' = c ∧ k a ds | _ => False
  | _ => False
theorem atIns_ok {K : PySem.W.Frag} {F Fr H : Hp} {l : LH} {d : D} {v : V} {c : Cl} {C : Addr} {k : Addr → List D → Prop} (hC : PySem.W.nsIn K mainGlobals c.name = some (some (.ref C))) (R : Rep K F Fr l H) (r : RelD K F d v) (q : atIns d l c k) :
    ∃ a ds dx vs, d = .ref a ∧ v = .ref a ∧ k a ds ∧ l a = some (.ins c ds) ∧ RelDs K F ds vs ∧ vs.length ≤ c.fs.length ∧ H a = some (.ins C dx (c.fs.zip vs)) := by
  cases r with
  | ref a =>
    obtain ⟨o, ho, q⟩ := q
    cases o with
    | ins c' ds =>
      obtain ⟨rfl, q⟩ := q
      obtain ⟨C', dx, vs, rr, hC', hl, hH⟩ := (R.lv _ _ ho).2
      rw [hC] at hC'
      cases hC'
      exact ⟨a, ds, dx, vs, rfl, rfl, q, ho, rr, hl, hH⟩
    | _ => exact q.elim
  | _ => exact q.elim
section
variable {X : Cx} {e o : Expr} {es : List Expr} {te to tv : DTE} {t : DTA} {pos p apos : Pos} {f m x : Str} {c : Cl} {C : Addr}
def dFld (c : Cl) (i : Nat) (te : DTE) : DTE := fun env l Q => te env l fun x l1 => atIns x l1 c fun _ ds => nthK ds i fun d => Q d l1
theorem de_fld (i : Nat) (hf : c.fs[i]? = some f) (nd : c.fs.Nodup) (hC : PySem.W.nsIn X.K mainGlobals c.name = some (some (.ref C))) (cl : Cls X.K C) (na : NoAttr X.K C f) (h : DE X e te) (hb : attributeBase e f X.env (eval e X.env) = eval e X.env := by rfl) :
    DE X (.Attribute e f pos) (dFld c i te) := by
  refine ⟨?_⟩
  intro F Fr env l σ H Q hE hR ht
  refine (pe_fld peW hb).we ?_
  refine (h F Fr env l σ H _ hE hR ht).mono fun x H1 ⟨F1, d, l1, s1, r1, R1, q1⟩ => ?_
  obtain ⟨a, ds, dx, vs, rfl, rfl, q, ho, rr, hl, hH⟩ := atIns_ok hC R1 r1 q1
  obtain ⟨d, hd, q⟩ := nthK_ok q
  obtain ⟨v, hv, rv⟩ := rr.get hd
  exact ⟨a, C, dx, _, v, rfl, hH, cl, na, lookup_zip nd hf hv, (LK.mk rv R1 q).weak s1⟩
def sPutF (c : Cl) (i : Nat) (to tv : DTE) : DTS := fun E env l => tv env l fun d l1 => to env l1 fun x l2 => atIns x l2 c fun a ds => putI ds i d fun ds' => E.nx env (uL l2 a (.ins c ds'))
theorem ds_fld {pos' : Pos} (i : Nat) (hf : c.fs[i]? = some f) (nd : c.fs.Nodup) (hz : c.fs.length < 1000) (hC : PySem.W.nsIn X.K mainGlobals c.name = some (some (.ref C))) (cl : Cls X.K C) (na : NoAttr X.K C f) (ho : DE X o to) (hv : DE X e tv)
    (hs : swapsWith e (some (.Attribute o f pos')) pos.line X.env = pure false := by rfl) : DS X (.Assign [.Attribute o f pos'] e pos) (sPutF c i to tv) := by
  refine ⟨?_⟩
  intro F Fr env l σ H E hE hR ht
  refine (ps_fld peW peW hs).ws ?_
  refine (hv F Fr env l σ H _ hE hR ht).mono fun y H1 ⟨F1, d, l1, s1, r1, R1, q1⟩ => ?_
  refine (ho F1 Fr env l1 σ H1 _ (hE.mono s1) R1 q1).mono fun x H2 ⟨F2, d2, l2, s2, r2, R2, q2⟩ => ?_
  obtain ⟨a, ds, dx, vs, rfl, rfl, q, hl0, rr, hl, hH⟩ := atIns_ok hC R2 r2 q2
  obtain ⟨hi, q⟩ := putI_ok q
  have hif := (List.getElem?_eq_some_iff.mp hf).1
  refine ⟨a, C, dx, _, rfl, hH, cl, na, by rw [List.length_zip]; omega, ?_⟩
  rw [putF_zip nd hf (by rw [← rr.length]; exact hi) hl]
  have hlen := putN_len vs i y (by rw [← rr.length]; exact hi)
  exact ⟨F2, env, _, s1.trans s2, hE.mono (s1.trans s2), R2.write hl0 rfl (show DOk X.K F2 _ a (.ins c (putN ds i d)) from ⟨C, dx, _, rr.putN (r1.mono s2) i, hC, by omega, upd_same⟩), q⟩

/-! a def that keeps its reading, run -/
theorem run_fnG {k : Nat} {g : Addr} {fd : FuncData} {ps : List Str} {dsp : DSp} {pins : List (Addr × Obj)} {σ : St} {H : Hp} {s : Shared} {us : List Value} {vs : List V} {F Fr : Hp} {ds : List D} {l : LH} {Q : DK} (G : FnG X.prog X.w X.K X.mg X.base k g fd ps dsp) (hr : Room k X.A) (hgd : X.A.guards = some []) (hb : Binds X.K fd ps [])
    (I : Inv X pins σ H s) (r : Vals vs us) (rd : RelDs X.K F ds vs) (R : Rep X.K F Fr l H) (h : dsp ds l Q) : wpAny (model X.prog X.w) X.A (call (.ref g) us) (EP X pins σ (LK X.K F Fr Q)) X.xe s := by
  have hsp : spOf X.K dsp vs H (LK X.K F Fr Q) L2.E0 := ⟨F, Fr, ds, l, Q, rd, R, h, fun v H' q => q⟩
  have hl : (us ++ []).length = ps.length := by rw [List.append_nil, ← r.length, ← rd.length]; exact G.len _ _ _ h
  have hbd := hb s us I.kIn hl
  rw [List.append_nil] at hbd
  refine wpAny_call (codeAny_mono (G.run X.A X.stack s H ⟨us, []⟩ us vs _ L2.E0 hr hgd I.env0 hbd r hsp) fun res s' hq => ?_)
  cases res with
  | error _ => exact hq.elim
  | ok fl =>
    cases fl with
    | ret u => exact I.after hq
    | next => exact hq.elim
    | brk => exact hq.elim
    | cont => exact hq.elim
def dMeth0 (c : Cl) (sp : DSp) (to : DTE) : DTE := fun env l Q => to env l fun x l1 => atIns x l1 c fun _ _ => callD sp [x] l1 Q
section
variable {k : Nat} {g : Addr} {fd : FuncData} {ps : List Str} {dsp : DSp}
theorem de_meth0 {pl : Sem Bool} (hC : PySem.W.nsIn X.K mainGlobals c.name = some (some (.ref C))) (cl : Cls X.K C) (hm : Meth X.K C m g) (hnf : c.fs.contains m = false) (G : FnG X.prog X.w X.K X.mg X.base k g fd ps dsp) (hr : Room k X.A) (hgd : X.A.guards = some []) (hb : Binds X.K fd ps []) (ho : DE X o to)
    (ht : eval (.Call (.Attribute o m apos) [] [] pos) X.env = (do
      let ov ← eval o X.env
      standAt apos.atName
      let (f, first) ← holding [ov] (getMethod ov m pl)
      callWith pos f first (backTo pos (starEach [] X.env)) (backToKw pos (keywordEach [] X.env))) := by rfl) :
    DE X (.Call (.Attribute o m apos) [] [] pos) (dMeth0 c dsp to) := by
  refine ⟨?_⟩
  intro F Fr env l σ H Q hE hR htt pins s I
  refine PySem.W.methodCall_KW (pl := pl) (thn (ho F Fr env l σ H _ hE hR htt pins s I) fun u s1 ⟨x, H1, I1, rx, F1, d, l1, s1', rd, R1, q1⟩ => ?_) ht
  obtain ⟨a, ds, dx, vs, rfl, rfl, q, hl0, rr, hl, hH⟩ := atIns_ok hC R1 rd q1
  obtain rfl : u = Value.ref a := rx
  refine getmeth_ok I1 hH cl hm (lookup_zip_none (fun z => by rw [List.contains_iff_mem.mpr z] at hnf; cases hnf)) ?_
  refine PySem.W.callWith_K0 (first := [.ref a]) I1.kIn hm.kp ?_
  exact thn (run_fnG (us := [.ref a]) (vs := [.ref a]) G hr hgd hb I1 (.cons rfl .nil) (.cons (.ref a) .nil) R1 q.run) fun u s3 q3 => EP.mono (fun v H q => q.weak s1') q3
/-- C(..) -/
def dMake (c : Cl) (sp : DSp) (t : DTA) : DTE := fun env l Q => t env l fun ds l1 => ∀ a, l1 a = none → callD sp (.ref a :: ds) (uL l1 a (.ins c [])) fun v l2 => v = .non ∧ Q (.ref a) l2
theorem de_make (hC : PySem.W.nsIn X.K mainGlobals c.name = some (some (.ref C))) (M : Mk X.K C g) (G : FnG X.prog X.w X.K X.mg X.base k g fd ps dsp) (hr : Room (k + 1) X.A) (hgd : X.A.guards = some []) (hg : Gl X x) (hmg : X.mg x = some (.ref C)) (hb : Binds X.K fd ps []) (ha : DA X (e :: es) t)
    (hdb : (x == ("__debug__" : Str)) = false := by decide) (he : starEach (e :: es) X.env = (false, eval e X.env) :: starEach es X.env := by rfl) (hpl : (backTo pos (starEach es X.env)).any (·.1) = false := by rfl) :
    DE X (.Call (.Name x p) (e :: es) [] pos) (dMake c dsp t) := by
  refine ⟨?_⟩
  intro F Fr env l σ H Q hE hR ht pins s I
  refine wpAny_Call_Name_kw (ld_glob I hg hmg ?_ hdb)
  refine PySem.W.callWith_K (h₀ := X.base) I.ok.mod.kin M.kp (thn (ha F Fr env l σ H _ hE hR ht pos pins s I) fun us s1 ⟨vs, H1, I1, r, F1, ds, l1, s1', r1, R1, q1⟩ => ⟨I1.kIn, ?_⟩) he hpl
  have n1 : H1 (s1.heap.objs.size + 1) = none := I1.hok.fresh (Nat.le_succ _)
  have n0 : H1 s1.heap.objs.size = none := I1.hok.fresh (Nat.le_refl _)
  have I2 := Inv.made (C := C) I1
  have R2 : Rep X.K F1 Fr (uL l1 (s1.heap.objs.size + 1) (.ins c [])) (upd (upd H1 s1.heap.objs.size (.own (s1.heap.objs.size + 1))) (s1.heap.objs.size + 1) (.ins C s1.heap.objs.size [])) :=
    (R1.extra n0 _).made ((upd_ne (Nat.succ_ne_self _)).trans n1) (show DOk X.K F1 _ _ (.ins c []) from ⟨C, _, [], .nil, hC, Nat.zero_le _, by rw [upd_same, List.zip_nil_right]⟩)
  have q2 := (q1 (s1.heap.objs.size + 1) (R1.l_none n1)).run
  have r2 : Vals (V.ref (s1.heap.objs.size + 1) :: vs) (Value.ref (s1.heap.objs.size + 1) :: us) := .cons rfl r
  have hsp : spOf X.K dsp (V.ref (s1.heap.objs.size + 1) :: vs) _ (fun v H2 => v = .non ∧ LK X.K F1 Fr Q (.ref (s1.heap.objs.size + 1)) H2) L2.E0 :=
    ⟨F1, Fr, _, _, _, .cons (.ref _) r1, R2, q2, fun v H' ⟨F3, d3, l3, s3, r3, R3, e3, q3⟩ => by
      subst e3
      cases r3
      exact ⟨rfl, F3, _, l3, s3, .ref _, R3, q3⟩⟩
  have hl : (Value.ref (s1.heap.objs.size + 1) :: us).length = ps.length := by
    have e := r2.length
    rw [← e, List.length_cons, ← r1.length, ← List.length_cons (a := D.ref (s1.heap.objs.size + 1))]
    exact G.len _ _ _ q2
  have hbd := hb _ (Value.ref (s1.heap.objs.size + 1) :: us) I2.kIn (by rw [List.append_nil]; exact hl)
  rw [List.append_nil] at hbd
  refine wpAny_call (make_map (f := g) I1.kIn M.makes M.init (beq_iff_eq.mp M.fn) (codeAny_mono (G.run _ X.stack _ _ ⟨Value.ref (s1.heap.objs.size + 1) :: us, []⟩ (Value.ref (s1.heap.objs.size + 1) :: us) _ _ L2.E0 (hr.make C us []) hgd
    (I2.env0.make C us []) hbd r2 hsp) fun res s' hq' => ?_))
  cases res with
  | error e => exact hq'.elim
  | ok fl =>
    cases fl with
    | ret u =>
      obtain ⟨v, H', I3, rv, ev, q3⟩ := I2.after hq'
      subst ev
      exact ⟨rv, ⟨V.ref (s1.heap.objs.size + 1), H', I3, rfl, q3.weak s1'⟩⟩
    | next => exact False.elim hq'
    | brk => exact False.elim hq'
    | cont => exact False.elim hq'
end
/-! constants of the module, raise that is never reached -/
theorem de_glob {n : Int} {tk : Tok} (hg : Gl X x) (hm : X.mg x = some (.int n tk)) (hd : (x == ("__debug__" : Str)) = false := by decide) : DE X (.Name x pos) (dC (.int n)) :=
  ⟨fun F Fr env l σ H Q he hr ht => (pe_glob (v := .int n) hg hm ⟨_, rfl⟩ hd).we (LK.mk (.int n) hr ht)⟩
def sNever : DTS := fun _ _ _ => False
theorem ds_never {st : Stmt} : DS X st sNever := ⟨fun F Fr env l σ H E he hr ht => ht.elim⟩
end
end DL

namespace DL
open PySem PySem.Spec PyProof.Rows L2
/-! ### dicts: keys plain or tuples of plain ones -/
def keysD : List D → Option (List Key)
  | [] => some []
  | d :: r => (keyD d).bind fun k => (keysD r).map fun s => k :: s
def keyT : D → Option (List Key)
  | .tup ds => keysD ds
  | _ => none
theorem keysD_rel {K : PySem.W.Frag} {F : Hp} : ∀ {ds : List D} {vs : List V} {k : List Key}, RelDs K F ds vs → keysD ds = some k → vs = k.map kV
  | _, _, k, .nil, h => by cases h; rfl
  | d :: ds, _, k, .cons r rr, h => by
    rw [keysD] at h
    cases hk : keyD d with
    | none => rw [hk] at h; cases h
    | some q =>
      rw [hk] at h
      cases hp : keysD ds with
      | none => rw [hp] at h; cases h
      | some s =>
        rw [hp] at h
        cases h
        rw [keysD_rel rr hp, keyD_v r hk]
        rfl
theorem keyT_rel {K : PySem.W.Frag} {F : Hp} {d : D} {v : V} {k : List Key} (r : RelD K F d v) (h : keyT d = some k) : ∃ b, v = .ref b ∧ F b = some (.tup (k.map kV)) := by
  cases r with
  | tup h1 rr =>
    have e := keysD_rel rr h
    subst e
    exact ⟨_, rfl, h1⟩
  | _ => cases h
/-- a word as a key -/
def wkey (w : List Int) : List Key := w.map Sum.inl
theorem keysD_ints : ∀ w : List Int, keysD (w.map D.int) = some (wkey w)
  | [] => rfl
  | x :: w => by
    rw [List.map_cons, keysD, keysD_ints w]
    rfl
theorem keyT_word (w : List Int) : keyT (wordD w) = some (wkey w) := keysD_ints w
theorem wkey_inj {u v : List Int} : wkey u = wkey v ↔ u = v := by
  unfold wkey
  exact List.map_inj_right fun a b e => Sum.inl.inj e
section
variable {κ : Type} [DecidableEq κ] {K : PySem.W.Frag} {F : Hp}
def getA : List κ → List D → κ → Option D
  | k :: ks, d :: ds, q => if k = q then some d else getA ks ds q
  | _, _, _ => none
def OptRel (K : PySem.W.Frag) (F : Hp) : Option D → Option V → Prop
  | some d, some v => RelD K F d v
  | none, none => True
  | _, _ => False
theorem getA_rel : ∀ {ks : List κ} {ds : List D} {vs : List V} {q : κ}, RelDs K F ds vs → OptRel K F (getA ks ds q) (valV (ks.zip vs) q)
  | [], _, _, _, _ => by
    rw [List.zip_nil_left]
    unfold getA
    exact trivial
  | _ :: _, [], _, _, .nil => by
    rw [List.zip_nil_right]
    unfold getA
    exact trivial
  | k :: ks, d :: ds, _, q, .cons (v := v) r rr => by
    rw [List.zip_cons_cons]
    unfold getA
    by_cases h : k = q
    · rw [if_pos h, valV_pos (p := (k, v)) h]
      exact r
    · rw [if_neg h, valV_neg (p := (k, v)) h]
      exact getA_rel rr
def repA : List κ → List D → κ → D → List D
  | k :: ks, d :: ds, q, x => (if k = q then x else d) :: repA ks ds q x
  | _, _, _, _ => []
def putKs (ks : List κ) (q : κ) : List κ := if q ∈ ks then ks else ks ++ [q]
def putDs (ks : List κ) (ds : List D) (q : κ) (x : D) : List D := if q ∈ ks then repA ks ds q x else ds ++ [x]
theorem rep_rel {x : D} {v : V} (rx : RelD K F x v) : ∀ {ks : List κ} {ds : List D} {vs : List V} {q : κ}, ks.length = vs.length → RelDs K F ds vs →
    ∃ ws, RelDs K F (repA ks ds q x) ws ∧ ks.length = ws.length ∧ (ks.zip vs).map (fun kv => if kv.1 = q then (kv.1, v) else kv) = ks.zip ws
  | [], [], [], q, _, .nil => ⟨[], .nil, rfl, rfl⟩
  | [], _, _ :: _, q, h, _ => by simp at h
  | _ :: _, _, [], q, h, _ => by simp at h
  | k :: ks, d :: ds, u :: vs, q, h, .cons r rr => by
    obtain ⟨ws, h1, h2, h3⟩ := rep_rel rx (q := q) (by simpa using h) rr
    refine ⟨(if k = q then v else u) :: ws, .cons ?_ h1, by rw [List.length_cons, List.length_cons, h2], ?_⟩
    · by_cases e : k = q
      · rw [if_pos e, if_pos e]; exact rx
      · rw [if_neg e, if_neg e]; exact r
    · rw [List.zip_cons_cons, List.map_cons, h3, List.zip_cons_cons]
      by_cases e : k = q
      · simp [e]
      · simp [e]
theorem put_rel {x : D} {v : V} (rx : RelD K F x v) {ks : List κ} {ds : List D} {vs : List V} {q : κ} (hl : ks.length = vs.length) (rr : RelDs K F ds vs) :
    ∃ ws, RelDs K F (putDs ks ds q x) ws ∧ (putKs ks q).length = ws.length ∧ putK (ks.zip vs) q v = (putKs ks q).zip ws := by
  have any : ((ks.zip vs).any fun kv => decide (kv.1 = q)) = decide (q ∈ ks) := by
    rw [Bool.eq_iff_iff, List.any_eq_true, decide_eq_true_eq]
    constructor
    · rintro ⟨kv, h, e⟩
      rw [← of_decide_eq_true e]
      exact (List.of_mem_zip (a := kv.1) (b := kv.2) h).1
    · intro h
      obtain ⟨i, hi⟩ := List.getElem?_of_mem h
      have hi' := (List.getElem?_eq_some_iff.mp hi).1
      refine ⟨(q, vs[i]'(by omega)), ?_, by simp⟩
      refine List.mem_of_getElem? (i := i) ?_
      rw [List.getElem?_zip_eq_some]
      exact ⟨hi, List.getElem?_eq_getElem _⟩
  unfold putDs putKs putK
  rw [any]
  by_cases h : q ∈ ks
  · rw [if_pos h, if_pos h, if_pos (by rw [decide_eq_true h])]
    obtain ⟨ws, h1, h2, h3⟩ := rep_rel rx (q := q) hl rr
    exact ⟨ws, h1, h2, h3⟩
  · rw [if_neg h, if_neg h, if_neg (by rw [decide_eq_false h]; exact Bool.false_ne_true)]
    exact ⟨vs ++ [v], rr.append (.cons rx .nil), by rw [List.length_append, List.length_append, hl]; rfl, by rw [List.zip_append hl]; rfl⟩
end
/-- x[y], whatever there is -/
def dictK (x : D) (l : LH) (y : D) (k : Option D → Prop) : Prop := match x with
  | .dT ks ds => ∃ q, keyT y = some q ∧ k (getA ks ds q)
  | .dK ks ds => ∃ q, keyD y = some q ∧ k (getA ks ds q)
  | .ref a => getO l a fun o => match o with | .dT ks ds => ∃ q, keyT y = some q ∧ k (getA ks ds q) | .dK ks ds => ∃ q, keyD y = some q ∧ k (getA ks ds q) | _ => False
  | _ => False
theorem dictK_ok {K : PySem.W.Frag} {F Fr H : Hp} {l : LH} {x y : D} {v u : V} {k : Option D → Prop} (R : Rep K F Fr l H) (rx : RelD K F x v) (ry : RelD K F y u) (q : dictK x l y k) : ∃ a od o, v = .ref a ∧ DGet H a u o ∧ OptRel K F od o ∧ k od := by
  have T : ∀ {p : Addr} {ks : List (List Key)} {ds : List D} {vs : List V}, Rd H p (.dT (ks.zip vs)) → RelDs K F ds vs → (∃ q, keyT y = some q ∧ k (getA ks ds q)) → ∃ a od o, V.ref p = .ref a ∧ DGet H a u o ∧ OptRel K F od o ∧ k od := by
    rintro p ks ds vs h rr ⟨q, e1, e2⟩
    obtain ⟨b, rfl, hb⟩ := keyT_rel ry e1
    exact ⟨p, _, _, rfl, .inr ⟨_, q, b, h, rfl, R.fz _ _ hb, rfl⟩, getA_rel rr, e2⟩
  have P : ∀ {p : Addr} {ks : List Key} {ds : List D} {vs : List V}, Rd H p (.dK (ks.zip vs)) → RelDs K F ds vs → (∃ q, keyD y = some q ∧ k (getA ks ds q)) → ∃ a od o, V.ref p = .ref a ∧ DGet H a u o ∧ OptRel K F od o ∧ k od := by
    rintro p ks ds vs h rr ⟨q, e1, e2⟩
    exact ⟨p, _, _, rfl, .inl ⟨_, q, h, keyD_v ry e1, rfl⟩, getA_rel rr, e2⟩
  cases rx with
  | dT h hl rr => exact T (.inr ⟨_, R.fz _ _ h⟩) rr q
  | dK h hl rr => exact P (.inr ⟨_, R.fz _ _ h⟩) rr q
  | ref a =>
    obtain ⟨o, ho, q⟩ := q
    cases o with
    | dT ks ds =>
      obtain ⟨vs, rr, hl, hH⟩ := (R.lv _ _ ho).2
      exact T (.inl hH) rr q
    | dK ks ds =>
      obtain ⟨vs, rr, hl, hH⟩ := (R.lv _ _ ho).2
      exact P (.inl hH) rr q
    | _ => exact q.elim
  | _ => exact q.elim
def isDictK (x : D) (l : LH) (k : Prop) : Prop := match x with
  | .dT _ _ => k
  | .dK _ _ => k
  | .ref a => getO l a fun o => match o with | .dT _ _ => k | .dK _ _ => k | _ => False
  | _ => False
theorem isDictK_ok {K : PySem.W.Frag} {F Fr H : Hp} {l : LH} {x : D} {v : V} {k : Prop} (R : Rep K F Fr l H) (rx : RelD K F x v) (q : isDictK x l k) : ∃ a, v = .ref a ∧ IsD H a ∧ k := by
  cases rx with
  | dT h hl rr => exact ⟨_, rfl, .inr ⟨_, .inr ⟨_, R.fz _ _ h⟩⟩, q⟩
  | dK h hl rr => exact ⟨_, rfl, .inl ⟨_, .inr ⟨_, R.fz _ _ h⟩⟩, q⟩
  | ref a =>
    obtain ⟨o, ho, q⟩ := q
    cases o with
    | dT ks ds =>
      obtain ⟨vs, rr, hl, hH⟩ := (R.lv _ _ ho).2
      exact ⟨_, rfl, .inr ⟨_, .inl hH⟩, q⟩
    | dK ks ds =>
      obtain ⟨vs, rr, hl, hH⟩ := (R.lv _ _ ho).2
      exact ⟨_, rfl, .inl ⟨_, .inl hH⟩, q⟩
    | _ => exact q.elim
  | _ => exact q.elim
section
variable {X : Cx} {a b e o : Expr} {ta tb te to tx : DTE} {pos p apos cpos : Pos} {k : Nat}
/-- x[y] of a dict -/
def dGetD (ta tb : DTE) : DTE := fun env l Q => ta env l fun x l1 => tb env l1 fun y l2 => dictK x l2 y fun od => match od with | some d => Q d l2 | none => False
theorem de_getD (hr : Room k X.A) (ha : DE X a ta) (hb : DE X b tb) (hs : NoSl b := by exact fun _ _ => rfl) : DE X (.Subscript a b pos) (dGetD ta tb) := by
  refine ⟨?_⟩
  intro F Fr env l σ H Q hE hR ht
  have hu : X.A.units + 1 < cLine := by have := hr.un; omega
  refine (pe_dget hu peW peW hs).we ?_
  refine (ha F Fr env l σ H _ hE hR ht).mono fun x H1 ⟨F1, d1, l1, s1, r1, R1, q1⟩ => ?_
  refine (hb F1 Fr env l1 σ H1 _ (hE.mono s1) R1 q1).mono fun y H2 ⟨F2, d2, l2, s2, r2, R2, q2⟩ => ?_
  obtain ⟨a, od, o, rfl, g, ro, q3⟩ := dictK_ok R2 (r1.mono s2) r2 q2
  cases od with
  | none => exact q3.elim
  | some d =>
    cases o with
    | none => exact ro.elim
    | some v => exact ⟨a, v, rfl, g, (LK.mk ro R2 q3).weak (s1.trans s2)⟩
def dGet2 (to te tx : DTE) : DTE := fun env l Q => to env l fun x l1 => isDictK x l1 (te env l1 fun y l2 => tx env l2 fun z l3 => dictK x l3 y fun od => Q (od.getD z) l3)
theorem OptRel.getD {K : PySem.W.Frag} {F : Hp} {od : Option D} {o : Option V} {d : D} {v : V} (r : OptRel K F od o) (rd : RelD K F d v) : RelD K F (od.getD d) (o.getD v) := by
  cases od with
  | none =>
    cases o with
    | none => exact rd
    | some _ => exact r.elim
  | some _ =>
    cases o with
    | none => exact r.elim
    | some _ => exact r
theorem de_get2 {f : Expr} (hr : Room k X.A) (ho : DE X o to) (he : DE X e te) (hf : DE X f tx) (m : M2 X o "get" apos e f cpos) : DE X (.Call (.Attribute o "get" apos) [e, f] [] cpos) (dGet2 to te tx) := by
  refine ⟨?_⟩
  intro F Fr env l σ H Q hE hR ht
  have hu : X.A.units + 1 < cLine := by have := hr.un; omega
  refine (pe_dget2 hu peW peW peW m).we ?_
  refine (ho F Fr env l σ H _ hE hR ht).mono fun x H1 ⟨F1, d1, l1, s1, r1, R1, q1⟩ => ?_
  obtain ⟨a, rfl, isd, q1⟩ := isDictK_ok R1 r1 q1
  refine ⟨a, rfl, isd, ?_⟩
  refine (he F1 Fr env l1 σ H1 _ (hE.mono s1) R1 q1).mono fun y H2 ⟨F2, d2, l2, s2, r2, R2, q2⟩ => ?_
  refine (hf F2 Fr env l2 σ H2 _ (hE.mono (s1.trans s2)) R2 q2).mono fun z H3 ⟨F3, d3, l3, s3, r3, R3, q3⟩ => ?_
  obtain ⟨a', od, o, e1, g, ro, q4⟩ := dictK_ok R3 (r1.mono (s2.trans s3)) (r2.mono s3) q3
  cases e1
  exact ⟨o, g, (LK.mk (ro.getD r3) R3 q4).weak (s1.trans (s2.trans s3))⟩
theorem OptRel.is {K : PySem.W.Frag} {F : Hp} {od : Option D} {o : Option V} (r : OptRel K F od o) : o.isSome = od.isSome := by
  cases od <;> cases o <;> first | rfl | exact r.elim
/-- d[y] = v -/
def putDK (x y d : D) (l : LH) (Q : LH → Prop) : Prop := match x with
  | .ref a => getO l a fun o => match o with
    | .dT ks ds => ∃ q, keyT y = some q ∧ ks.length < sizeLine ∧ Q (uL l a (.dT (putKs ks q) (putDs ks ds q d)))
    | .dK ks ds => ∃ q, keyD y = some q ∧ ks.length < sizeLine ∧ Q (uL l a (.dK (putKs ks q) (putDs ks ds q d)))
    | _ => False
  | _ => False
def sPutD (to ti tv : DTE) : DTS := fun E env l => tv env l fun d l1 => to env l1 fun x l2 => ti env l2 fun y l3 => putDK x y d l3 fun l4 => E.nx env l4
theorem ds_putD {i v : Expr} {ti tv : DTE} {pos' : Pos} (hr : Room k X.A) (ho : DE X o to) (hi : DE X i ti) (hv : DE X v tv) (hs : swapsWith v (some (.Subscript o i pos')) pos.line X.env = pure false := by rfl) : DS X (.Assign [.Subscript o i pos'] v pos) (sPutD to ti tv) := by
  refine ⟨?_⟩
  intro F Fr env l σ H E hE hR ht
  have hu : X.A.units + 1 < cLine := by have := hr.un; omega
  refine (ps_dput hu peW peW peW hs).ws ?_
  refine (hv F Fr env l σ H _ hE hR ht).mono fun w H1 ⟨F1, d, l1, s1, r1, R1, q1⟩ => ?_
  refine (ho F1 Fr env l1 σ H1 _ (hE.mono s1) R1 q1).mono fun x H2 ⟨F2, d2, l2, s2, r2, R2, q2⟩ => ?_
  refine (hi F2 Fr env l2 σ H2 _ (hE.mono (s1.trans s2)) R2 q2).mono fun y H3 ⟨F3, d3, l3, s3, r3, R3, q3⟩ => ?_
  have S := s1.trans (s2.trans s3)
  have rw1 := r1.mono (s2.trans s3)
  cases r2 with
  | ref a =>
    obtain ⟨u, ho, q3⟩ := q3
    cases u with
    | dT ks ds =>
      obtain ⟨q, hq, hz, q3⟩ := q3
      obtain ⟨vs, rr, hl, hH⟩ := (R3.lv _ _ ho).2
      obtain ⟨b, rfl, hb⟩ := keyT_rel r3 hq
      obtain ⟨ws, w1, w2, w3⟩ := put_rel (q := q) rw1 hl rr
      refine ⟨a, _, rfl, DPut.t hH (R3.fz _ _ hb) (by rw [List.length_zip]; omega), F3, env, _, S, hE.mono S, ?_, q3⟩
      rw [w3]
      exact R3.write ho rfl (show DOk X.K F3 _ a (.dT _ _) from ⟨ws, w1, w2, upd_same⟩)
    | dK ks ds =>
      obtain ⟨q, hq, hz, q3⟩ := q3
      obtain ⟨vs, rr, hl, hH⟩ := (R3.lv _ _ ho).2
      obtain rfl := keyD_v r3 hq
      obtain ⟨ws, w1, w2, w3⟩ := put_rel (q := q) rw1 hl rr
      refine ⟨a, _, rfl, DPut.k hH (by rw [List.length_zip]; omega), F3, env, _, S, hE.mono S, ?_, q3⟩
      rw [w3]
      exact R3.write ho rfl (show DOk X.K F3 _ a (.dK _ _) from ⟨ws, w1, w2, upd_same⟩)
    | _ => exact q3.elim
  | _ => exact q3.elim
/-- {} -/
def dNewT : DTE := fun _ l Q => newL (.dT [] []) l Q
def dNewK : DTE := fun _ l Q => newL (.dK [] []) l Q
theorem de_newT : DE X (.Dict [] [] pos) dNewT := by
  refine ⟨?_⟩
  intro F Fr env l σ H Q hE hR ht
  refine pe_dnewT.we fun p np => ?_
  exact ⟨F, .ref p, _, Same.refl F, .ref p, hR.made np (show DOk X.K F _ p (.dT [] []) from ⟨[], .nil, rfl, upd_same⟩), ht p (hR.l_none np)⟩
theorem de_newK : DE X (.Dict [] [] pos) dNewK := by
  refine ⟨?_⟩
  intro F Fr env l σ H Q hE hR ht
  refine pe_dnewK.we fun p np => ?_
  exact ⟨F, .ref p, _, Same.refl F, .ref p, hR.made np (show DOk X.K F _ p (.dK [] []) from ⟨[], .nil, rfl, upd_same⟩), ht p (hR.l_none np)⟩
end
end DL

namespace DL
open PySem PySem.Spec PyProof.Rows L2
/-! ### what is frozen, deep -/
theorem Rep.freezeH {K : PySem.W.Frag} {F Fr H : Hp} {l : LH} (r : Rep K F Fr l H) {a : Addr} {o : DO} (h : l a = some o) (nf : isFz o = false) (u : HO) (hu : isTblO u = false := by rfl) : Rep K (upd F a u) Fr (dL l a) (upd H a u) where
  fz := fun b x q => by
    by_cases hb : b = a
    · subst hb; rw [upd_same] at q ⊢; exact q
    · rw [upd_ne hb] at q ⊢; exact r.fz b x q
  fr := fun b x q => by
    rw [upd_ne (fun z => by subst z; rw [(r.fd b x q).2] at h; cases h)]
    exact r.fr b x q
  fd := fun b x q => by
    have hb : b ≠ a := fun z => by subst z; rw [(r.fd b x q).2] at h; cases h
    unfold dL
    rw [upd_ne hb, if_neg hb]
    exact r.fd b x q
  lv := fun b x q => by
    unfold dL at q
    by_cases hb : b = a
    · rw [if_pos hb] at q; cases q
    · rw [if_neg hb] at q
      obtain ⟨h1, h2⟩ := r.lv b x q
      exact ⟨fun z => by rw [upd_ne hb]; exact h1 z, h2.mono (same_upd ((r.lv a o h).1 nf)) (upd_ne hb)⟩
  ft := r.ft
  tb := fun q hq => tabS_step (r.tb q hq) ((r.lv a o h).2.keep nf)
  nt := fun b x q => by
    by_cases hb : b = a
    · subst hb; rw [upd_same] at q; cases q; exact hu
    · rw [upd_ne hb] at q; exact r.nt b x q
  nr := r.nr
theorem Rep.drop {K : PySem.W.Frag} {F Fr H : Hp} {l : LH} (r : Rep K F Fr l H) (a : Addr) : Rep K F Fr (dL l a) H where
  fz := r.fz
  fr := r.fr
  fd := fun b x q => by
    refine ⟨(r.fd b x q).1, ?_⟩
    unfold dL
    split
    · rfl
    · exact (r.fd b x q).2
  lv := fun b x q => by
    unfold dL at q
    split at q
    · cases q
    · exact r.lv b x q
  ft := r.ft
  tb := r.tb
  nt := r.nt
  nr := r.nr
theorem Rep.keepFz {K : PySem.W.Frag} {F Fr H : Hp} {l : LH} {a : Addr} {d : D} (r : Rep K F Fr (dL l a) H) (rd : RelD K F d (.ref a)) {u : HO} (hu : F a = some u) : Rep K F Fr (uL l a (.fz d)) H where
  fz := r.fz
  fr := r.fr
  fd := fun b x q => by
    obtain ⟨h1, h2⟩ := r.fd b x q
    refine ⟨h1, ?_⟩
    have hb : b ≠ a := fun z => by subst z; rw [h1] at hu; cases hu
    rw [uL_ne hb]
    unfold dL at h2
    rwa [if_neg hb] at h2
  lv := fun b x q => by
    by_cases hb : b = a
    · subst hb
      rw [uL_same] at q; cases q
      exact ⟨(fun z => nomatch z), rd, u, hu⟩
    · rw [uL_ne hb] at q
      exact r.lv b x (by unfold dL; rw [if_neg hb]; exact q)
  ft := r.ft
  tb := r.tb
  nt := r.nt
  nr := r.nr
def fzList (f : D → LH → DK → Prop) : List D → LH → (List D → LH → Prop) → Prop
  | [], l, k => k [] l
  | d :: ds, l, k => f d l fun d' l1 => fzList f ds l1 fun ds' l2 => k (d' :: ds') l2
def fzN : Nat → D → LH → DK → Prop
  | 0, d, l, k => k d l
  | n + 1, .ref a, l, k => getO l a fun o => match o with
    | .lst ds => fzList (fzN n) ds (dL l a) fun ds' l' => k (.lst ds') l'
    | .dT ks ds => k (.dT ks ds) (dL l a)
    | .dK ks ds => k (.dK ks ds) (dL l a)
    | .ins _ _ => k (.ref a) l
    | .dN _ _ _ => k (.ref a) l
    | .fz d => k d (dL l a)
  | n + 1, .lst ds, l, k => fzList (fzN n) ds l fun ds' l' => k (.lst ds') l'
  | n + 1, .tup ds, l, k => fzList (fzN n) ds l fun ds' l' => k (.tup ds') l'
  | _ + 1, d, l, k => k d l
section
variable {X : Cx} {pins : List (Addr × Obj)} {σ : St} {s : Shared} {Fr : Hp}
theorem fzList_ok {f : D → LH → DK → Prop} (hf : ∀ {d : D} {l : LH} {k : DK} {F H : Hp} {v : V}, Inv X pins σ H s → Rep X.K F Fr l H → RelD X.K F d v → f d l k → ∃ H' F' d' l', Inv X pins σ H' s ∧ Same F F' ∧ Rep X.K F' Fr l' H' ∧ RelD X.K F' d' v ∧ k d' l') :
    ∀ {ds : List D} {l : LH} {k : List D → LH → Prop} {F H : Hp} {vs : List V}, Inv X pins σ H s → Rep X.K F Fr l H → RelDs X.K F ds vs → fzList f ds l k → ∃ H' F' ds' l', Inv X pins σ H' s ∧ Same F F' ∧ Rep X.K F' Fr l' H' ∧ RelDs X.K F' ds' vs ∧ k ds' l'
  | [], l, k, F, H, _, I, R, .nil, q => ⟨H, F, [], l, I, Same.refl F, R, .nil, q⟩
  | d :: ds, l, k, F, H, _, I, R, .cons r rr, q => by
    obtain ⟨H1, F1, d1, l1, I1, s1, R1, r1, q1⟩ := hf I R r q
    obtain ⟨H2, F2, ds2, l2, I2, s2, R2, r2, q2⟩ := fzList_ok hf I1 R1 (rr.mono s1) q1
    exact ⟨H2, F2, d1 :: ds2, l2, I2, s1.trans s2, R2, .cons (r1.mono s2) r2, q2⟩
theorem lock_dT {F H : Hp} {l : LH} {a : Addr} {ks : List (List Key)} {ds : List D} (I : Inv X pins σ H s) (R : Rep X.K F Fr l H) (ho : l a = some (.dT ks ds)) : ∃ H' F' u, Inv X pins σ H' s ∧ Same F F' ∧ Rep X.K F' Fr (dL l a) H' ∧ RelD X.K F' (.dT ks ds) (.ref a) ∧ F' a = some u := by
  obtain ⟨vs, rr, hl, hH⟩ := (R.lv _ _ ho).2
  obtain ⟨od, I2⟩ := I.lock hH (by exact trivial)
  have s1 := same_upd (o := .frz od (.dT (ks.zip vs))) ((R.lv _ _ ho).1 rfl)
  exact ⟨_, _, _, I2, s1, R.freezeH ho rfl _, .dT upd_same hl (rr.mono s1), upd_same⟩
theorem lock_dK {F H : Hp} {l : LH} {a : Addr} {ks : List Key} {ds : List D} (I : Inv X pins σ H s) (R : Rep X.K F Fr l H) (ho : l a = some (.dK ks ds)) : ∃ H' F' u, Inv X pins σ H' s ∧ Same F F' ∧ Rep X.K F' Fr (dL l a) H' ∧ RelD X.K F' (.dK ks ds) (.ref a) ∧ F' a = some u := by
  obtain ⟨vs, rr, hl, hH⟩ := (R.lv _ _ ho).2
  obtain ⟨od, I2⟩ := I.lock hH (by exact trivial)
  have s1 := same_upd (o := .frz od (.dK (ks.zip vs))) ((R.lv _ _ ho).1 rfl)
  exact ⟨_, _, _, I2, s1, R.freezeH ho rfl _, .dK upd_same hl (rr.mono s1), upd_same⟩
theorem fzN_ok : ∀ (n : Nat) {d : D} {l : LH} {k : DK} {F H : Hp} {v : V}, Inv X pins σ H s → Rep X.K F Fr l H → RelD X.K F d v → fzN n d l k → ∃ H' F' d' l', Inv X pins σ H' s ∧ Same F F' ∧ Rep X.K F' Fr l' H' ∧ RelD X.K F' d' v ∧ k d' l'
  | 0, d, l, k, F, H, v, I, R, r, q => ⟨H, F, d, l, I, Same.refl F, R, r, q⟩
  | n + 1, d, l, k, F, H, v, I, R, r, q => by
    cases r with
    | ref a =>
      obtain ⟨o, ho, q⟩ := q
      cases o with
      | lst ds =>
        obtain ⟨vs, rr, hH⟩ := (R.lv _ _ ho).2
        have nF := (R.lv _ _ ho).1 rfl
        have s1 := same_upd (o := .lst vs) nF
        obtain ⟨H2, F2, ds2, l2, I2, s2, R2, r2, q2⟩ := fzList_ok (fzN_ok n) I (R.freeze ho rfl hH) (rr.mono s1) q
        exact ⟨H2, F2, .lst ds2, l2, I2, s1.trans s2, R2, .lst (s2 _ _ upd_same) r2, q2⟩
      | dT ks ds =>
        obtain ⟨H', F', u, I2, s1, R2, r2, _⟩ := lock_dT I R ho
        exact ⟨H', F', _, _, I2, s1, R2, r2, q⟩
      | dK ks ds =>
        obtain ⟨H', F', u, I2, s1, R2, r2, _⟩ := lock_dK I R ho
        exact ⟨H', F', _, _, I2, s1, R2, r2, q⟩
      | ins c ds => exact ⟨H, F, _, _, I, Same.refl F, R, .ref a, q⟩
      | dN o ks ds => exact ⟨H, F, _, _, I, Same.refl F, R, .ref a, q⟩
      | fz d => exact ⟨H, F, _, _, I, Same.refl F, R.drop a, (R.lv _ _ ho).2.1, q⟩
    | lst h1 rr =>
      obtain ⟨H2, F2, ds2, l2, I2, s2, R2, r2, q2⟩ := fzList_ok (fzN_ok n) I R rr q
      exact ⟨H2, F2, .lst ds2, l2, I2, s2, R2, .lst (s2 _ _ h1) r2, q2⟩
    | tup h1 rr =>
      obtain ⟨H2, F2, ds2, l2, I2, s2, R2, r2, q2⟩ := fzList_ok (fzN_ok n) I R rr q
      exact ⟨H2, F2, .tup ds2, l2, I2, s2, R2, .tup (s2 _ _ h1) r2, q2⟩
    | non => exact ⟨H, F, _, l, I, Same.refl F, R, .non, q⟩
    | bl b => exact ⟨H, F, _, l, I, Same.refl F, R, .bl b, q⟩
    | int b => exact ⟨H, F, _, l, I, Same.refl F, R, .int b, q⟩
    | str b => exact ⟨H, F, _, l, I, Same.refl F, R, .str b, q⟩
    | scr b => exact ⟨H, F, _, l, I, Same.refl F, R, .scr b, q⟩
    | dT a b c => exact ⟨H, F, _, l, I, Same.refl F, R, .dT a b c, q⟩
    | dK a b c => exact ⟨H, F, _, l, I, Same.refl F, R, .dK a b c, q⟩
    | exc a b => exact ⟨H, F, _, l, I, Same.refl F, R, .exc a b, q⟩
    | exc1 a b c d => exact ⟨H, F, _, l, I, Same.refl F, R, .exc1 a b c d, q⟩
    | kt a b c d => exact ⟨H, F, _, l, I, Same.refl F, R, .kt a b c d, q⟩
end
section
variable {X : Cx} {e o : Expr} {te to : DTE} {pos apos cpos tpos p : Pos}
def dFz (n : Nat) (te : DTE) : DTE := fun env l Q => te env l fun d l1 => fzN n d l1 Q
theorem de_fz (n : Nat) (h : DE X e te) : DE X e (dFz n te) := by
  refine ⟨?_⟩
  intro F Fr env l σ H Q hE hR ht pins s I
  refine thn (h F Fr env l σ H _ hE hR ht pins s I) fun u s1 ⟨v, H1, I1, rv, F1, d, l1, s1', r1, R1, q1⟩ => ?_
  obtain ⟨H2, F2, d2, l2, I2, s2, R2, r2, q2⟩ := fzN_ok n I1 R1 r1 q1
  exact ⟨v, H2, I2, rv, F2, d2, l2, s1'.trans s2, r2, R2, q2⟩
/-- frozen, and remembered -/
def fzK (d : D) (l : LH) (k : DK) : Prop := match d with
  | .ref a => getO l a fun o => match o with
    | .dT ks ds => k (.dT ks ds) (uL l a (.fz (.dT ks ds)))
    | .fz d => k d l
    | _ => False
  | d => k d l
def dFzK (te : DTE) : DTE := fun env l Q => te env l fun d l1 => fzK d l1 Q
theorem de_fzK (h : DE X e te) : DE X e (dFzK te) := by
  refine ⟨?_⟩
  intro F Fr env l σ H Q hE hR ht pins s I
  refine thn (h F Fr env l σ H _ hE hR ht pins s I) fun u s1 ⟨v, H1, I1, rv, F1, d, l1, s1', r1, R1, q1⟩ => ?_
  cases r1 with
  | ref a =>
    obtain ⟨o, ho, q⟩ := q1
    cases o with
    | dT ks ds =>
      obtain ⟨H', F', u, I2, s2, R2, r2, hu⟩ := lock_dT I1 R1 ho
      exact ⟨_, H', I2, rv, F', _, _, s1'.trans s2, r2, R2.keepFz r2 hu, q⟩
    | fz d => exact ⟨_, H1, I1, rv, F1, d, l1, s1', (R1.lv _ _ ho).2.1, R1, q⟩
    | _ => exact q.elim
  | non => exact ⟨_, H1, I1, rv, F1, _, l1, s1', .non, R1, q1⟩
  | bl b => exact ⟨_, H1, I1, rv, F1, _, l1, s1', .bl b, R1, q1⟩
  | int b => exact ⟨_, H1, I1, rv, F1, _, l1, s1', .int b, R1, q1⟩
  | str b => exact ⟨_, H1, I1, rv, F1, _, l1, s1', .str b, R1, q1⟩
  | tup a b => exact ⟨_, H1, I1, rv, F1, _, l1, s1', .tup a b, R1, q1⟩
  | scr a => exact ⟨_, H1, I1, rv, F1, _, l1, s1', .scr a, R1, q1⟩
  | lst a b => exact ⟨_, H1, I1, rv, F1, _, l1, s1', .lst a b, R1, q1⟩
  | dT a b c => exact ⟨_, H1, I1, rv, F1, _, l1, s1', .dT a b c, R1, q1⟩
  | dK a b c => exact ⟨_, H1, I1, rv, F1, _, l1, s1', .dK a b c, R1, q1⟩
  | exc a b => exact ⟨_, H1, I1, rv, F1, _, l1, s1', .exc a b, R1, q1⟩
  | exc1 a b c d => exact ⟨_, H1, I1, rv, F1, _, l1, s1', .exc1 a b c d, R1, q1⟩
  | kt a b c d => exact ⟨_, H1, I1, rv, F1, _, l1, s1', .kt a b c d, R1, q1⟩
/-- freezing a field of an instance: x.f, a list, as what is never written any more -/
def dFzF (c : Cl) (i : Nat) (te : DTE) : DTE := fun env l Q => te env l fun x l1 => atIns x l1 c fun a ds => nthK ds i fun d => match d with | .ref b => fzN 1 (.ref b) l1 fun d' l2 => putI ds i d' fun ds' => l2 a = some (.ins c ds) ∧ Q d' (uL l2 a (.ins c ds')) | _ => False
theorem putN_at {α : Type} : ∀ {vs : List α} {i : Nat} {v : α}, vs[i]? = some v → putN vs i v = vs
  | [], i, v, h => by simp at h
  | x :: r, 0, v, h => by
    simp at h
    subst h
    rfl
  | x :: r, n + 1, v, h => by
    show x :: putN r n v = x :: r
    rw [putN_at (by simpa using h)]
theorem de_fzF {c : Cl} {C : Addr} {f : Str} (i : Nat) (hf : c.fs[i]? = some f) (nd : c.fs.Nodup) (hC : PySem.W.nsIn X.K mainGlobals c.name = some (some (.ref C))) (cl : Cls X.K C) (na : NoAttr X.K C f) (h : DE X e te) (hb : attributeBase e f X.env (eval e X.env) = eval e X.env := by rfl) :
    DE X (.Attribute e f pos) (dFzF c i te) := by
  refine ⟨?_⟩
  intro F Fr env l σ H Q hE hR ht pins s I
  let Q1 : DK := fun d l1 => ∃ a ds b, d = .ref b ∧ l1 a = some (.ins c ds) ∧ ds[i]? = some d ∧ fzN 1 d l1 fun d' l2 => putI ds i d' fun ds' => l2 a = some (.ins c ds) ∧ Q d' (uL l2 a (.ins c ds'))
  have h1 : WE X (.Attribute e f pos) σ H (LK X.K F Fr Q1) := by
    refine (pe_fld peW hb).we ?_
    refine (h F Fr env l σ H _ hE hR ht).mono fun x H1 ⟨F1, d, l1, s1, r1, R1, q1⟩ => ?_
    obtain ⟨a, ds, dx, vs, rfl, rfl, q, ho, rr, hl, hH⟩ := atIns_ok hC R1 r1 q1
    obtain ⟨d, hd, q⟩ := nthK_ok q
    obtain ⟨v, hv, rv⟩ := rr.get hd
    cases d with
    | ref b => exact ⟨a, C, dx, _, v, rfl, hH, cl, na, lookup_zip nd hf hv, F1, .ref b, l1, s1, rv, R1, a, ds, b, rfl, ho, hd, q⟩
    | _ => exact q.elim
  refine thn (h1 pins s I) fun u s1 ⟨v, H1, I1, rv, F1, d, l1, s1', r1, R1, a, ds, b, eb, ho, hd, q⟩ => ?_
  subst eb
  obtain ⟨H2, F2, d2, l2, I2, s2, R2, r2, q2⟩ := fzN_ok 1 I1 R1 r1 q
  obtain ⟨hi, ho2, q2⟩ := putI_ok q2
  obtain ⟨C2, dx2, vs2, rr2, hC2, hl2, hH2⟩ := (R2.lv _ _ ho2).2
  rw [hC] at hC2
  cases hC2
  refine ⟨v, H2, I2, rv, F2, d2, _, s1'.trans s2, r2, ?_, q2⟩
  obtain ⟨w, hw, rw1⟩ := rr2.get hd
  have same : upd H2 a (.ins C dx2 (c.fs.zip vs2)) = H2 := by
    funext b
    by_cases hb : b = a
    · subst hb; rw [upd_same, hH2]
    · rw [upd_ne hb]
  have ew : w = v := by
    cases r1
    cases rw1
    rfl
  subst ew
  have := R2.write ho2 rfl (u := .ins C dx2 (c.fs.zip vs2)) (show DOk X.K F2 _ a (.ins c (putN ds i d2)) from ⟨C, dx2, _, rr2.putN r2 i, hC, by rw [putN_at hw]; exact hl2, by rw [putN_at hw]; exact upd_same⟩)
  rw [same] at this
  exact this
end
end DL

namespace DL
open PySem PySem.Spec PyProof.Rows L2
/-! ### d.items() of a dict with tuple keys -/
section
variable {X : Cx} {pins : List (Addr × Obj)} {σ : St} {H : Hp} {s : Shared} {d : Addr} {o : Obj}
theorem frzT2 {kvs : List (List Key × V)} (I : Inv X pins σ H s) (h : H d = some (.frz o (.dT kvs))) :
    (d == sysModules) = false ∧ s.heap.get? d = some o ∧ o.ExactDict ∧ ∃ (es : Array DictEntry) (ep : Nat), o.data = .dict es ep ∧ es.size = kvs.length ∧
      ∀ (i : Nat) (k : List Key) (v : V), kvs[i]? = some (k, v) → ∃ (en : DictEntry) (q : Addr), es[i]? = some en ∧ en.key = .ref q ∧ H q = some (.tup (k.map kV)) ∧ RelV v en.val := by
  obtain ⟨hd, z, hs, xs, pr, o', es, ep, ho, hx, hdt, he, _⟩ := I.hok d _ h
  rw [hd] at ho
  cases ho
  refine ⟨hs, hd, hx, es, ep, hdt, ?_, fun i k v e => ?_⟩
  · have l1 : es.size = xs.length := size_of_entries he
    have l2 : kvs.length = xs.length := Paired.length pr
    omega
  · obtain ⟨b, hb, e1, e2, e3⟩ := L2.paired_get pr e
    have q := entry_at he i
    rw [hb] at q
    exact ⟨_, b.2.1, q, rfl, e2, e3⟩
end
def Itit (d : Addr) (o : Obj) (kvs : List (List Key × V)) : It :=
  ⟨fun i H => H d = some (.frz o (.dT kvs)) ∧ i < kvs.length, fun i H x H' => ∃ T q k v, kvs[i]? = some (k, v) ∧ x = .ref T ∧ H T = none ∧ H q = some (.tup (k.map kV)) ∧ H' = upd H T (.tup [.ref q, v]), fun i H => H d = some (.frz o (.dT kvs)) ∧ kvs.length ≤ i⟩
theorem turn_itemsT {P : Program} {w : World} {K : PySem.W.Frag} {d : Addr} {o : Obj} {es : Array DictEntry} {ep : Nat} {kvs : List (List Key × V)} {elts : List Expr} {kk : Nat} {tpos : Pos} (it : Addr) (hod : o.data = .dict es ep) (hsz : es.size = kvs.length) :
    Turn P w K (.Tuple elts kk tpos) (Itit d o kvs) [it] it (fun i h => ∃ ok ov, IsItemIter h it d i es.size ep ok ov) where
  mem := by simp
  obj := fun i h st b hb => by
    have e : b = it := by simpa using hb
    subst e
    obtain ⟨ok, ov, e⟩ := st
    exact ⟨_, e, fun v z => nomatch z⟩
  keep := fun i h h' st k => let ⟨ok, ov, e⟩ := st; ⟨ok, ov, k it (by simp) _ e⟩
  item := by
    intro X hP hw hK hc i pins s σ H E I hf st hg
    subst hP hw hK
    obtain ⟨hd, hi⟩ := hg
    obtain ⟨hs, hgd, hx, es', ep', hdt, hsz', ent⟩ := frzT2 I hd
    obtain ⟨rfl, rfl⟩ := dict_ep hod hdt
    obtain ⟨⟨k, v⟩, hkv⟩ : ∃ p, kvs[i]? = some p := ⟨kvs[i], List.getElem?_eq_getElem hi⟩
    obtain ⟨en, q, hen, hkey, hq, rv⟩ := ent i k v hkv
    obtain ⟨ok, ov, he⟩ := st
    have hlt : it < s.heap.objs.size := Heap.lt_size he
    have hie : i < es'.size := by omega
    have een : es'[i] = en := by
      rw [Array.getElem?_eq_getElem hie] at hen
      exact Option.some.inj hen
    refine DT.nextI he ⟨o, hgd, hx, hdt⟩ hie fun h' ho hT hz hk => ?_
    rw [een] at ho hT
    refine ⟨_, rfl, wpAny_letOwnedTupleGo_items (s := { s with heap := h' }) ho fun h'' he' sb => ?_⟩
    have hT2 : h''.get? s.heap.objs.size = some { cls := .type "tuple", data := .seq #[en.key, en.val] } := (sb.2 _ (Nat.ne_of_gt hlt)).trans hT
    have new : ObjOk X.prog X.w (upd H s.heap.objs.size (.tup [.ref q, v])) h'' s.heap.objs.size (.tup [.ref q, v]) :=
      ⟨by show 2 ≤ sizeLine; decide, [en.key, en.val], .cons hkey (.cons rv .nil), ⟨_, hT2, rfl, _, rfl⟩⟩
    have I1 : Inv X pins σ (upd H s.heap.objs.size (.tup [.ref q, v])) { s with heap := h'' } :=
      I.turnedNew (t' := s.toks) (ch := [it]) (fun b ob hb e => (sb.2 b (by simpa using hb)).trans (hk b ob (by simpa using hb) e)) hf (Nat.le_refl _) new
    refine ⟨.ref s.heap.objs.size, _, I1, rfl, ⟨_, q, k, v, hkv, rfl, I.hok.fresh (Nat.le_refl _), hq, rfl⟩, ⟨_, _, he'⟩, fun b hb => ?_⟩
    have e : b = it := by simpa using hb
    rw [e, upd_ne (Nat.ne_of_lt hlt)]
    exact (hf it (by simp)).1
  done := by
    intro X hP hw hK hc i pins s σ H E I hf st hg
    subst hP hw hK
    obtain ⟨hd, hi⟩ := hg
    obtain ⟨f0, f1, f2, f3, f4, f5⟩ := hf it (by simp)
    obtain ⟨hs, hgd, hx, es', ep', hdt, hsz', ent⟩ := frzT2 I hd
    obtain ⟨rfl, rfl⟩ := dict_ep hod hdt
    obtain ⟨ok, ov, he⟩ := st
    exact DT.endI (I.ok.hd hc) he ⟨o, hgd, hx, hdt⟩ (by omega) fun h' eb => ⟨rfl, I.turned (t' := s.toks) (fun b ob hb e => eb b ob hb e) f0 f1 f3 f4 f5⟩
  self := fun A i s Q E st h => let ⟨_, _, e⟩ := st; PySem.W.kcp_self e h
def keyV : Key → D
  | .inl i => .int i
  | .inr x => .str x
theorem keyV_rel {K : PySem.W.Frag} {F : Hp} (k : Key) : RelD K F (keyV k) (kV k) := by
  cases k with
  | inl i => exact .int i
  | inr x => exact .str x
theorem keysV_rel {K : PySem.W.Frag} {F : Hp} : ∀ k : List Key, RelDs K F (k.map keyV) (k.map kV)
  | [] => .nil
  | k :: ks => .cons (keyV_rel k) (keysV_rel ks)
def itemsD (ks : List (List Key)) (ds : List D) : List D := List.zipWith (fun k d => D.tup [.tup (k.map keyV), d]) ks ds
theorem jok_itemsT {K : PySem.W.Frag} {F : Hp} {p : Addr} {od : Obj} {vs : List V} {ks : List (List Key)} {ds : List D} (h1 : F p = some (.frz od (.dT (ks.zip vs)))) (hl : ks.length = vs.length) (rr : RelDs K F ds vs) : JOk K F (Itit p od (ks.zip vs)) (itemsD ks ds) := by
  intro i F' Fr l H s R
  have hH : H p = some (.frz od (.dT (ks.zip vs))) := R.fz _ _ (s _ _ h1)
  have hz : (ks.zip vs).length = (itemsD ks ds).length := by
    unfold itemsD
    rw [List.length_zip, List.length_zipWith, rr.length]
  refine ⟨fun hi => ⟨hH, by rw [hz]; exact hi⟩, fun d hd => ?_⟩
  have hi : i < (itemsD ks ds).length := (List.getElem?_eq_some_iff.mp hd).1
  refine ⟨⟨hH, by rw [hz]; exact hi⟩, fun x H' ⟨T, q, k, v, e1, e2, nT, hq, e3⟩ => ?_⟩
  subst e2 e3
  obtain ⟨k1, k2⟩ := List.getElem?_zip_eq_some.mp e1
  unfold itemsD at hd
  rw [List.getElem?_zipWith] at hd
  have hk : ks[i]? = some k := k1
  cases hdi : ds[i]? with
  | none => rw [hdi, hk] at hd; cases hd
  | some di =>
    rw [hdi, hk] at hd
    cases hd
    obtain ⟨u, hu, ru⟩ := rr.get hdi
    rw [show vs[i]? = some v from k2] at hu
    cases hu
    obtain ⟨F2, s2, hF2, R2⟩ := R.tupIn hq
    refine ⟨_, s2.trans (same_upd (R2.F_none nT)), relTup (R2.F_none nT) (.cons ?_ (.cons (ru.mono (s.trans s2)) .nil)), R2.laid nT _⟩
    exact .tup hF2 (keysV_rel k)
section
variable {X : Cx} {e : Expr} {te : DTE} {apos cpos tpos pos p : Pos} {elts : List Expr} {kk : Nat}
def iItemsT (te : DTE) : DTI := fun env l R => te env l fun d l1 => match d with
  | .dT ks ds => R (itemsD ks ds) l1
  | _ => False
theorem di_itemsT (h : DE X e te) (hbase : attributeBase e "items" X.env (eval e X.env) = eval e X.env := by rfl) (hline : (apos.endLine == cpos.line) = true := by rfl) :
    DI X (.Tuple elts kk tpos) (.Call (.Attribute e "items" apos) [] [] cpos) (iItemsT te) := by
  refine ⟨?_⟩
  intro F Fr env l σ H R hE hR ht pins s I
  refine wpAny_Call_method (T := "dict") (id := "dict.items") hbase rfl hline PySem.F.plainAttrs_dict PySem.F.slot_dict_items PySem.F.type_dict_items (thn (h F Fr env l σ H _ hE hR ht pins s I) fun u s1 ⟨x, H1, I1, rx, F1, d, l1, s1', rd, R1, q1⟩ => ?_)
  cases rd with
  | @dT d od vs ks ds h1 hl rr =>
    obtain rfl : u = Value.ref d := rx
    have hd : H1 d = some (.frz od (.dT (ks.zip vs))) := R1.fz _ _ h1
    obtain ⟨hs, hgd, hx, es, ep, hdt, hsz, ent⟩ := frzT2 I1 hd
    refine ⟨⟨od, hgd, hx.1⟩, fun b hb => by cases hb; exact ⟨od, hgd, hx.2.1⟩, ?_⟩
    have I2 : Inv X pins σ H1 { s1 with heap := s1.heap.push { cls := .type "dict_items", data := .fields #[.ref d] } } := I1.kept (t' := s1.toks) fun b ob q => Heap.get?_push_of_some _ q
    have raw : DT.Raw s1.heap d es ep := ⟨od, hgd, hx, hdt⟩
    have fin : wpAny (model X.prog X.w) X.A (pyIter (.ref s1.heap.objs.size)) (PIE X pins σ (.Tuple elts kk tpos) (LI X.K F Fr R)) X.xe { s1 with heap := s1.heap.push { cls := .type "dict_items", data := .fields #[.ref d] } } := by
      refine DT.iterI (d := d) (es := es) (ep := ep) ⟨_, Heap.get?_push_size _ rfl, rfl, rfl⟩ (raw.push _) (pi_one (tk := s1.toks) I2 _ (turn_itemsT _ hdt hsz) ⟨.none, .none, ?_⟩ ⟨F1, l1, _, s1', R1, jok_itemsT h1 hl rr, q1⟩)
      exact Heap.get?_push_size _ rfl
    show wpAny _ _ (callWith cpos (.builtin "dict.items") [.ref d] [] []) _ X.xe s1
    exact method_meetsIn PySem.F.slot_dict_items PySem.F.entry_dict_items rfl (PySem.evalArgs_none ⟨rfl, raw.typeIs, PySem.F.args_dict_items_1 _, _, DT.meetsItems (es := es) (ep := ep) hs, raw, fin⟩)
  | _ => exact q1.elim
/-! ### dict(d) of a dict with tuple keys -/
def hashOk (ks : List (List Key)) : Prop := ∀ (P : Program) (w : World), (ks.map (tupleKind (mixKind P w)).hash).Nodup
theorem call_copyT {prog : Program} {w : World} {A : Around} {E : Value → Shared → Prop} {s : Shared} {knd : HeapKind prog w (List Key)} {o : Addr} {more : List (List Key × Addr × Value)} {Q : Value → Shared → Prop} (hu : knd.room A.in1.in1) (hoS : (o == sysModules) = false) (ho : s.heap.DictOfH knd o more) (hsz : more.length ≤ sizeLine)
    (hty : ∀ x ∈ more, s.TypeIs (.ref x.2.1) "tuple") (hap : (more.map fun x => knd.hash x.1).Nodup) (keep : ∀ h' : Heap, (∀ b u, s.heap.get? b = some u → h'.get? b = some u) → ∀ x ∈ more, knd.is h' x.1 x.2.1)
    (h : ∀ h', h'.DictOfH knd s.heap.objs.size more → (∀ b u, s.heap.get? b = some u → h'.get? b = some u) → Q (.ref s.heap.objs.size) { s with heap := h' }) :
    wpAny (model prog w) A (call (.type "dict") [.ref o]) Q E s := by
  refine callType_codes (Q₁ := fun obj s₁ => obj = .ref s.heap.objs.size ∧ s₁ = { s with heap := s.heap.push { cls := .type "dict", data := .dict #[] } }) PySem.F.kt_called_dict (PySem.F.kt_typeCall_dict_1 _) PySem.F.entry_dict_init (kt_code_dict_new _ ⟨rfl, rfl⟩) ?_
  rintro obj s₁ ⟨rfl, rfl⟩
  have k0 : ∀ b u, s.heap.get? b = some u → (s.heap.push { cls := .type "dict", data := .dict #[] }).get? b = some u := fun b u e => Heap.get?_push_of_some _ e
  have hnew : (s.heap.push { cls := .type "dict", data := .dict #[] }).DictOfH knd s.heap.objs.size [] := Heap.DictOfH.new s.heap
  have ho' : (s.heap.push { cls := .type "dict", data := .dict #[] }).DictOfH knd o more := by
    obtain ⟨ob, es, ep, h1, h2, h3, h4, h5, h6⟩ := ho
    exact ⟨ob, es, ep, k0 _ _ h1, h2, h3, h4, keep _ k0, h6⟩
  have hn : (more.map (·.1)).Nodup := let ⟨_, _, _, _, _, _, _, _, hn⟩ := ho; hn
  have hdo : s.heap.objs.size ≠ o := by
    obtain ⟨_, _, _, hg, _⟩ := ho
    exact fun e => absurd (Heap.lt_size hg) (by rw [e]; exact Nat.lt_irrefl _)
  refine ⟨hnew.typeIs, PySem.F.args_dict_init_2 _ _, ?_⟩
  unfold Builtin.«dict.__init__»
  refine wpAny_bind ?_
  unfold Builtin.Dict.selfAndRest
  refine wpAny_bind (wpAny_notOrdered_dict hnew.typeIs ?_)
  show wpAny _ _ (pure (s.heap.objs.size, [Value.ref o])) _ _ _
  refine wpAny_pure ?_
  show wpAny _ _ (Builtin.Dict.updateFrom "dict.__init__" s.heap.objs.size (.ref o) [] .none) _ _ _
  unfold Builtin.Dict.updateFrom
  refine wpAny_bind (wpAny_typeOf ho'.typeIs ?_)
  rw [if_neg (by decide)]
  refine wpAny_bind ?_
  unfold Builtin.Dict.merge
  refine wpAny_bind ?_
  unfold Builtin.Dict.readDirectly
  refine wpAny_bind (wpAny_isInstance ho'.typeIs isSubtype_dict_dict ?_)
  simp only [Bool.not_true, Bool.false_eq_true, if_false]
  refine wpAny_bind (wpAny_specialOf ho'.typeIs PySem.F.slot_dict_iter.lookup (wpAny_pure ?_))
  simp only [beq_self_eq_true, if_true]
  refine wpAny_bind (wpAny_pure ?_)
  refine wpAny_mergeDict_heap (hsz := by simpa using hsz) hu hdo hoS hnew ho' (.inr ⟨fun x hx => ?_, hap⟩) fun h' hd' _ hs' => ?_
  · obtain ⟨ob, e1, e2⟩ := hty x hx
    exact ⟨ob, k0 _ _ e1, e2⟩
  · show wpAny _ _ (Builtin.Dict.addKeywords s.heap.objs.size [] >>= _) _ _ _
    rw [storedAllH_nil_of_nodup more hn] at hd'
    exact wpAny_bind (wpAny_pure (wpAny_pure ⟨rfl, h h' hd' fun b u e => (hs'.2 b (Nat.ne_of_lt (Heap.lt_size e))).trans (k0 _ _ e)⟩))
theorem is_stays {P : Program} {w : World} {h h' : Heap} {k : List Key} {b : Addr} (x : (tupleKind (mixKind P w)).is h k b) (hk : ∀ c u, h.get? c = some u → h'.get? c = some u) : (tupleKind (mixKind P w)).is h' k b :=
  HeapKind.Stays.all (tupleKind_stays (knd := mixKind P w)) h' (fun b o _ e => hk b o e) k b x
theorem kt_upd {H : Hp} {p : Addr} {u : HO} (hp : H p = none) {kvs : List (List Key × V)} {xs : List (List Key × Addr × Value)} (r : KT H kvs xs) : KT (upd H p u) kvs xs :=
  KT.keeps r fun b ys e => by rw [upd_ne (ne_of_none e hp)]; exact e
theorem kt_keys {H : Hp} : ∀ {kvs : List (List Key × V)} {xs : List (List Key × Addr × Value)}, KT H kvs xs → kvs.map (·.1) = xs.map (·.1)
  | _, _, .nil => rfl
  | _, _, .cons h t => by rw [List.map_cons, List.map_cons, kt_keys t, h.1]
theorem kt_mem {H : Hp} : ∀ {kvs : List (List Key × V)} {xs : List (List Key × Addr × Value)}, KT H kvs xs → ∀ x ∈ xs, H x.2.1 = some (.tup (x.1.map kV))
  | _, _, .nil, x, hx => nomatch hx
  | _, _, .cons h t, x, hx => by
    rcases List.mem_cons.mp hx with e | hx
    · subst e; rw [← h.1]; exact h.2.1
    · exact kt_mem t x hx
section
variable {X : Cx}
def rCopyT (P : Program) (w : World) : List V → Hp → VK → Prop := fun vs H Q => ∃ (d : Addr) (kvs : List (List Key × V)), vs = [.ref d] ∧ Rd H d (.dT kvs) ∧ ((kvs.map (·.1)).map (tupleKind (mixKind P w)).hash).Nodup ∧ ∀ p, H p = none → Q (.ref p) (upd H p (.dT kvs))
theorem cr_copyT (hu : X.A.units + 3 < cLine) : CallR X (.type "dict") (rCopyT X.prog X.w) := by
  intro pins s σ H vs us Q I r h
  obtain ⟨d, kvs, rfl, hd, hap, q⟩ := h
  obtain ⟨u, rfl, rx⟩ := vals1 r
  obtain rfl : u = .ref d := rx
  obtain ⟨z, hs, xs, rel, dd⟩ := dt_rd I.hok hd
  have hk := kt_keys rel
  have hl : kvs.length = xs.length := Paired.length rel
  have hp : H s.heap.objs.size = none := I.hok.fresh (Nat.le_refl _)
  refine call_copyT (knd := tupleKind (mixKind X.prog X.w)) (by show X.A.units + 1 + 1 < cLine; omega) hs dd (by rw [← hl]; exact z) (fun x hx => ?_) (by rw [hk] at hap; rw [List.map_map] at hap; exact hap) (fun h' k x hx => is_stays (key_of I.hok (kt_mem rel x hx)) k) fun h' dd' k => ?_
  · obtain ⟨_, its, _, ⟨o, ho, hc, _⟩⟩ := I.hok _ _ (kt_mem rel x hx)
    exact ⟨o, ho, hc⟩
  · obtain ⟨o, es, ep, h1, h2, h3, h4, h5, h6⟩ := dd'
    have hm : (s.heap.objs.size == sysModules) = false := beq_eq_false_iff_ne.mpr (Nat.ne_of_gt I.big)
    exact ⟨.ref s.heap.objs.size, upd H s.heap.objs.size (.dT kvs), I.laid (t' := s.toks) k (Nat.le_refl _) (show ObjOk X.prog X.w _ _ _ (.dT kvs) from ⟨z, hm, xs, kt_upd hp rel, o, es, ep, h1, h2, h3, h4, h6⟩), rfl, q _ hp⟩
/-- the pairs (key, value) of a list -/
def PairT (H : Hp) (p : Addr) (kv : List Key × V) : Prop := ∃ b, H p = some (.tup [.ref b, kv.2]) ∧ H b = some (.tup (kv.1.map kV))
def rDictPT : List V → Hp → VK → Prop := fun vs H Q => ∃ (a : Addr) (ps : List Addr) (kvs : List (List Key × V)), vs = [.ref a] ∧ H a = some (.lst (ps.map V.ref)) ∧ Paired (PairT H) ps kvs ∧ (kvs.map (·.1)).Nodup ∧ ∀ p, H p = none → Q (.ref p) (upd H p (.dT kvs))
theorem pairsT_of {pins : List (Addr × Obj)} {σ : St} {H : Hp} {s : Shared} (I : Inv X pins σ H s) : ∀ {ps : List Addr} {kvs : List (List Key × V)}, Paired (PairT H) ps kvs →
    ∃ xs : List (List Key × Addr × Value), KT H kvs xs ∧ xs.length = ps.length ∧ ∀ (j : Nat) (x : List Key × Addr × Value), xs[j]? = some x → ∃ p, ps[j]? = some p ∧ s.heap.IsTuple p #[.ref x.2.1, x.2.2]
  | [], [], .nil => ⟨[], .nil, rfl, fun j x e => by simp at e⟩
  | p :: ps, kv :: kvs, .cons ⟨b, h1, h2⟩ t => by
    obtain ⟨xs, k1, k2, k3⟩ := pairsT_of I t
    obtain ⟨_, its, rv, it⟩ := I.hok _ _ h1
    cases rv with
    | cons r1 rv =>
      cases rv with
      | cons r2 rv =>
        cases rv
        rename_i u1 u2
        obtain rfl : u1 = Value.ref b := r1
        refine ⟨(kv.1, b, u2) :: xs, .cons ⟨rfl, h2, r2⟩ k1, by rw [List.length_cons, List.length_cons, k2], fun j x e => ?_⟩
        cases j with
        | zero =>
          simp at e
          subst e
          exact ⟨p, rfl, it⟩
        | succ j =>
          simp at e
          obtain ⟨p', e1, e2⟩ := k3 j x e
          exact ⟨p', by simpa using e1, e2⟩
theorem cr_dictPT (hc : X.calm = true) (hu : X.A.units + 3 < cLine) : CallR X (.type "dict") rDictPT := by
  intro pins s σ H vs us Q I r h
  obtain ⟨a, ps, kvs, rfl, ha, hp, hn, q⟩ := h
  obtain ⟨u, rfl, rx⟩ := vals1 r
  obtain rfl : u = .ref a := rx
  obtain ⟨its, rv, pl, hz⟩ := I.list (.inl (.inl ha))
  have ei := refs_at rv
  subst ei
  rw [List.length_map] at hz
  obtain ⟨xs, rel, hl, hpr⟩ := pairsT_of I hp
  obtain ⟨o, n, ho, hcl, hd, hdat⟩ := pl
  have hk := kt_keys rel
  have hnew : H s.heap.objs.size = none := I.hok.fresh (Nat.le_refl _)
  have nd : (xs.map (·.1)).Nodup := by rw [← hk]; exact hn
  let prs : List (Value × Value) := xs.map fun x => (.ref x.2.1, x.2.2)
  let Ts : Nat → Addr := fun j => ps.getD j 0
  have at_ : ∀ (j : Nat) (k v : Value), prs[j]? = some (k, v) → ∃ x : List Key × Addr × Value, xs[j]? = some x ∧ k = Value.ref x.2.1 ∧ v = x.2.2 := fun j k v e => by
    rw [List.getElem?_map] at e
    cases ex : xs[j]? with
    | none => rw [ex] at e; cases e
    | some x => rw [ex] at e; cases e; exact ⟨x, rfl, rfl, rfl⟩
  refine call_dict_pairsH (knd := tupleKind (mixKind X.prog X.w)) (ps := xs) (PairArg.list a (ps.map Value.ref).toArray Ts prs) (I.ok.hd hc) (by show X.A.units + 1 + 1 < cLine; omega) ⟨⟨o, n, ho, hcl, hd, hdat⟩, ?_, ?_⟩ ⟨?_, ?_⟩ (fun h' k x hx => is_stays (key_of I.hok (kt_mem rel x hx)) fun b u e => k b u (Nat.ne_of_lt (Heap.lt_size e)) (fun z => nomatch z) e) ?_ fun h' tk dd' k => ?_
  · show (ps.map Value.ref).toArray.size = prs.length
    rw [List.size_toArray, List.length_map, List.length_map, hl]
  · intro j k v e
    obtain ⟨x, hx, rfl, rfl⟩ := at_ j k v e
    obtain ⟨p, e1, e2⟩ := hpr j x hx
    have eT : Ts j = p := by
      show ps.getD j 0 = p
      rw [List.getD_eq_getElem?_getD, e1]; rfl
    rw [eT]
    exact ⟨by simp [e1], .inl e2⟩
  · show xs.length = prs.length
    rw [List.length_map]
  · intro i key v e
    obtain ⟨x, hx, rfl, rfl⟩ := at_ i key v e
    exact ⟨x.1, x.2.1, hx, rfl⟩
  · show prs.length ≤ sizeLine
    rw [List.length_map, hl]
    exact hz
  · rw [storedAllH_nil_of_nodup xs nd] at dd'
    obtain ⟨o2, es, ep, h1, h2, h3, h4, h5, h6⟩ := dd'
    have hm : (s.heap.objs.size == sysModules) = false := beq_eq_false_iff_ne.mpr (Nat.ne_of_gt I.big)
    exact ⟨.ref s.heap.objs.size, upd H s.heap.objs.size (.dT kvs), I.laid (t' := tk) (fun b u e => k b u (fun z => nomatch z) e) (Nat.le_refl _) (show ObjOk X.prog X.w _ _ _ (.dT kvs) from ⟨by rw [rel.length, hl]; exact hz, hm, xs, kt_upd hnew rel, o2, es, ep, h1, h2, h3, h4, h6⟩), rfl, q _ hnew⟩
/-- len(d) -/
def rLenDT : List V → Hp → VK → Prop := fun xs H Q => ∃ (p : Addr) (kvs : List (List Key × V)), xs = [.ref p] ∧ Rd H p (.dT kvs) ∧ Q (.int ((kvs.length : Nat) : Int)) H
theorem cr_lenDT : CallR X (.builtin "len") rLenDT := by
  intro pins s σ H xs us Q I r h
  obtain ⟨p, kvs, rfl, hp, q⟩ := h
  obtain ⟨u, rfl, rx⟩ := vals1 r
  obtain rfl : u = .ref p := rx
  obtain ⟨z, hd, ys, rel, dd⟩ := dt_rd I.hok hp
  have hl : kvs.length = ys.length := Paired.length rel
  refine call_len_dictH hd dd (by rw [← hl]; rw [sizeLine_eq] at z; omega) ?_
  rw [← hl]
  exact ⟨.int ((kvs.length : Nat) : Int), H, I.tok _, ⟨_, rfl⟩, q⟩
end
/-! the readings -/
def pairsT : List D → Option (List (List Key) × List D)
  | [] => some ([], [])
  | .tup [k, v] :: r => (keyT k).bind fun q => (pairsT r).map fun z => (q :: z.1, v :: z.2)
  | _ => none
theorem pairsT_rel {K : PySem.W.Frag} {F : Hp} : ∀ {xs : List D} {vs : List V} {z : List (List Key) × List D}, RelDs K F xs vs → pairsT xs = some z → ∃ ps us, vs = ps.map V.ref ∧ RelDs K F z.2 us ∧ z.1.length = us.length ∧ Paired (PairT F) ps (z.1.zip us)
  | _, _, z, .nil, h => by cases h; exact ⟨[], [], rfl, .nil, rfl, .nil⟩
  | d :: xs, _, z, .cons r rr, h => by
    cases r with
    | @tup p ws ds h1 rs =>
      cases rs with
      | nil => cases h
      | cons r1 rs =>
        cases rs with
        | nil => cases h
        | cons r2 rs =>
          cases rs with
          | cons _ _ => cases h
          | nil =>
            rename_i k v1 v v2
            rw [pairsT] at h
            cases hk : keyT k with
            | none => rw [hk] at h; cases h
            | some q =>
              rw [hk] at h
              cases hp : pairsT xs with
              | none => rw [hp] at h; cases h
              | some z' =>
                rw [hp] at h
                cases h
                obtain ⟨ps, us, e1, e2, e3, e4⟩ := pairsT_rel rr hp
                subst e1
                obtain ⟨b, rfl, hb⟩ := keyT_rel r1 hk
                exact ⟨p :: ps, v2 :: us, rfl, .cons r2 e2, by rw [List.length_cons, List.length_cons, e3], by rw [List.zip_cons_cons]; exact .cons ⟨b, h1, hb⟩ e4⟩
    | _ => cases h
def kCopyT : List D → LH → DK → Prop := fun ds l Q => match ds with
  | [.dT ks ds] => hashOk ks ∧ newL (.dT ks ds) l Q
  | [.ref a] => getO l a fun o => match o with | .dT ks ds => hashOk ks ∧ newL (.dT ks ds) l Q | _ => False
  | _ => False
theorem newT_ok {K : PySem.W.Frag} {F Fr H : Hp} {l : LH} {Q : DK} {p : Addr} {ks : List (List Key)} {ds : List D} {vs : List V} (np : H p = none) (R : Rep K F Fr l H) (hl : ks.length = vs.length) (rr : RelDs K F ds vs) (q : newL (.dT ks ds) l Q) : LK K F Fr Q (.ref p) (upd H p (.dT (ks.zip vs))) :=
  ⟨F, .ref p, _, Same.refl F, .ref p, R.made np (show DOk K F _ p (.dT ks ds) from ⟨vs, rr, hl, upd_same⟩), q p (R.l_none np)⟩
theorem kCopyT_ok {X : Cx} : KCall X (rCopyT X.prog X.w) kCopyT := by
  intro F Fr l H Q ds vs Q' R rd hq q
  have key : ∀ {p : Addr} {ks : List (List Key)} {ds : List D} {vs : List V}, Rd H p (.dT (ks.zip vs)) → ks.length = vs.length → RelDs X.K F ds vs → hashOk ks ∧ newL (.dT ks ds) l Q → rCopyT X.prog X.w [.ref p] H Q' := by
    rintro p ks ds vs h hl rr ⟨ho, q⟩
    refine ⟨p, _, rfl, h, ?_, fun b nb => hq _ _ (newT_ok nb R hl rr q)⟩
    rw [List.map_fst_zip (by omega)]
    exact ho X.prog X.w
  cases rd with
  | nil => exact q.elim
  | cons r1 rr =>
    cases rr with
    | cons _ _ => cases r1 <;> exact q.elim
    | nil =>
      cases r1 with
      | dT h hl rr => exact key (.inr ⟨_, R.fz _ _ h⟩) hl rr q
      | ref a =>
        obtain ⟨o, ho, q⟩ := q
        cases o with
        | dT ks ds =>
          obtain ⟨vs, rr, hl, hH⟩ := (R.lv _ _ ho).2
          exact key (.inl hH) hl rr q
        | _ => exact q.elim
      | _ => exact q.elim
def kDictPT : List D → LH → DK → Prop := fun ds l Q => match ds with
  | [.lst xs] => ∃ z, pairsT xs = some z ∧ z.1.Nodup ∧ newL (.dT z.1 z.2) l Q
  | _ => False
theorem kDictPT_ok {X : Cx} : KCall X rDictPT kDictPT := by
  intro F Fr l H Q ds vs Q' R rd hq q
  cases rd with
  | nil => exact q.elim
  | cons r1 rr =>
    cases rr with
    | cons _ _ => cases r1 <;> exact q.elim
    | nil =>
      cases r1 with
      | @lst a ws xs h1 rx =>
        obtain ⟨z, hz, nd, q⟩ := q
        obtain ⟨ps, us, e1, e2, e3, e4⟩ := pairsT_rel rx hz
        subst e1
        refine ⟨a, ps, z.1.zip us, rfl, R.fz _ _ h1, ?_, by rw [List.map_fst_zip (by omega)]; exact nd, fun b nb => hq _ _ (newT_ok nb R e3 e2 q)⟩
        have go : ∀ {ps : List Addr} {kvs : List (List Key × V)}, Paired (PairT F) ps kvs → Paired (PairT H) ps kvs := by
          intro ps kvs q
          induction q with
          | nil => exact .nil
          | cons a _ ih =>
            obtain ⟨b, h1, h2⟩ := a
            exact .cons ⟨b, R.fz _ _ h1, R.fz _ _ h2⟩ ih
        exact go e4
      | _ => exact q.elim
def kLenDT : List D → LH → DK → Prop := fun ds l Q => match ds with
  | [.dT ks ds] => Q (.int ks.length) l
  | [.ref a] => getO l a fun o => match o with | .dT ks ds => Q (.int ks.length) l | _ => False
  | _ => False
theorem kLenDT_ok {X : Cx} : KCall X rLenDT kLenDT := by
  intro F Fr l H Q ds vs Q' R rd hq q
  have key : ∀ {p : Addr} {ks : List (List Key)} {ds : List D} {vs : List V}, Rd H p (.dT (ks.zip vs)) → ks.length = vs.length → Q (.int ks.length) l → rLenDT [.ref p] H Q' := by
    intro p ks ds vs h hl q
    refine ⟨p, _, rfl, h, hq _ _ (LK.mk (.int _) R ?_)⟩
    rw [List.length_zip, ← hl, Nat.min_self]
    exact q
  cases rd with
  | nil => exact q.elim
  | cons r1 rr =>
    cases rr with
    | cons _ _ => cases r1 <;> exact q.elim
    | nil =>
      cases r1 with
      | @dT _ _ _ _ ds' h hl rr => exact key (ds := ds') (.inr ⟨_, R.fz _ _ h⟩) hl q
      | ref a =>
        obtain ⟨o, ho, q⟩ := q
        cases o with
        | dT ks ds =>
          obtain ⟨vs, rr, hl, hH⟩ := (R.lv _ _ ho).2
          exact key (ds := ds) (.inl hH) hl q
        | _ => exact q.elim
      | _ => exact q.elim
theorem dL_uL' {l : LH} {b : Addr} {o : DO} (nb : l b = none) : dL (uL l b o) b = l := by
  funext c
  unfold dL
  by_cases hc : c = b
  · subst hc; rw [if_pos rfl, nb]
  · rw [if_neg hc, uL_ne hc]
/-- made and frozen at once -/
theorem fz_newT {l : LH} {ks : List (List Key)} {ds : List D} {Q : DK} (h : Q (.dT ks ds) l) : newL (.dT ks ds) l fun d l1 => fzN 1 d l1 Q := fun a na => ⟨_, uL_same, by rw [dL_uL' na]; exact h⟩
end
end DL

namespace DL
open PySem PySem.Spec PyProof.Rows L2
/-! ### < over data -/
section
variable {X : Cx} {a b e o : Expr} {ta tb te to : DTE} {pos p apos cpos : Pos} {k : Nat}
/-! ### x in xs, data; x in s, texts -/
/-! ### str of an int too -/
/-! ### xs.index(x) -/
/-! ### len, of dicts too -/
def kLen2 : List D → LH → DK → Prop := fun ds l Q => match ds with
  | [.dT ks _] => Q (.int ks.length) l
  | [.ref a] => getO l a fun o => match o with | .dT ks _ => Q (.int ks.length) l | .lst xs => Q (.int xs.length) l | _ => False
  | ds => kLen ds l Q
theorem kLen2_ok : KCall X (fun xs H Q => ((∃ p ys, xs = [.ref p] ∧ (SqL X.K H p ys ∨ SqT X.K H p ys) ∧ Q (.int ys.length) H) ∨ ∃ z, xs = [.str z] ∧ z.length ≤ sizeLine ∧ Q (.int z.length) H) ∨ rLenDT xs H Q) kLen2 := by
  intro F Fr l H Q ds vs Q' R rd hq q
  have old : ∀ {ds : List D} {vs : List V}, RelDs X.K F ds vs → kLen ds l Q → ((∃ p ys, vs = [.ref p] ∧ (SqL X.K H p ys ∨ SqT X.K H p ys) ∧ Q' (.int ys.length) H) ∨ ∃ z, vs = [.str z] ∧ z.length ≤ sizeLine ∧ Q' (.int z.length) H) ∨ rLenDT vs H Q' := fun r q => .inl (kLen_ok F Fr l H Q _ _ Q' R r hq q)
  cases rd with
  | nil => exact old .nil q
  | @cons d v ds' vs' r1 rr =>
    cases rr with
    | cons r2 rr =>
      have := old (.cons r1 (.cons r2 rr)) (by cases d <;> exact q)
      exact this
    | nil =>
      cases r1 with
      | @dT _ _ _ _ ds' h hl rr => exact .inr (kLenDT_ok F Fr l H Q _ _ Q' R (.cons (.dT h hl rr) .nil) hq q)
      | ref a =>
        obtain ⟨o, ho, q⟩ := q
        cases o with
        | dT ks ds => exact .inr (kLenDT_ok F Fr l H Q _ _ Q' R (.cons (.ref a) .nil) hq ⟨_, ho, q⟩)
        | lst xs => exact old (.cons (.ref a) .nil) ⟨_, ho, q⟩
        | _ => exact q.elim
      | non => exact old (.cons .non .nil) q
      | bl b => exact old (.cons (.bl b) .nil) q
      | int i => exact old (.cons (.int i) .nil) q
      | str b => exact old (.cons (.str b) .nil) q
      | tup h1 h2 => exact old (.cons (.tup h1 h2) .nil) q
      | scr h1 => exact old (.cons (.scr h1) .nil) q
      | lst h1 h2 => exact old (.cons (.lst h1 h2) .nil) q
      | dK h1 h2 h3 => exact old (.cons (.dK h1 h2 h3) .nil) q
      | exc h1 h2 => exact old (.cons (.exc h1 h2) .nil) q
      | exc1 h1 h2 h3 h4 => exact old (.cons (.exc1 h1 h2 h3 h4) .nil) q
      | kt h1 h2 h3 h4 => exact old (.cons (.kt h1 h2 h3 h4) .nil) q
theorem de_len2 (hg : Gl X "len") (hm : X.mg "len" = none) (h : DE X e te) (he : starEach [e] X.env = (false, eval e X.env) :: starEach [] X.env := by rfl) : DE X (.Call (.Name "len" p) [e] [] pos) (dCall kLen2 (aCons te aNil)) :=
  de_callB (call_len2.or cr_lenDT) kLen2_ok hg hm PySem.boot_len (da_cons h da_nil he) (by decide) (by decide) he
end
end DL

namespace DL
open PySem PySem.Spec PyProof.Rows L2
/-! ### written data, as one -/
def litL (f : Expr → D → Bool) : List Expr → List D → Bool
  | [], [] => true
  | e :: es, d :: ds => f e d && litL f es ds
  | _, _ => false
def litN : Nat → Expr → D → Bool
  | n + 1, .Tuple es _ _, .tup ds => decide (es.length ≤ 1000) && litL (litN n) es ds
  | n + 1, .List es _, .lst ds => decide (es.length ≤ 1000) && litL (litN n) es ds
  | _, .Constant (.int i) _ _, .int j => decide (i = j)
  | _, .Constant (.bool i) _ _, .bl j => i == j
  | _, .Constant (.str i) _ _, .str j => decide (i = j)
  | _, .Constant .none _ _, .non => true
  | _, .UnaryOp .USub (.Constant (.int i) _ _) _, .int j => decide (-i = j)
  | _, _, _ => false
section
variable {X : Cx}
abbrev LitOk (X : Cx) (e : Expr) (d : D) : Prop := DE X e (dC d) ∧ ∀ es, starEach (e :: es) X.env = (false, eval e X.env) :: starEach es X.env
theorem litL_ok {f : Expr → D → Bool} (hf : ∀ {e : Expr} {d : D}, f e d = true → LitOk X e d) : ∀ {es : List Expr} {ds : List D}, litL f es ds = true → es.length = ds.length ∧ DA X es (fun _ l Q => Q ds l)
  | [], [], _ => ⟨rfl, da_nil⟩
  | [], _ :: _, h => by cases h
  | _ :: _, [], h => by cases h
  | e :: es, d :: ds, h => by
    rw [litL, Bool.and_eq_true] at h
    obtain ⟨h1, h2⟩ := hf h.1
    obtain ⟨h3, h4⟩ := litL_ok hf h.2
    exact ⟨by rw [List.length_cons, List.length_cons, h3], da_cons h1 h4 (h2 es)⟩
theorem litN_ok : ∀ (n : Nat) {e : Expr} {d : D}, litN n e d = true → LitOk X e d := by
  intro n
  induction n with
  | zero =>
    intro e d h
    unfold litN at h
    split at h
    · exact absurd ‹0 = Nat.succ _› (by omega)
    · exact absurd ‹0 = Nat.succ _› (by omega)
    · obtain rfl := of_decide_eq_true h; exact ⟨de_int, fun _ => rfl⟩
    · obtain rfl := beq_iff_eq.mp h; exact ⟨de_bl, fun _ => rfl⟩
    · obtain rfl := of_decide_eq_true h; exact ⟨de_str, fun _ => rfl⟩
    · exact ⟨de_non, fun _ => rfl⟩
    · obtain rfl := of_decide_eq_true h; exact ⟨de_neg de_int, fun _ => rfl⟩
    · cases h
  | succ n ih =>
    have T : ∀ {es : List Expr} {k : Nat} {pos : Pos} {ds : List D}, (decide (es.length ≤ 1000) && litL (litN n) es ds) = true → DE X (.Tuple es k pos) (dC (.tup ds)) := by
      intro es k pos ds h
      rw [Bool.and_eq_true, decide_eq_true_eq] at h
      obtain ⟨h1, h2⟩ := litL_ok ih h.2
      exact ⟨fun F Fr env l σ H Q hE hR ht => (de_tup h2).run F Fr env l σ H Q hE hR ⟨Nat.le_trans (by omega) (show 1000 ≤ sizeLine by decide), ht⟩⟩
    have L : ∀ {es : List Expr} {pos : Pos} {ds : List D}, (decide (es.length ≤ 1000) && litL (litN n) es ds) = true → DE X (.List es pos) (dC (.lst ds)) := by
      intro es pos ds h
      rw [Bool.and_eq_true, decide_eq_true_eq] at h
      obtain ⟨h1, h2⟩ := litL_ok ih h.2
      exact ⟨fun F Fr env l σ H Q hE hR ht => (de_lst h2).run F Fr env l σ H Q hE hR ⟨Nat.le_trans (by omega) (show 1000 ≤ sizeLine by decide), ht⟩⟩
    intro e d h
    unfold litN at h
    split at h
    · have hn := ‹n + 1 = Nat.succ _›
      cases hn
      exact ⟨T h, fun _ => rfl⟩
    · have hn := ‹n + 1 = Nat.succ _›
      cases hn
      exact ⟨L h, fun _ => rfl⟩
    · obtain rfl := of_decide_eq_true h; exact ⟨de_int, fun _ => rfl⟩
    · obtain rfl := beq_iff_eq.mp h; exact ⟨de_bl, fun _ => rfl⟩
    · obtain rfl := of_decide_eq_true h; exact ⟨de_str, fun _ => rfl⟩
    · exact ⟨de_non, fun _ => rfl⟩
    · obtain rfl := of_decide_eq_true h; exact ⟨de_neg de_int, fun _ => rfl⟩
    · cases h
theorem de_lit {e : Expr} {d : D} (n : Nat) (h : litN n e d = true) : DE X e (dC d) := (litN_ok n h).1
end
end DL

namespace DL
open PySem PySem.Spec PyProof.Rows L2
/-! ### list.insert -/
section
variable {X : Cx}
/-! ### list(range(n)) -/
/-! ### range downwards -/
theorem room3 {k : Nat} {A : Around} (hr : Room k A) : A.units + 3 < cLine := by have := hr.un; omega
/-! ### for over a list that may be written, as long as it stays -/
def forR (a : Addr) (all : List D) (g : DTG) (tb : DTS) : List D → DTS
  | [], E, env, l => l a = some (.lst all) ∧ E.nx env l
  | d :: ds, E, env, l => l a = some (.lst all) ∧ g d env l fun env1 l1 => tb ⟨forR a all g tb ds E, E.rt, E.nx, forR a all g tb ds E⟩ env1 l1
theorem forR_at {a : Addr} {all : List D} {g : DTG} {tb : DTS} {ds : List D} {E : DEnds} {env : DSt} {l : LH} (h : forR a all g tb ds E env l) : l a = some (.lst all) := by
  cases ds <;> exact h.1
def sForR (te : DTE) (g : DTG) (tb : DTS) : DTS := fun E env l => te env l fun d l1 => match d with
  | .lst ds => forL g tb ds E env l1
  | .tup ds => forL g tb ds E env l1
  | .kt ds => forL g tb ds E env l1
  | .ref a => getO l1 a fun o => match o with | .lst ds => forR a ds g tb ds E env l1 | _ => False
  | _ => False
def LI2 (K : PySem.W.Frag) (F Fr : Hp) (g : DTG) (tb : DTS) (E : DEnds) (env : DSt) : It → Hp → Prop := fun J H => ∃ F1 l1, Same F F1 ∧ Rep K F1 Fr l1 H ∧
  ((∃ ds, JOk K F1 J ds ∧ forL g tb ds E env l1) ∨ ∃ a ds, J = Itl K a ∧ forR a ds g tb ds E env l1)
theorem ds_forR {tg e : Expr} {body : List Stmt} {te : DTE} {g : DTG} {tb : DTS} {vs : List Nat} (hp : PassesOwn (model X.prog X.w) X.A X.env X.xe) (hc : X.calm = true) (hi : DE X e te) (hg : DG X tg vs g) (hb : DSs X body tb)
    (hs : ∀ x, foldedSetIterable e X.env x = pure x := by intro _; rfl) : DS X (.For tg e body [] pos) (sForR te g tb) := by
  refine ⟨?_⟩
  intro F Fr env l σ H E he hr ht
  refine (ps_for hp hc piW pgW pssW hs).ws ?_
  have w : WI X tg e σ H (LI2 X.K F Fr g tb E env) := fun pins s I => by
    refine thn (hi F Fr env l σ H _ he hr ht pins s I) fun v s1 ⟨x, H1, I1, r1, F1, d, l1, s1', rd, R1, q1⟩ => ?_
    cases rd with
    | @tup p vs ds h1 rr => cases r1; exact it_tup I1 (tq (R1.fz _ _ h1)) ⟨F1, l1, s1', R1, .inl ⟨ds, jok_tup (tq h1) rr, q1⟩⟩
    | @kt p od vs ds h1 _ _ rr => cases r1; exact it_tup I1 (.inl (.inr ⟨_, R1.fz _ _ h1⟩)) ⟨F1, l1, s1', R1, .inl ⟨ds, jok_tup (.inl (.inr ⟨_, h1⟩)) rr, q1⟩⟩
    | @lst p vs ds h1 rr => cases r1; exact it_list I1 (.inl (.inl (R1.fz _ _ h1))) ⟨F1, l1, s1', R1, .inl ⟨ds, jok_list (.inl (.inl h1)) rr, q1⟩⟩
    | ref a =>
      obtain ⟨o, ho, q⟩ := q1
      cases o with
      | lst ds =>
        obtain ⟨ws, rw', h1⟩ := (R1.lv _ _ ho).2
        cases r1
        exact it_list I1 (.inl (.inl h1)) ⟨F1, l1, s1', R1, .inr ⟨a, ds, rfl, q⟩⟩
      | _ => exact q.elim
    | _ => exact q1.elim
  refine w.mono fun J H1 ⟨F1, l1, s1, R1, q1⟩ => ?_
  have body_ok : ∀ {F2 : Hp} {l2 : LH} {σ2 : St} {H2 : Hp} {env2 : DSt} {d : D} {x : V} {Ek : DEnds} {N : St → Hp → Prop}, Same F1 F2 → RepE X.K F2 env2 σ2 → Rep X.K F2 Fr l2 H2 → RelD X.K F2 d x → Ek.rt = E.rt → Ek.bk = E.nx →
      (g d env2 l2 fun env1 l1 => tb Ek env1 l1) → (∀ σ5 H5 F5 env5 l5, Same F2 F5 → RepE X.K F5 env5 σ5 → Rep X.K F5 Fr l5 H5 → (Ek.nx env5 l5 ∨ Ek.ct env5 l5) → N σ5 H5) →
      WG X tg x σ2 H2 fun σ' H' => WSs X body { LE X.K F Fr E with nx := N, ct := N, bk := (LE X.K F Fr E).nx } σ' H' := by
    intro F2 l2 σ2 H2 env2 d x Ek N s2 he2 R2 rx e1 e2 q2 hN
    refine (hg F2 Fr env2 l2 σ2 H2 _ _ _ he2 R2 rx q2).mono fun σ4 H4 ⟨_, F4, env4, l4, s4, he4, R4, q4⟩ => ?_
    have S : Same F1 F4 := s2.trans s4
    refine (hb F4 Fr env4 l4 σ4 H4 _ he4 R4 q4).mono (fun σ5 H5 q => ?_) (fun _ _ q => ?_) (fun _ _ q => ?_) (fun σ5 H5 q => ?_)
    · obtain ⟨F5, env5, l5, s5, he5, R5, q5⟩ := q
      exact hN _ _ F5 env5 l5 (s4.trans s5) he5 R5 (.inl q5)
    · rw [show (LE X.K F4 Fr Ek).rt = LK X.K F4 Fr Ek.rt from rfl, e1] at q
      exact LK.weak (s1.trans S) q
    · rw [show (LE X.K F4 Fr Ek).bk = LS X.K F4 Fr Ek.bk from rfl, e2] at q
      exact LS.weak (s1.trans S) q
    · obtain ⟨F5, env5, l5, s5, he5, R5, q5⟩ := q
      exact hN _ _ F5 env5 l5 (s4.trans s5) he5 R5 (.inr q5)
  rcases q1 with ⟨ds, jk, q1⟩ | ⟨a, ds, ej, q1⟩
  · refine ⟨fun i m σ H => m = ds.length - i ∧ i ≤ ds.length ∧ ∃ F' env l, Same F1 F' ∧ RepE X.K F' env σ ∧ Rep X.K F' Fr l H ∧ forL g tb (ds.drop i) E env l, ⟨_, rfl, Nat.zero_le _, F1, env, l1, Same.refl _, he.mono s1, R1, q1⟩, ?_⟩
    rintro i m σ H ⟨rfl, hi, F2, env, l, s2, he2, R2, q2⟩
    obtain ⟨j1, j2⟩ := jk i F2 Fr l H s2 R2
    by_cases hlt : i < ds.length
    · rw [List.drop_eq_getElem_cons hlt] at q2
      obtain ⟨go, y⟩ := j2 ds[i] (List.getElem?_eq_getElem hlt)
      refine .inr ⟨go, fun σ H => ∃ F' env l, Same F1 F' ∧ RepE X.K F' env σ ∧ Rep X.K F' Fr l H ∧ forL g tb (ds.drop (i + 1)) E env l, fun σ' H' h => ⟨_, by omega, rfl, hlt, h⟩, fun x H' hy => ?_⟩
      obtain ⟨F3, s3, rx, R3⟩ := y x H' hy
      refine body_ok (Ek := ⟨forL g tb (ds.drop (i + 1)) E, E.rt, E.nx, forL g tb (ds.drop (i + 1)) E⟩) (s2.trans s3) (he2.mono s3) R3 rx rfl rfl q2 fun σ5 H5 F5 env5 l5 s5 he5 R5 q5 => ⟨F5, env5, l5, (s2.trans s3).trans s5, he5, R5, by rcases q5 with q5 | q5 <;> exact q5⟩
    · have e : i = ds.length := by omega
      subst e
      rw [List.drop_length] at q2
      exact .inl ⟨j1 (Nat.le_refl _), F2, env, l, s1.trans s2, he2, R2, q2⟩
  · subst ej
    refine ⟨fun i m σ H => m = ds.length - i ∧ i ≤ ds.length ∧ ∃ F' env l, Same F1 F' ∧ RepE X.K F' env σ ∧ Rep X.K F' Fr l H ∧ forR a ds g tb (ds.drop i) E env l, ⟨_, rfl, Nat.zero_le _, F1, env, l1, Same.refl _, he.mono s1, R1, q1⟩, ?_⟩
    rintro i m σ H ⟨rfl, hi, F2, env, l, s2, he2, R2, q2⟩
    obtain ⟨vs, rv, hq⟩ := (R2.lv _ _ (forR_at q2)).2
    have q : SqL X.K H a vs := .inl (.inl hq)
    by_cases hlt : i < ds.length
    · rw [List.drop_eq_getElem_cons hlt] at q2
      obtain ⟨v, hv, rx⟩ := rv.get (List.getElem?_eq_getElem hlt)
      refine .inr ⟨⟨vs, v, q, hv⟩, fun σ H => ∃ F' env l, Same F1 F' ∧ RepE X.K F' env σ ∧ Rep X.K F' Fr l H ∧ forR a ds g tb (ds.drop (i + 1)) E env l, fun σ' H' h => ⟨_, by omega, rfl, hlt, h⟩, fun x H' hy => ?_⟩
      obtain ⟨e, y⟩ := hy
      subst e
      have e := y vs q
      rw [hv] at e
      cases e
      refine body_ok (Ek := ⟨forR a ds g tb (ds.drop (i + 1)) E, E.rt, E.nx, forR a ds g tb (ds.drop (i + 1)) E⟩) s2 he2 R2 rx rfl rfl q2.2 fun σ5 H5 F5 env5 l5 s5 he5 R5 q5 => ⟨F5, env5, l5, s2.trans s5, he5, R5, by rcases q5 with q5 | q5 <;> exact q5⟩
    · have e : i = ds.length := by omega
      subst e
      rw [List.drop_length] at q2
      exact .inl ⟨⟨vs, q, by rw [← rv.length]; exact Nat.le_refl _⟩, F2, env, l, s1.trans s2, he2, R2, q2.2⟩
/-! ### a new list of two, to be changed -/
def kAddM : D → D → LH → DK → Prop := fun x y l Q => match x, y with
  | .lst xs, .lst ys => xs.length + ys.length ≤ sizeLine ∧ newL (.lst (xs ++ ys)) l Q
  | _, _ => False
theorem kAddM_ok : KOp X (rAdd4 X.K) kAddM := by
  intro F Fr l H Q d e v u Q' R rd re hq q
  cases rd with
  | @lst p vs ds h1 r1 =>
    cases re <;> try exact q.elim
    rename_i p2 vs2 ds2 h2 r2
    exact .inr (.inr (.inl ⟨p, p2, vs, vs2, rfl, rfl, R.fz _ _ h1, R.fz _ _ h2, by rw [← r1.length, ← r2.length]; exact q.1, fun p np => hq _ _ (LK.mut np R (r1.append r2) q.2)⟩))
  | _ => exact q.elim
def dAddM : DTE → DTE → DTE := dOp kAddM
theorem de_addM {a b : Expr} {ta tb : DTE} {pos : Pos} (ha : DE X a ta) (hb : DE X b tb) : DE X (.BinOp a .Add b pos) (dAddM ta tb) := de_op op_add4 kAddM_ok ha hb
end
end DL

namespace DL
open PySem PySem.Spec PyProof.Rows L2
/-! the end: the law's def, called by the claim -/
end DL

/-! != of two lists of dicts whose keys are tuples, whose values are numbers -/
namespace PySem.SeqAt
open AutoSeq1 (wpAny_loadPart')
open MeetsSeq MeetsSeq2 MeetsSeq3 SeqRoads2
section
variable {prog : Program} {w : World}
end
end PySem.SeqAt
namespace PySem.W
open Lean Elab Tactic Meta PySem PySem.Calls PyProof.Rows PyProof.V PySem.Spec
section
variable {prog : Program} {w : World} {K : Type} [DecidableEq K] {knd : HeapKind prog w K} {A : Around} {E : Value → Shared → Prop} {s : Shared}
end
end PySem.W
namespace DL
open PySem PySem.Spec PyProof.Rows L2
section
variable {X : Cx} {a b : Expr} {ta tb : DTE} {pos : Pos} {k : Nat}
theorem vals_refs : ∀ {as : List Addr} {us : List Value}, Vals (as.map V.ref) us → us = as.map Value.ref
  | [], [], .nil => rfl
  | a :: as, u :: us, .cons r rr => by
    have e : u = .ref a := r
    rw [e, vals_refs rr]
    rfl
end
end DL

/-! for i, x in enumerate(t), t a tuple -/
namespace PySem
open Sem (wp)
open AutoSeq1 (wpAny_loadPart')
section
variable {prog : Program} {w : World} {A : Around} {E : Value → Shared → Prop} {s : Shared}
end
end PySem
namespace DL
open PySem PySem.Spec PyProof.Rows L2
section
variable {X : Cx}
end
end DL

/-! a comprehension over a list that may be written, as long as it is as it was -/
namespace DL
open PySem PySem.Spec PyProof.Rows L2
section
variable {X : Cx} {elt tg iter : Expr} {ifs : List Expr} {scope : Scope} {own : List (Str × Nat)} {pos : Pos} {tx : DTE} {g : DTG} {tt : DTT} {te : DTE}
variable (hc : X.calm = true) (hN : X.N.Nodup) (hi : DE X iter tx) (ok : BlkOk X.N X.env.scope scope own)
    (hg : ∀ (s : Shared) (H : Hp) (C : Addr) (cl : List (Str × Addr)) (fp : List Addr), DG (X.blk s H scope (compEnvC scope cl C X.env) fp) tg (own.map (·.2)) g)
    (ht : ∀ (s : Shared) (H : Hp) (C : Addr) (cl : List (Str × Addr)) (fp : List Addr), DTs (X.blk s H scope (compEnvC scope cl C X.env) fp) ifs tt)
    (he : ∀ (s : Shared) (H : Hp) (C : Addr) (cl : List (Str × Addr)) (fp : List Addr), DE (X.blk s H scope (compEnvC scope cl C X.env) fp) elt te)
include hi hg ht he
include hc hN ok
end
end DL

/-! enumerate of a tuple in a comprehension; is True; lists of lists that may be written, compared -/
namespace DL
open PySem PySem.Spec PyProof.Rows L2
section
variable {X : Cx}
/-! is True -/
/-! a list of lists that may be written, as they stand -/
end
end DL

/-! min(list of numbers, default=number) -/
namespace DL
open PySem PySem.Spec PyProof.Rows L2
section
variable {X : Cx} {k : Nat}
end
end DL

/-! list(enumerate(x)), x a list or a tuple -/
namespace PySem.W
open PySem PySem.Calls PyProof.Rows PyProof.V PySem.Spec
section
variable {prog : Program} {w : World} {A : Around} {E : Value → Shared → Prop} {s : Shared}
end
/-- what stands while list() takes the pairs -/
def EnSt (St : Nat → Heap → Prop) (e it S : Addr) (i : Nat) (h : Heap) : Prop := St i h ∧ ((∃ old, IsEnum h e it i old) ∨ ∃ old T f oT, IsEnumHeld h e it i old T f ∧ h.get? T = some oT ∧ T ≠ e ∧ T ≠ it ∧ T ≠ S)
structure EnG (P : Nat → Value → Prop) (lo : Addr) (h : Heap) (as : List Addr) : Prop where
  rise : as.Pairwise (· < ·)
  above : ∀ a ∈ as, lo ≤ a
  pairs : ∀ (j : Nat) (a : Addr), as[j]? = some a → ∃ t x, P j x ∧ h.get? a = some { cls := .type "tuple", data := .seq #[.int j t, x] }
theorem EnG.there {P : Nat → Value → Prop} {lo : Addr} {h : Heap} {as : List Addr} (g : EnG P lo h as) {a : Addr} (ha : a ∈ as) : a < h.objs.size := by
  obtain ⟨j, hj⟩ := List.mem_iff_getElem?.mp ha
  obtain ⟨_, _, _, e⟩ := g.pairs j a hj
  exact Heap.lt_size e
section
variable {prog : Program} {w : World} {A : Around} {s : Shared} {R : Result → Shared → Prop} {fp : List Addr} {n : Nat} {P : Nat → Value → Prop} {St : Nat → Heap → Prop}
theorem EnSt.keep {e it S : Addr} {i : Nat} {h h' : Heap} (D : Draws prog w A.in1 it fp n P St) (hSf : S ∉ fp) (hSe : S ≠ e) (x : EnSt St e it S i h) (hk : ∀ b o, b ≠ S → h.get? b = some o → h'.get? b = some o) : EnSt St e it S i h' := by
  obtain ⟨st, he⟩ := x
  refine ⟨D.frame _ _ _ st fun b hb o y => hk b o (fun z => hSf (z ▸ hb)) y, ?_⟩
  rcases he with ⟨old, he⟩ | ⟨old, T, f, oT, he, hT, r1, r2, r3⟩
  · exact .inl ⟨old, hk _ _ (Ne.symm hSe) he⟩
  · exact .inr ⟨old, T, f, oT, hk _ _ (Ne.symm hSe) he, hk _ _ r3 hT, r1, r2, r3⟩
end
section
variable {prog : Program} {w : World} {A : Around} {E : Value → Shared → Prop} {s : Shared}
variable {R : Result → Shared → Prop} {fp : List Addr} {n : Nat} {P : Nat → Value → Prop} {St : Nat → Heap → Prop}
end
end PySem.W

/-! list(enumerate(x)) as an expression -/
namespace DL
open PySem PySem.Spec PyProof.Rows L2
section
variable {X : Cx}
end
end DL

/-! list(zip(x, y)), x and y lists -/
namespace PySem.W
open PySem PySem.Calls PyProof.Rows PyProof.V PySem.Spec
/-- what stands while list() takes the pairs of two lists -/
def ZlSt (z TI TO i1 i2 l1 l2 S : Addr) (xs ys : Array Value) (i : Nat) (h : Heap) : Prop :=
  IsPair h TI (.ref i1) (.ref i2) ∧ h.IsListIter i1 l1 i ∧ h.IsListIter i2 l2 i ∧ h.IsList l1 xs ∧ h.IsList l2 ys ∧
    ((IsZip h z TI TO .none ∧ ∃ a b, IsPair h TO a b) ∨ ∃ T f oT, IsZipHeld h z TI TO T f ∧ h.get? T = some oT ∧ T ≠ z ∧ T ≠ i1 ∧ T ≠ i2 ∧ T ≠ S)
def ZlW (z TO i1 i2 : Addr) : List Addr := [z, TO, i1, i2]
structure ZlG (xs ys : Array Value) (lo : Addr) (h : Heap) (as : List Addr) : Prop where
  rise : as.Pairwise (· < ·)
  above : ∀ a ∈ as, lo ≤ a
  pairs : ∀ (j : Nat) (a : Addr), as[j]? = some a → ∃ x y, (xs[j]? = some x ∧ ys[j]? = some y) ∧ h.get? a = some { cls := .type "tuple", data := .seq #[x, y] }
theorem ZlG.there {xs ys : Array Value} {lo : Addr} {h : Heap} {as : List Addr} (g : ZlG xs ys lo h as) {a : Addr} (ha : a ∈ as) : a < h.objs.size := by
  obtain ⟨j, hj⟩ := List.mem_iff_getElem?.mp ha
  obtain ⟨_, _, _, e⟩ := g.pairs j a hj
  exact Heap.lt_size e
section
variable {prog : Program} {w : World} {A : Around} {s : Shared} {R : Result → Shared → Prop} {z TI TO i1 i2 l1 l2 S : Addr} {xs ys : Array Value}
theorem ZlSt.keep {i : Nat} {h h' : Heap} (hS : S ∉ [z, TI, TO, i1, i2, l1, l2]) (st : ZlSt z TI TO i1 i2 l1 l2 S xs ys i h) (hk : ∀ b o, b ≠ S → h.get? b = some o → h'.get? b = some o) : ZlSt z TI TO i1 i2 l1 l2 S xs ys i h' := by
  simp only [List.mem_cons, List.not_mem_nil, or_false, not_or] at hS
  obtain ⟨dz, dTI, dTO, di1, di2, dl1, dl2⟩ := hS
  obtain ⟨hTI, h1, h2, hl1, hl2, hz⟩ := st
  refine ⟨hk _ _ (Ne.symm dTI) hTI, h1.at fun o e => hk _ o (Ne.symm di1) e, h2.at fun o e => hk _ o (Ne.symm di2) e, hl1.at fun o e => hk _ o (Ne.symm dl1) e, hl2.at fun o e => hk _ o (Ne.symm dl2) e, ?_⟩
  rcases hz with ⟨hz, a, b, hTO⟩ | ⟨T, f, oT, hz, hT, r1, r2, r3, r4⟩
  · exact .inl ⟨hk _ _ (Ne.symm dz) hz, a, b, hk _ _ (Ne.symm dTO) hTO⟩
  · exact .inr ⟨T, f, oT, hk _ _ (Ne.symm dz) hz, hk _ _ r4 hT, r1, r2, r3, r4⟩
theorem zl_item {i : Nat} {E : Value → Shared → Prop} {Q : Option Value → Shared → Prop} (D : ZipApart z TI TO i1 i2 l1 l2) (st : ZlSt z TI TO i1 i2 l1 l2 S xs ys i s.heap) (hi : i < min xs.size ys.size) (hds : S < s.heap.objs.size)
    (hQ : ∀ x y h', (xs[i]? = some x ∧ ys[i]? = some y) → ZlSt z TI TO i1 i2 l1 l2 S xs ys (i + 1) h' → h'.get? s.heap.objs.size = some { cls := .type "tuple", data := .seq #[x, y] } → h'.objs.size = s.heap.objs.size + 1 →
      (∀ b o, b ∉ ZlW z TO i1 i2 → s.heap.get? b = some o → h'.get? b = some o) → Q (some (.ref s.heap.objs.size)) { s with heap := h' }) : wpAny (model prog w) A (pyNext (.ref z)) Q E s := by
  obtain ⟨hTI, h1, h2, hl1, hl2, hz⟩ := st
  have hix : i < xs.size := Nat.lt_of_lt_of_le hi (Nat.min_le_left ..)
  have hiy : i < ys.size := Nat.lt_of_lt_of_le hi (Nat.min_le_right ..)
  have ex := Array.getElem?_eq_getElem hix
  have ey := Array.getElem?_eq_getElem hiy
  have lt : ∀ {c o}, s.heap.get? c = some o → s.heap.objs.size ≠ c := fun e => Nat.ne_of_gt (Heap.lt_size e)
  have n1 : s.heap.objs.size ≠ i1 := let ⟨_, e, _⟩ := h1; lt e
  have n2 : s.heap.objs.size ≠ i2 := let ⟨_, e, _⟩ := h2; lt e
  rcases hz with ⟨hz, a, b, hTO⟩ | ⟨T, f, oT, hz, hT, r1, r2, r3, r4⟩
  · refine wpAny_pyNext_zip_item D hz hTI hTO h1 h2 hl1 hl2 ex ey fun h' a1 a2 a3 a4 a5 a6 hk => ?_
    exact hQ _ _ h' ⟨ex, ey⟩
      ⟨hk _ _ D.TIz D.TITO D.TIi1 D.TIi2 hTI, a3, a4, hl1.at fun o e => hk _ o D.l1z D.l1TO D.l1i1 D.l1i2 e, hl2.at fun o e => hk _ o D.l2z D.l2TO D.l2i1 D.l2i2 e,
        .inr ⟨s.heap.objs.size, false, _, a1, a5, lt hz, n1, n2, Nat.ne_of_gt hds⟩⟩ a5 a6
      fun c o hc e => hk c o (fun x => hc (by simp [ZlW, x])) (fun x => hc (by simp [ZlW, x])) (fun x => hc (by simp [ZlW, x])) (fun x => hc (by simp [ZlW, x])) e
  · refine wpAny_pyNext_zip_item_held D hz hT hTI h1 h2 hl1 hl2 ex ey fun h' a1 a3 a4 a5 a6 hk => ?_
    exact hQ _ _ h' ⟨ex, ey⟩
      ⟨hk _ _ D.TIz D.TIi1 D.TIi2 hTI, a3, a4, hl1.at fun o e => hk _ o D.l1z D.l1i1 D.l1i2 e, hl2.at fun o e => hk _ o D.l2z D.l2i1 D.l2i2 e,
        .inr ⟨T, true, oT, a1, hk _ _ r1 r2 r3 hT, r1, r2, r3, r4⟩⟩ a5 a6
      fun c o hc e => hk c o (fun x => hc (by simp [ZlW, x])) (fun x => hc (by simp [ZlW, x])) (fun x => hc (by simp [ZlW, x])) e
theorem zl_done {E : Value → Shared → Prop} {Q : Option Value → Shared → Prop} (hA : A.handled = none) (D : ZipApart z TI TO i1 i2 l1 l2) (st : ZlSt z TI TO i1 i2 l1 l2 S xs ys (min xs.size ys.size) s.heap)
    (hQ : ∀ h', (∀ b o, b ∉ ZlW z TO i1 i2 → s.heap.get? b = some o → h'.get? b = some o) → Q none { s with heap := h' }) : wpAny (model prog w) A (pyNext (.ref z)) Q E s := by
  obtain ⟨hTI, h1, h2, hl1, hl2, hz⟩ := st
  have hend : xs[min xs.size ys.size]? = none ∨ ys[min xs.size ys.size]? = none := by
    rcases Nat.le_total xs.size ys.size with h | h
    · exact .inl (Array.getElem?_eq_none (by rw [Nat.min_eq_left h]; exact Nat.le_refl _))
    · exact .inr (Array.getElem?_eq_none (by rw [Nat.min_eq_right h]; exact Nat.le_refl _))
  rcases hz with ⟨hz, a, b, hTO⟩ | ⟨T, f, oT, hz, hT, r1, r2, r3, r4⟩
  · exact wpAny_pyNext_zip_end hA D hz hTI hTO h1 h2 hl1 hl2 hend fun h' hk => hQ h' fun c o hc e => hk c o (fun x => hc (by simp [ZlW, x])) (fun x => hc (by simp [ZlW, x])) (fun x => hc (by simp [ZlW, x])) (fun x => hc (by simp [ZlW, x])) e
  · exact wpAny_pyNext_zip_end_held hA D hz hT hTI h1 h2 hl1 hl2 hend fun h' hk => hQ h' fun c o hc e => hk c o (fun x => hc (by simp [ZlW, x])) (fun x => hc (by simp [ZlW, x])) (fun x => hc (by simp [ZlW, x])) e
theorem zl_loop (hA : A.handled = none) (D : ZipApart z TI TO i1 i2 l1 l2) (hSo : S ∉ [z, TI, TO, i1, i2, l1, l2]) (hn : min xs.size ys.size ≤ sizeLine) (res : Value) {lo : Addr} (lS : S < lo) (lw : ∀ b ∈ ZlW z TO i1 i2, b < lo) {h₁ : Heap}
    (hR : ∀ h' tk acc c as, (∀ b o, b ≠ S → b ∉ ZlW z TO i1 i2 → h₁.get? b = some o → h'.get? b = some o) → h'.get? S = some { cls := .type "list", dict := none, data := .seq acc c, slots := #[] } → as.length = min xs.size ys.size → ZlG xs ys lo h' as →
      acc.toList = as.map Value.ref → R (.ok (.ret res)) { s with heap := h', toks := tk }) :
    ∀ (k i : Nat) (h : Heap) (tk : Nat) (c : Nat) (acc : Array Value) (as : List Addr), min xs.size ys.size - i = k → i ≤ min xs.size ys.size → ZlSt z TI TO i1 i2 l1 l2 S xs ys i h → (∀ b o, b ≠ S → b ∉ ZlW z TO i1 i2 → h₁.get? b = some o → h.get? b = some o) →
      h.get? S = some { cls := .type "list", dict := none, data := .seq acc c, slots := #[] } → acc.toList = as.map Value.ref → as.length = i → ZlG xs ys lo h as → lo ≤ h.objs.size →
      codeAny (model prog w) A (.builtin "list.extend.loop" ⟨[.ref S, .ref z, res], []⟩) R { s with heap := h, toks := tk } := by
  have hSw : S ∉ ZlW z TO i1 i2 := fun m => hSo (by
    simp only [ZlW, List.mem_cons, List.not_mem_nil, or_false] at m ⊢
    rcases m with e | e | e | e <;> simp [e])
  intro k
  induction k with
  | zero =>
    intro i h tk c acc as hk hi hst hkeep hS hacc hal hG hIs
    have hin : i = min xs.size ys.size := by omega
    subst hin
    refine codeAny_builtin PySem.F.entry_extend_loop ?_
    rw [Around.under_plainId PySem.F.plain_extend_loop _]
    show wpAny _ A.in1 (pyNext (.ref z) >>= _) _ _ _
    refine wpAny_bind (zl_done (A := A.in1) (s := { s with heap := h, toks := tk }) hA D hst fun h' he => ?_)
    refine wpAny_pure (hR h' tk acc c as (fun b o h1 h2 e => he b o h2 (hkeep b o h1 h2 e)) (he S _ hSw hS) hal ⟨hG.rise, hG.above, fun j a hj => ?_⟩ hacc)
    obtain ⟨x, y, e1, e2⟩ := hG.pairs j a hj
    have := hG.above a (List.mem_of_getElem? hj)
    exact ⟨x, y, e1, he a _ (fun m => Nat.lt_irrefl _ (Nat.lt_of_lt_of_le (lw a m) this)) e2⟩
  | succ k ih =>
    intro i h tk c acc as hk hi hst hkeep hS hacc hal hG hIs
    have hlt : i < min xs.size ys.size := by omega
    have hsz : acc.size = i := by rw [← Array.length_toList, hacc, List.length_map, hal]
    have hSl : S < h.objs.size := Heap.lt_size hS
    refine codeAny_builtin PySem.F.entry_extend_loop ?_
    rw [Around.under_plainId PySem.F.plain_extend_loop _]
    show wpAny _ A.in1 (pyNext (.ref z) >>= _) _ _ _
    refine wpAny_bind (zl_item (A := A.in1) (s := { s with heap := h, toks := tk }) D hst hlt hSl fun x y h' hP hst' ht hz hkp => ?_)
    dsimp only at ht hz hkp ⊢
    have hS' := hkp S _ hSw hS
    have up : ∀ b o, b ≠ S → h'.get? b = some o → (h'.update S (Obj.mapSeq (·.push (Value.ref h.objs.size)))).get? b = some o := fun b o hb e => (Heap.get?_update_other _ _ (Ne.symm hb)).trans e
    show wpAny _ A.in1 (updateSeq S (·.push (Value.ref h.objs.size)) >>= _) _ _ _
    refine wpAny_bind ?_
    refine wpAny_updateSeq hS' rfl (wpAny_pure ⟨plainId_quiet PySem.F.plain_extend_loop _, ih (i + 1) _ tk _ (acc.push (Value.ref h.objs.size)) (as ++ [h.objs.size]) (by omega) hlt (hst'.keep hSo up)
      (fun b o h1 h2 e => up b o h1 (hkp b o h2 (hkeep b o h1 h2 e))) (Heap.get?_update_self _ hS' rfl) (by rw [Array.toList_push, hacc, List.map_append]; rfl) (by rw [List.length_append, hal]; rfl) ⟨?_, ?_, ?_⟩ ?_⟩) (by rw [hsz]; omega) (by show (acc.push (Value.ref h.objs.size)).size ≤ sizeLine + 1; rw [Array.size_push, hsz]; omega)
    · refine List.pairwise_append.mpr ⟨hG.rise, List.pairwise_singleton _ _, fun a ha b hb => ?_⟩
      rw [List.mem_singleton.mp hb]
      exact hG.there ha
    · intro a ha
      rcases List.mem_append.mp ha with ha | ha
      · exact hG.above a ha
      · rw [List.mem_singleton.mp ha]; exact hIs
    · intro j b hj
      rcases Nat.lt_trichotomy j as.length with h1 | h1 | h1
      · rw [List.getElem?_append_left h1] at hj
        obtain ⟨x', y', e1, e2⟩ := hG.pairs j b hj
        have hb := hG.above b (List.mem_of_getElem? hj)
        exact ⟨x', y', e1, up b _ (Nat.ne_of_gt (Nat.lt_of_lt_of_le lS hb)) (hkp b _ (fun m => Nat.lt_irrefl _ (Nat.lt_of_lt_of_le (lw b m) hb)) e2)⟩
      · subst h1
        have hb : h.objs.size = b := by simpa using hj
        subst hb
        exact ⟨x, y, by rw [hal]; exact hP, up _ _ (Nat.ne_of_gt hSl) ht⟩
      · have hnone : (as ++ [h.objs.size])[j]? = none := List.getElem?_eq_none (by rw [List.length_append, List.length_singleton]; omega)
        rw [hnone] at hj; cases hj
    · have e1 : (h'.update S (Obj.mapSeq (·.push (Value.ref h.objs.size)))).get? h.objs.size = _ := up _ _ (Nat.ne_of_gt hSl) ht
      exact Nat.le_of_lt (Nat.lt_of_le_of_lt hIs (Heap.lt_size e1))
end
theorem zl_len : typeLookup (.type "zip") "__len__" = pure none := am_miss_of_fast (by decide +kernel)
theorem zl_lenhint : typeLookup (.type "zip") "__length_hint__" = pure none := am_miss_of_fast (by decide +kernel)
section
variable {prog : Program} {w : World} {A : Around} {E : Value → Shared → Prop} {s : Shared}
theorem zl_hint {r : Addr} (hT : s.TypeIs (.ref r) "zip") {Q : Bool → Shared → Prop} (h : Q true s) : wpAny (model prog w) A (Builtin.List.listLengthHint (.ref r)) Q E s := by
  unfold Builtin.List.listLengthHint
  refine wpAny_bind (wpAny_specialOf hT zl_len ?_)
  refine wpAny_bind (wpAny_specialOf hT zl_lenhint ?_)
  exact wpAny_pure h
variable {R : Result → Shared → Prop} {z TI TO i1 i2 l1 l2 S : Addr} {xs ys : Array Value}
theorem zl_extend (hA : A.handled = none) (D : ZipApart z TI TO i1 i2 l1 l2) (hSo : S ∉ [z, TI, TO, i1, i2, l1, l2]) (hn : min xs.size ys.size ≤ sizeLine) (res : Value) (c₀ : Nat)
    (hz : IsZip s.heap z TI TO .none) (st : ZlSt z TI TO i1 i2 l1 l2 S xs ys 0 s.heap) (lw : ∀ b ∈ ZlW z TO i1 i2, b < s.heap.objs.size) (hS : s.heap.get? S = some { cls := .type "list", data := .seq #[] c₀ })
    (hR : ∀ h' tk acc c as, (∀ b o, b ≠ S → b ∉ ZlW z TO i1 i2 → s.heap.get? b = some o → h'.get? b = some o) → h'.get? S = some { cls := .type "list", dict := none, data := .seq acc c, slots := #[] } → as.length = min xs.size ys.size → ZlG xs ys s.heap.objs.size h' as →
      acc.toList = as.map Value.ref → R (.ok (.ret res)) { s with heap := h', toks := tk }) :
    wpAny (model prog w) A.in1 (Builtin.List.listExtendWith (.ref S) (.ref z) res)
      (fun fin s' => match fin with | .done f => R (.ok f) s' | .again c' => c'.quiet = true ∧ codeAny (model prog w) A c' R s') (fun e s' => R (.error e) s') s := by
  have hSl : S < s.heap.objs.size := Heap.lt_size hS
  have hSz : S ≠ z := fun e => hSo (by rw [e]; exact List.mem_cons_self)
  have hT : s.TypeIs (.ref z) "zip" := ⟨_, hz, rfl⟩
  have key : ∀ (h : Heap) (c₁ tk : Nat), s.heap.objs.size ≤ h.objs.size → (∀ b o, b ≠ S → s.heap.get? b = some o → h.get? b = some o) →
      h.get? S = some { cls := .type "list", data := .seq #[] c₁ } → codeAny (model prog w) A (.builtin "list.extend.loop" ⟨[.ref S, .ref z, res], []⟩) R { s with heap := h, toks := tk } := by
    intro h c₁ tk hz hk hS₁
    refine zl_loop (s := s) (h₁ := s.heap) (lo := s.heap.objs.size) hA D hSo hn res hSl lw hR _ 0 h tk c₁ #[] [] (Nat.sub_zero _) (Nat.zero_le _) (st.keep hSo hk) (fun b o h1 _ e => hk b o h1 e) hS₁ rfl rfl ⟨List.Pairwise.nil, (fun _ ha => nomatch ha), (fun j a hj => by simp at hj)⟩ hz
  unfold Builtin.List.listExtendWith
  refine wpAny_bind (wpAny_typeOf (T := "zip") hT ?_)
  have h1 : Builtin.List.listSameRef (.ref S) (.ref z) = false := by simp [Builtin.List.listSameRef, hSz]
  have h2 : (Value.type "zip" == Value.type "list") = false := by decide
  have h3 : (Value.type "zip" == Value.type "tuple") = false := by decide
  simp only [h1, h2, h3, Bool.or_false, Bool.false_eq_true, if_false]
  refine wpAny_bind (wpAny_pyIter_zip hz ?_)
  refine wpAny_bind (wpAny_holding (zl_hint hT ?_))
  refine wpAny_ite_split (fun _ => ?_) (fun _ => wpAny_pure ⟨plainId_quiet PySem.F.plain_extend_loop _, key _ c₀ _ (Nat.le_refl _) (fun b o _ e => e) hS⟩)
  refine wpAny_bind (wpAny_rule ?_)
  refine wpAny_bind ?_
  show wpAny _ _ (updateSeq S (·.push .none) >>= fun _ => updateSeq S (·.pop)) _ _ _
  refine wpAny_bind (wpAny_updateSeq hS rfl ?_)
  have hS₂ := Heap.get?_update_self (Obj.mapSeq (·.push Value.none)) hS rfl
  refine wpAny_updateSeq (hz := by seq_fits) hS₂ rfl ?_
  have hS₃ := Heap.get?_update_self (Obj.mapSeq (·.pop)) hS₂ rfl
  refine wpAny_pure ⟨plainId_quiet PySem.F.plain_extend_loop _, key _ _ _ ?_ (fun b o hb e => ?_) hS₃⟩
  · exact Nat.le_of_eq (by rw [Heap.size_update, Heap.size_update])
  · exact (Heap.get?_update_other _ _ (Ne.symm hb)).trans ((Heap.get?_update_other _ _ (Ne.symm hb)).trans e)
theorem zl_init (hA : A.handled = none) (D : ZipApart z TI TO i1 i2 l1 l2) (hSo : S ∉ [z, TI, TO, i1, i2, l1, l2]) (hn : min xs.size ys.size ≤ sizeLine)
    (hz : IsZip s.heap z TI TO .none) (st : ZlSt z TI TO i1 i2 l1 l2 S xs ys 0 s.heap) (lw : ∀ b ∈ ZlW z TO i1 i2, b < s.heap.objs.size) (hS : s.heap.get? S = some { cls := .type "list", data := .seq #[] })
    (hR : ∀ h' tk acc c as, (∀ b o, b ≠ S → b ∉ ZlW z TO i1 i2 → s.heap.get? b = some o → h'.get? b = some o) → h'.get? S = some { cls := .type "list", dict := none, data := .seq acc c, slots := #[] } → as.length = min xs.size ys.size → ZlG xs ys s.heap.objs.size h' as →
      acc.toList = as.map Value.ref → R (.ok (.ret .none)) { s with heap := h', toks := tk }) :
    wpAny (model prog w) A.in1 (Builtin.«list.__init__» ⟨[.ref S, .ref z], []⟩)
      (fun fin s' => match fin with | .done f => R (.ok f) s' | .again c' => c'.quiet = true ∧ codeAny (model prog w) A c' R s') (fun e s' => R (.error e) s') s := by
  have hSz : S ≠ z := fun e => hSo (by rw [e]; exact List.mem_cons_self)
  show wpAny _ _ (do let old ← Builtin.List.listItems (.ref S); Builtin.List.listUpdate (.ref S) (fun _ => #[]); letGo old.toList.reverse; Builtin.List.listExtendWith (.ref S) (.ref z) .none) _ _ s
  refine wpAny_bind ?_
  unfold Builtin.List.listItems
  refine wpAny_bind (wpAny_seqItems hS rfl (wpAny_pure ?_))
  show wpAny _ _ (updateSeq S (fun _ => #[]) >>= fun _ => letGo (#[] : Array Value).toList.reverse >>= fun _ => Builtin.List.listExtendWith (.ref S) (.ref z) .none) _ _ s
  refine wpAny_bind (wpAny_updateSeq hS rfl ?_)
  have hS₂ := Heap.get?_update_self (Obj.mapSeq (fun _ => (#[] : Array Value))) hS rfl
  have oth : ∀ b o, b ≠ S → s.heap.get? b = some o → (s.heap.update S (Obj.mapSeq (fun _ => (#[] : Array Value)))).get? b = some o :=
    fun b o hb e => (Heap.get?_update_other _ _ (Ne.symm hb)).trans e
  have hz' : (s.heap.update S (Obj.mapSeq (fun _ => (#[] : Array Value)))).objs.size = s.heap.objs.size := Heap.size_update ..
  refine wpAny_bind (wpAny_letGo ?_)
  refine zl_extend (s := { s with heap := s.heap.update S (Obj.mapSeq (fun _ => (#[] : Array Value))) }) hA D hSo hn .none _ (oth z _ (Ne.symm hSz) hz) (st.keep hSo oth) (by rw [hz']; exact lw) hS₂ fun h' tk acc c as hk hS' hl hG hacc => ?_
  rw [hz'] at hG
  exact hR h' tk acc c as (fun b o hb h2 e => hk b o hb h2 (oth b o hb e)) hS' hl hG hacc
theorem zl_call {Q : Value → Shared → Prop} (hA : A.handled = none) (D : ZipApart z TI TO i1 i2 l1 l2) (hlow : ∀ b ∈ [z, TI, TO, i1, i2, l1, l2], b < s.heap.objs.size) (hn : min xs.size ys.size ≤ sizeLine)
    (hz : IsZip s.heap z TI TO .none) (st : ZlSt z TI TO i1 i2 l1 l2 s.heap.objs.size xs ys 0 s.heap)
    (hQ : ∀ h' tk acc c as, (∀ b o, b ∉ ZlW z TO i1 i2 → s.heap.get? b = some o → h'.get? b = some o) → h'.get? s.heap.objs.size = some { cls := .type "list", dict := none, data := .seq acc c, slots := #[] } → as.length = min xs.size ys.size → ZlG xs ys (s.heap.objs.size + 1) h' as →
      acc.toList = as.map Value.ref → Q (.ref s.heap.objs.size) { s with heap := h', toks := tk }) :
    wpAny (model prog w) A (call (.type "list") [.ref z]) Q E s := by
  have hSo : s.heap.objs.size ∉ [z, TI, TO, i1, i2, l1, l2] := fun m => Nat.lt_irrefl _ (hlow _ m)
  have lw : ∀ b ∈ ZlW z TO i1 i2, b < s.heap.objs.size := fun b m => hlow b (by
    simp only [ZlW, List.mem_cons, List.not_mem_nil, or_false] at m ⊢
    rcases m with e | e | e | e <;> simp [e])
  refine callType_codes (Q₁ := fun obj s₁ => obj = .ref s.heap.objs.size ∧ s₁ = { s with heap := s.heap.push { cls := .type "list", data := .seq #[] } }) PySem.F.called_list (PySem.F.typeCall_list_1 _) PySem.F.entry_list_init
    (code_list_new _ ⟨rfl, rfl⟩) fun obj s₁ h₁ => ?_
  obtain ⟨rfl, rfl⟩ := h₁
  have hS : (s.heap.push { cls := .type "list", data := .seq #[] }).get? s.heap.objs.size = some { cls := .type "list", data := .seq #[] } := Heap.get?_push_size _ rfl
  have hz' : (s.heap.push { cls := .type "list", data := .seq #[] }).objs.size = s.heap.objs.size + 1 := Heap.size_push ..
  refine ⟨⟨_, hS, rfl⟩, PySem.F.args_list_init_2 _ _, zl_init (A := A.in1) (s := { s with heap := s.heap.push { cls := .type "list", data := .seq #[] } }) hA D hSo hn (Heap.get?_push_of_some _ hz) (st.keep hSo fun b o _ e => Heap.get?_push_of_some _ e) (by rw [hz']; exact fun b m => Nat.lt_succ_of_lt (lw b m)) hS fun h' tk acc c as hk hS' hl hG hacc => ?_⟩
  rw [hz'] at hG
  exact ⟨rfl, hQ h' tk acc c as (fun b o h2 e => hk b o (Nat.ne_of_lt (Heap.lt_size e)) h2 (Heap.get?_push_of_some _ e)) hS' hl hG hacc⟩
end
end PySem.W

/-! list(zip(x, y)) as an expression -/
namespace DL
open PySem PySem.Spec PyProof.Rows L2
def zpT : Hp → List Addr → List (V × V) → Hp
  | H, a :: as, p :: kvs => zpT (upd H a (.tup [p.1, p.2])) as kvs
  | H, _, _ => H
theorem zpT_off {b : Addr} : ∀ (as : List Addr) (kvs : List (V × V)) (H : Hp), b ∉ as → zpT H as kvs b = H b
  | [], _, _, _ => rfl
  | _ :: _, [], _, _ => rfl
  | a :: as, p :: kvs, H, h => by
    show zpT (upd H a (.tup [p.1, p.2])) as kvs b = H b
    rw [zpT_off as kvs _ (fun z => h (List.mem_cons_of_mem _ z)), upd_ne (fun z => h (by rw [z]; exact List.mem_cons_self))]
theorem zpT_at : ∀ (as : List Addr) (kvs : List (V × V)) (H : Hp), as.length = kvs.length → as.Nodup → Paired (fun (t : Addr) (p : V × V) => zpT H as kvs t = some (.tup [p.1, p.2])) as kvs
  | [], [], _, _, _ => .nil
  | [], _ :: _, _, h, _ => by cases h
  | _ :: _, [], _, h, _ => by cases h
  | a :: as, p :: kvs, H, h, hn => by
    have hn' := List.nodup_cons.mp hn
    have ih := zpT_at as kvs (upd H a (.tup [p.1, p.2])) (Nat.succ.inj h) hn'.2
    refine .cons ?_ ih
    show zpT (upd H a (.tup [p.1, p.2])) as kvs a = some (.tup [p.1, p.2])
    rw [zpT_off as kvs _ hn'.1, upd_same]
section
variable {X : Cx}
theorem zl_laid {pins : List (Addr × Obj)} {σ : St} {H : Hp} {s : Shared} {h' : Heap} {tk : Nat} {xs ys : List V} {its itt : List Value} {acc : Array Value} {c : Nat} {as : List Addr} {S : Addr} (I : Inv X pins σ H s) (hz : min xs.length ys.length ≤ sizeLine) (rv : Vals xs its) (rw' : Vals ys itt)
    (hk : ∀ b o, s.heap.get? b = some o → h'.get? b = some o) (hSs : s.heap.objs.size ≤ S) (hS : h'.get? S = some { cls := .type "list", dict := none, data := .seq acc c, slots := #[] }) (hl : as.length = min xs.length ys.length) (hG : PySem.W.ZlG its.toArray itt.toArray (S + 1) h' as) (hacc : acc.toList = as.map Value.ref) :
    as.Nodup ∧ H S = none ∧ (∀ t ∈ as, H t = none) ∧ S ∉ as ∧ Inv X pins σ (zpT (upd H S (.lst (as.map V.ref))) as (xs.zip ys)) { s with heap := h', toks := tk } := by
  have hSn : S ∉ as := fun z => Nat.lt_irrefl _ (hG.above _ z)
  have nd : as.Nodup := List.Pairwise.imp (fun {a b} (h : a < b) => Nat.ne_of_lt h) hG.rise
  have ab : ∀ t ∈ as, s.heap.objs.size ≤ t := fun t ht => Nat.le_trans hSs (Nat.le_of_lt (hG.above t ht))
  have new : ∀ t ∈ as, H t = none := fun t ht => I.hok.fresh (ab t ht)
  have newS : H S = none := I.hok.fresh hSs
  have hl' : as.length = (xs.zip ys).length := by rw [List.length_zip]; exact hl
  have atP := zpT_at as (xs.zip ys) (upd H S (.lst (as.map V.ref))) hl' nd
  have off : ∀ b, b ∉ as → b ≠ S → zpT (upd H S (.lst (as.map V.ref))) as (xs.zip ys) b = H b := fun b h1 h2 => by rw [zpT_off as _ _ h1, upd_ne h2]
  have low : ∀ b o, s.heap.get? b = some o → b ∉ as ∧ b ≠ S := fun b o e => ⟨fun z => absurd (Heap.lt_size e) (Nat.not_lt.mpr (ab b z)), Nat.ne_of_lt (Nat.lt_of_lt_of_le (Heap.lt_size e) hSs)⟩
  have kp : ∀ b u, H b = some u → (zpT (upd H S (.lst (as.map V.ref))) as (xs.zip ys)) b = some u := fun b u e => by
    rw [off b (fun z => by rw [new b z] at e; cases e) (fun z => by rw [z, newS] at e; cases e)]
    exact e
  have eS : zpT (upd H S (.lst (as.map V.ref))) as (xs.zip ys) S = some (.lst (as.map V.ref)) := by rw [zpT_off as _ _ hSn, upd_same]
  refine ⟨nd, newS, new, hSn, ?_⟩
  refine I.call' (ch := []) rfl ⟨fun b o q _ _ _ => hk b o q, fun b o q _ _ _ => ⟨o.slots, hk b o q⟩, fun b o q n _ => ?_, fun b o q _ => ⟨o, hk b o q⟩, fun b xs q => kp b _ q, fun b o u q => kp b _ q, fun b ps q => ⟨#[], by rw [kp b _ q]; simp⟩⟩ (fun b u q => ?_) I.bare fun b z => by simp at z
  · obtain ⟨z1, z2⟩ := low b o q
    rw [off b z1 z2]
    exact n
  · by_cases hb : b ∈ as
    · obtain ⟨j, pk, e1, e2, e3⟩ := LiI.paired_ix atP hb
      rw [e3] at q
      cases q
      obtain ⟨x, y, ⟨f1, f2⟩, f3⟩ := hG.pairs j b e1
      have g := List.getElem?_zip_eq_some.mp e2
      obtain ⟨u1, g2, g3⟩ := rv.get g.1
      obtain ⟨u2, k2, k3⟩ := rw'.get g.2
      have f1' : its[j]? = some x := by simpa using f1
      have f2' : itt[j]? = some y := by simpa using f2
      rw [g2] at f1'
      rw [k2] at f2'
      cases f1'
      cases f2'
      exact ⟨by show 2 ≤ sizeLine; decide, [x, y], .cons g3 (.cons k3 .nil), ⟨_, f3, rfl, _, rfl⟩⟩
    · by_cases hb2 : b = S
      · rw [hb2] at q ⊢
        rw [eS] at q
        cases q
        refine ⟨by rw [List.length_map]; omega, acc.toList, c, by rw [hacc]; exact LiI.vals_refs as, ?_⟩
        rw [Array.toArray_toList]
        exact hS
      · rw [off b hb hb2] at q
        exact (I.hok b u q).stay (fun d v _ y => hk d v y) (fun d y => kp d _ y) fun d xs y => kp d _ y
def tListZip (K : PySem.W.Frag) (ta : TA) : TE := fun σ H Q => ta σ H fun vs H1 => ∃ a b xs ys, vs = [.ref a, .ref b] ∧ SqL K H1 a xs ∧ SqL K H1 b ys ∧ min xs.length ys.length ≤ sizeLine ∧
  ∀ (S : Addr) (as : List Addr), as.length = min xs.length ys.length → as.Nodup → H1 S = none → (∀ t ∈ as, H1 t = none) → S ∉ as → Q (.ref S) (zpT (upd H1 S (.lst (as.map V.ref))) as (xs.zip ys))
theorem pe_listZip {e e2 : Expr} {ta : TA} {p p2 pos pos2 : Pos} (hc : X.calm = true) (ha : PA X [e, e2] ta) (hg : Gl X "list") (hm : X.mg "list" = none) (hg2 : Gl X "zip") (hm2 : X.mg "zip" = none)
    (hs2 : starEach [e, e2] X.env = (false, eval e X.env) :: starEach [e2] X.env := by rfl) (hpl : (backTo pos2 (starEach [e2] X.env)).any (·.1) = false := by rfl)
    (hs : starEach [.Call (.Name "zip" p2) [e, e2] [] pos2] X.env = (false, eval (.Call (.Name "zip" p2) [e, e2] [] pos2) X.env) :: starEach [] X.env := by rfl) :
    PE X (.Call (.Name "list" p) [.Call (.Name "zip" p2) [e, e2] [] pos2] [] pos) (tListZip X.K ta) := by
  refine ⟨fun pins s σ H Q I hq => ?_⟩
  have hv : bootBuiltins "list" = some (.type "list") := by decide +kernel
  refine wpAny_Call_Name_kw (ld_blt I hg hm hv ?_)
  refine PyProof.Rows.callWith_type1 ?_ hs rfl
  rw [hs]
  show wpAny _ _ (spliced ((false, eval (.Call (.Name "zip" p2) [e, e2] [] pos2) X.env) :: backTo pos (starEach [] X.env))) _ _ s
  refine Calls.spliced_cons ?_
  refine Call_ (ld_blt I hg2 hm2 PyProof.Rows.boot_zip (PyProof.Rows.callWith_type1 (thn (ha.run pos2 pins s σ H _ I hq) fun us s1 ⟨vs, H1, I1, r1, a, b, xs, ys, ex, hx, hy, hz, q⟩ => ?_) hs2 hpl))
  subst ex
  cases r1 with
  | cons r rr =>
    cases rr with
    | cons r' rr =>
      cases rr
      cases r
      cases r'
      obtain ⟨its, rv, p1, _⟩ := I1.list hx
      obtain ⟨itt, rw', p2, _⟩ := I1.list hy
      refine call_zip_2 p1.isList p2.isList fun h' hz' hTI hTO h1 h2 hsz hk => ?_
      refine Calls.spliced_nil ?_
      have la := p1.lt
      have lb := p2.lt
      have D := PySem.W.ktu_apart s1.heap.objs.size a b la lb
      have e1 : its.toArray.size = xs.length := by rw [List.size_toArray]; exact rv.length.symm
      have e2 : itt.toArray.size = ys.length := by rw [List.size_toArray]; exact rw'.length.symm
      refine PySem.W.zl_call (s := { s1 with heap := h' }) (I1.ok.hd hc) D (fun c hc => ?_) (by rw [e1, e2]; exact hz) hz' ⟨hTI, h1, h2, p1.isList.at fun o g => hk _ o g, p2.isList.at fun o g => hk _ o g, .inl ⟨hz', _, _, hTO⟩⟩ fun h2 tk acc c as hk2 hS hla hG hacc => ?_
      · show c < h'.objs.size
        rw [hsz]
        simp only [List.mem_cons, List.not_mem_nil, or_false] at hc
        have aN : (a : Nat) < s1.heap.objs.size := la
        have bN : (b : Nat) < s1.heap.objs.size := lb
        rcases hc with e | e | e | e | e | e | e <;> subst e
        · exact Nat.add_lt_add_left (by decide) _
        · exact Nat.add_lt_add_left (by decide) _
        · exact Nat.add_lt_add_left (by decide) _
        · exact Nat.lt_add_of_pos_right (by decide)
        · exact Nat.add_lt_add_left (by decide) _
        · exact Nat.lt_of_lt_of_le aN (Nat.le_add_right _ _)
        · exact Nat.lt_of_lt_of_le bN (Nat.le_add_right _ _)
      · have hk3 : ∀ b o, s1.heap.get? b = some o → h2.get? b = some o := fun b o hb => by
          have lb : (b : Nat) < s1.heap.objs.size := Heap.lt_size hb
          refine hk2 b o (fun m => ?_) (hk b o hb)
          simp only [PySem.W.ZlW, List.mem_cons, List.not_mem_nil, or_false] at m
          have no : ∀ k : Nat, b = s1.heap.objs.size + k → False := fun k e => by
            have e' : (b : Nat) = s1.heap.objs.size + k := e
            rw [e'] at lb
            exact absurd lb (Nat.not_lt.mpr (Nat.le_add_right _ _))
          rcases m with e | e | e | e
          · exact no 4 e
          · exact no 3 e
          · exact no 0 e
          · exact no 1 e
        rw [e1, e2] at hla
        have hS0 : s1.heap.objs.size ≤ h'.objs.size := by rw [hsz]; exact Nat.le_add_right _ _
        obtain ⟨k1, k2, k3, k4, J⟩ := zl_laid (tk := tk) I1 hz rv rw' hk3 hS0 hS hla hG hacc
        exact ⟨.ref _, _, J, rfl, q _ as hla k1 k2 k3 k4⟩
/-- list(zip(x, y)), x and y lists, or lists that may be written -/
def lstOf (l : LH) (d : D) (k : List D → Prop) : Prop := match d with
  | .lst xs => k xs
  | .ref a => getO l a fun o => match o with | .lst xs => k xs | _ => False
  | _ => False
def dLZip (ta : DTA) : DTE := fun env l Q => ta env l fun ds l1 => match ds with
  | [x, y] => lstOf l1 x fun xs => lstOf l1 y fun ys => (xs.length ≤ sizeLine ∨ ys.length ≤ sizeLine) ∧ Q (.lst (zipD xs ys)) l1
  | _ => False
theorem rep_zpT {K : PySem.W.Frag} {Fr : Hp} {l : LH} : ∀ (as : List Addr) (kvs : List (V × V)) {F H : Hp}, Rep K F Fr l H → (∀ a ∈ as, H a = none) → as.Nodup → Rep K (zpT F as kvs) Fr l (zpT H as kvs) ∧ Same F (zpT F as kvs)
  | [], _, F, H, R, _, _ => ⟨R, Same.refl F⟩
  | _ :: _, [], F, H, R, _, _ => ⟨R, Same.refl F⟩
  | a :: as, p :: kvs, F, H, R, hn, nd => by
    obtain ⟨n1, n2⟩ := List.nodup_cons.mp nd
    have na := hn a List.mem_cons_self
    obtain ⟨r, s⟩ := rep_zpT as kvs (R.laid na (.tup [p.1, p.2])) (fun b hb => by
      have ne : b ≠ a := fun z => n1 (by rw [← z]; exact hb)
      rw [upd_ne ne]
      exact hn b (List.mem_cons_of_mem _ hb)) n2
    exact ⟨r, (same_upd (R.F_none na)).trans s⟩
theorem rel_zipV {K : PySem.W.Frag} {F : Hp} : ∀ {as : List Addr} {ds es : List D} {xs ys : List V}, RelDs K F ds xs → RelDs K F es ys → Paired (fun (t : Addr) (q : V × V) => F t = some (.tup [q.1, q.2])) as (xs.zip ys) → RelDs K F (zipD ds es) (as.map V.ref)
  | as, [], es, [], ys, .nil, _, h => by
    cases as with
    | nil => cases es <;> exact .nil
    | cons => cases h
  | as, d :: ds, [], x :: xs, [], .cons _ _, .nil, h => by
    cases as with
    | nil => exact .nil
    | cons => cases h
  | as, d :: ds, e :: es, x :: xs, y :: ys, .cons r rr, .cons r' rr', h => by
    cases as with
    | nil => cases h
    | cons a as =>
      cases h with
      | cons h1 h2 => exact .cons (.tup h1 (.cons r (.cons r' .nil))) (rel_zipV rr rr' h2)
theorem lstOf_ok {K : PySem.W.Frag} {F Fr H : Hp} {l : LH} {d : D} {v : V} {k : List D → Prop} (R : Rep K F Fr l H) (r : RelD K F d v) (q : lstOf l d k) : ∃ a xs ds, v = .ref a ∧ SqL K H a xs ∧ RelDs K F ds xs ∧ k ds := by
  cases r with
  | @lst p vs ds h1 rr => exact ⟨p, _, _, rfl, .inl (.inl (R.fz _ _ h1)), rr, q⟩
  | ref a =>
    obtain ⟨o, ho, q⟩ := q
    cases o with
    | lst ds =>
      obtain ⟨ws, rw', h1⟩ := (R.lv _ _ ho).2
      exact ⟨a, _, _, rfl, .inl (.inl h1), rw', q⟩
    | _ => exact q.elim
  | _ => exact q.elim
theorem de_listZip {e e2 : Expr} {ta : DTA} {p p2 pos pos2 : Pos} (hc : X.calm = true) (ha : DA X [e, e2] ta) (hg : Gl X "list") (hm : X.mg "list" = none) (hg2 : Gl X "zip") (hm2 : X.mg "zip" = none)
    (hs2 : starEach [e, e2] X.env = (false, eval e X.env) :: starEach [e2] X.env := by rfl) (hpl : (backTo pos2 (starEach [e2] X.env)).any (·.1) = false := by rfl)
    (hs : starEach [.Call (.Name "zip" p2) [e, e2] [] pos2] X.env = (false, eval (.Call (.Name "zip" p2) [e, e2] [] pos2) X.env) :: starEach [] X.env := by rfl) :
    DE X (.Call (.Name "list" p) [.Call (.Name "zip" p2) [e, e2] [] pos2] [] pos) (dLZip ta) := by
  refine ⟨?_⟩
  intro F Fr env l σ H Q hE hR ht
  refine (pe_listZip hc paW hg hm hg2 hm2 hs2 hpl hs).we ?_
  refine (ha F Fr env l σ H _ hE hR ht).mono fun vs H1 ⟨F1, ds, l1, s1, r1, R1, q1⟩ => ?_
  cases r1 with
  | nil => exact q1.elim
  | cons ra rr =>
    cases rr with
    | nil => exact q1.elim
    | cons rb rr =>
      cases rr with
      | cons _ _ => exact q1.elim
      | nil =>
        obtain ⟨a, xs, es, rfl, qa, ra', q1⟩ := lstOf_ok R1 ra q1
        obtain ⟨b, ys, fs, rfl, qb, rb', hz, q1⟩ := lstOf_ok R1 rb q1
        have la := ra'.length
        have lb := rb'.length
        refine ⟨a, b, xs, ys, rfl, qa, qb, by rw [la, lb] at hz; omega, fun S as hl nd nS nas hS => ?_⟩
        have R2 := R1.laid nS (.lst (as.map V.ref))
        obtain ⟨R3, S3⟩ := rep_zpT as (xs.zip ys) R2 (fun b hb => by
          have ne : b ≠ S := fun z => hS (by rw [← z]; exact hb)
          rw [upd_ne ne]
          exact nas b hb) nd
        have sm : Same F1 (zpT (upd F1 S (.lst (as.map V.ref))) as (xs.zip ys)) := (same_upd (R1.F_none nS)).trans S3
        have at_ := zpT_at as (xs.zip ys) (upd F1 S (.lst (as.map V.ref))) (by rw [List.length_zip]; exact hl) nd
        have eS : zpT (upd F1 S (.lst (as.map V.ref))) as (xs.zip ys) S = some (.lst (as.map V.ref)) := by rw [zpT_off as _ _ hS, upd_same]
        exact ⟨_, .lst (zipD es fs), l1, s1.trans sm, .lst eS (rel_zipV (ra'.mono sm) (rb'.mono sm) at_), R3, q1⟩
end
end DL

/-! x in (y, z) -/
namespace DL
open PySem PySem.Spec PyProof.Rows L2
section
variable {X : Cx} {a b : Expr} {ta tb : DTE} {pos : Pos} {k : Nat}
end
end DL

/-! isinstance(e, (T, U)) of built-in types -/
namespace DL
open PySem PySem.Spec PyProof.Rows L2
section
variable {X : Cx} {e : Expr} {te : DTE} {pos : Pos}
end
end DL

/-! divmod by a great number -/
namespace DL
open PySem PySem.Spec PyProof.Rows L2
end DL

/-! max and min of a list or a tuple of numbers -/
namespace DL
open PySem PySem.Spec PyProof.Rows L2
end DL

/-! a comprehension over enumerate of a list that may be written -/
namespace DL
open PySem PySem.Spec PyProof.Rows L2
section
variable {X : Cx} {elt tg iter : Expr} {ifs : List Expr} {scope : Scope} {own : List (Str × Nat)} {pos : Pos} {g : DTG} {tt : DTT} {te : DTE}
end
section
variable {X : Cx} {elt e : Expr} {elts : List Expr} {kk : Nat} {tpos p ipos : Pos} {ifs : List Expr} {scope : Scope} {own : List (Str × Nat)} {pos : Pos} {ta : DTA} {g : DTG} {tt : DTT} {te : DTE}
variable (hc : X.calm = true) (hN : X.N.Nodup) (hi : DA X [e] ta) (hgl : Gl X "enumerate") (hm : X.mg "enumerate" = none) (ok : BlkOk X.N X.env.scope scope own)
    (hg : ∀ (s : Shared) (H : Hp) (C : Addr) (cl : List (Str × Addr)) (fp : List Addr), DG (X.blk s H scope (compEnvC scope cl C X.env) fp) (.Tuple elts kk tpos) (own.map (·.2)) g)
    (ht : ∀ (s : Shared) (H : Hp) (C : Addr) (cl : List (Str × Addr)) (fp : List Addr), DTs (X.blk s H scope (compEnvC scope cl C X.env) fp) ifs tt)
    (he : ∀ (s : Shared) (H : Hp) (C : Addr) (cl : List (Str × Addr)) (fp : List Addr), DE (X.blk s H scope (compEnvC scope cl C X.env) fp) elt te)
include hi hgl hm hg ht he
include hc hN ok
end
end DL

/-! division by a number of either sign -/
namespace DL
open PySem PySem.Spec PyProof.Rows L2
section
variable {X : Cx}
end
end DL

/-! any of numbers; a list backwards -/
namespace DL
open PySem PySem.Spec PyProof.Rows L2
end DL

/-! zip of a list or a tuple with a list or a tuple, also a list that may be written -/
namespace ZM
open PySem
/-- the kind of what is gone through: false a list, true a tuple -/
def It (b : Bool) (h : Heap) (it l : Addr) (k : Nat) : Prop := cond b (h.IsTupleIter it l k) (h.IsListIter it l k)
def Sq (b : Bool) (h : Heap) (l : Addr) (xs : Array Value) : Prop := cond b (h.IsTuple l xs) (h.IsList l xs)
theorem It.to {b : Bool} {h h' : Heap} {it l : Addr} {k : Nat} (x : It b h it l k) (e : ∀ o, h.get? it = some o → h'.get? it = some o) : It b h' it l k := by
  cases b with
  | true => exact Heap.IsTupleIter.at x e
  | false => exact Heap.IsListIter.at x e
theorem Sq.to {b : Bool} {h h' : Heap} {l : Addr} {xs : Array Value} (x : Sq b h l xs) (e : ∀ o, h.get? l = some o → h'.get? l = some o) : Sq b h' l xs := by
  cases b with
  | true => exact Heap.IsTuple.at x e
  | false => exact Heap.IsList.at x e
theorem It.but {b : Bool} {h h' : Heap} {it l c : Addr} {k : Nat} (x : It b h it l k) (e : Heap.ExtBut c h h') (n : it ≠ c) : It b h' it l k := x.to fun o q => e _ _ n q
theorem Sq.but {b : Bool} {h h' : Heap} {l c : Addr} {xs : Array Value} (x : Sq b h l xs) (e : Heap.ExtBut c h h') (n : l ≠ c) : Sq b h' l xs := x.to fun o q => e _ _ n q
theorem It.ob {b : Bool} {h : Heap} {it l : Addr} {k : Nat} (x : It b h it l k) : ∃ o, h.get? it = some o ∧ ∀ v, o.data ≠ .cell v := by
  cases b with
  | true => obtain ⟨o, e, _, d⟩ := x; exact ⟨o, e, fun v q => by rw [d] at q; cases q⟩
  | false => obtain ⟨o, e, _, d⟩ := x; exact ⟨o, e, fun v q => by rw [d] at q; cases q⟩
theorem Sq.lt {b : Bool} {h : Heap} {l : Addr} {xs : Array Value} (x : Sq b h l xs) : l < h.objs.size := by
  cases b with
  | true => obtain ⟨o, e, _⟩ := x; exact Heap.lt_size e
  | false => obtain ⟨o, e, _⟩ := x; exact Heap.lt_size e
section
variable {prog : Program} {w : World} {A : Around} {E : Value → Shared → Prop} {s : Shared}
theorem next_one {b : Bool} {it l : Addr} {i : Nat} {items : Array Value} {x : Value} {Q : Value → Shared → Prop} (hit : It b s.heap it l i) (hl : Sq b s.heap l items) (hx : items[i]? = some x)
    (hQ : ∀ g, It b g it l (i + 1) → Heap.SameBut it s.heap g → Q x { s with heap := g }) : wpAny (model prog w) A (Builtin.SmallTypes.nextOf (.ref it)) Q E s := by
  cases b with
  | true => exact RZ.nextOf_tuple_item hit hl hx hQ
  | false => exact wpAny_nextOf_list_item hit hl hx hQ
theorem next_none {b : Bool} {it l : Addr} {i : Nat} {items : Array Value} {Q : Value → Shared → Prop} (un : A.handled = none) (hit : It b s.heap it l i) (hl : Sq b s.heap l items) (hx : items[i]? = none)
    (hE : ∀ g e, Heap.ExtBut it s.heap g → (∃ o, g.get? e = some o ∧ o.cls = .type "StopIteration") → E (.ref e) { s with heap := g }) : wpAny (model prog w) A (Builtin.SmallTypes.nextOf (.ref it)) Q E s := by
  cases b with
  | true => exact RZ.nextOf_tuple_end un hit hl hx hE
  | false => exact wpAny_nextOf_list_end un hit hl hx hE
variable {b1 b2 : Bool} {z TI TO i1 i2 l1 l2 : Addr} {k1 k2 : Nat} {xs ys : Array Value} {a b : Value}
/-- what stands of all but the zip object, its pair and its iterators -/
def Rest (z TO i1 i2 : Addr) (h g : Heap) : Prop := ∀ c o, c ≠ z → c ≠ TO → c ≠ i1 → c ≠ i2 → h.get? c = some o → g.get? c = some o
theorem zip_turn {x y : Value} {Q : Value → Shared → Prop} (D : ZipApart z TI TO i1 i2 l1 l2) (hz : IsZip s.heap z TI TO .none) (pI : IsPair s.heap TI (.ref i1) (.ref i2)) (pO : IsPair s.heap TO a b)
    (t1 : It b1 s.heap i1 l1 k1) (t2 : It b2 s.heap i2 l2 k2) (q1 : Sq b1 s.heap l1 xs) (q2 : Sq b2 s.heap l2 ys) (hx : xs[k1]? = some x) (hy : ys[k2]? = some y)
    (fin : ∀ g, IsZip g z TI TO (rawInt s.heap.objs.size) → IsPair g TO x y → It b1 g i1 l1 (k1 + 1) → It b2 g i2 l2 (k2 + 1) → IsPair g s.heap.objs.size x y → g.objs.size = s.heap.objs.size + 1 → Rest z TO i1 i2 s.heap g → Q (.ref s.heap.objs.size) { s with heap := g }) :
    wpAny (model prog w) A (Builtin.«zip.__next__» ⟨[.ref z], []⟩) (fun e s' => ∃ v, e = .done (.ret v) ∧ Q v s') E s := by
  show wpAny _ _ (field (.ref z) 2 >>= _) _ _ _; refine wpAny_bind (wpAny_field hz rfl (x := .bool false) rfl ?_)
  show wpAny _ _ (field (.ref z) 3 >>= _) _ _ _; refine wpAny_bind (wpAny_field hz rfl (x := .ref TI) rfl (wpAny_bind (wpAny_seqItems pI rfl ?_)))
  show wpAny _ _ (Builtin.SmallTypes.ownedTupleIsFree (.ref z) >>= _) _ _ _; refine wpAny_bind ?_
  unfold Builtin.SmallTypes.ownedTupleIsFree; refine wpAny_bind (wpAny_field hz rfl (x := .none) rfl (wpAny_pure ?_))
  simp only [if_true]; refine wpAny_bind (wpAny_rule (wpAny_bind (wpAny_field hz rfl (x := .ref TO) rfl ?_)))
  refine wpAny_bind (wpAny_setField_rec hz (by simp) fun g1 z1 m1 => ?_)
  have z1 : IsZip g1 z TI TO .ellipsis := z1
  refine wpAny_bind ?_; simp only [List.zipIdx_cons, List.zipIdx_nil, List.forIn_cons, List.forIn_nil]
  refine wpAny_bind (wpAny_bind (wpAny_onRaise ?_)); show wpAny _ _ (Builtin.SmallTypes.nextOf (.ref i1) >>= _) _ _ _
  refine wpAny_bind (next_one (t1.but m1.extBut D.i1z) (q1.but m1.extBut D.l1z) hx fun g2 u1 m2 => wpAny_pure ?_)
  have p2 : IsPair g2 TO a b := m2.extBut _ _ D.TOi1 (m1.extBut _ _ D.TOz pO)
  refine wpAny_bind (wpAny_seqItems p2 rfl (wpAny_bind (wpAny_updateSeq_pair p2 fun g3 p3 m3 => ?_)))
  have p3 : IsPair g3 TO x b := p3
  refine wpAny_bind (wpAny_letGo (wpAny_pure (wpAny_bind (wpAny_bind (wpAny_onRaise ?_)))))
  show wpAny _ _ (Builtin.SmallTypes.nextOf (.ref i2) >>= _) _ _ _
  refine wpAny_bind (next_one (((t2.but m1.extBut D.i2z).but m2.extBut D.i12.symm).but m3.extBut D.TOi2.symm) (((q2.but m1.extBut D.l2z).but m2.extBut D.l2i1).but m3.extBut D.l2TO) hy fun g4 u2 m4 => wpAny_pure ?_)
  have p4 : IsPair g4 TO x b := m4.extBut _ _ D.TOi2 p3
  refine wpAny_bind (wpAny_seqItems p4 rfl (wpAny_bind (wpAny_updateSeq_pair p4 fun g5 p5 m5 => ?_)))
  have p5 : IsPair g5 TO x y := p5
  refine wpAny_bind (wpAny_letGo (wpAny_pure (wpAny_pure (wpAny_bind (wpAny_seqItems p5 rfl (wpAny_bind (wpAny_newTuple ?_)))))))
  have sz : g5.objs.size = s.heap.objs.size := by rw [m5.1, m4.1, m3.1, m2.1, m1.1]
  have z5 : IsZip g5 z TI TO .ellipsis := m5.extBut _ _ D.TOz.symm (m4.extBut _ _ D.i2z.symm (m3.extBut _ _ D.TOz.symm (m2.extBut _ _ D.i1z.symm z1)))
  have r5 : Rest z TO i1 i2 s.heap g5 := fun c o c1 c2 c3 c4 e => m5.extBut _ _ c2 (m4.extBut _ _ c4 (m3.extBut _ _ c2 (m2.extBut _ _ c3 (m1.extBut _ _ c1 e))))
  have u1 : It b1 g5 i1 l1 (k1 + 1) := ((u1.but m3.extBut D.TOi1.symm).but m4.extBut D.i12).but m5.extBut D.TOi1.symm
  have u2 : It b2 g5 i2 l2 (k2 + 1) := u2.but m5.extBut D.TOi2.symm
  have zl : z < g5.objs.size := Heap.lt_size z5
  show wpAny _ _ (Builtin.SmallTypes.ownedTupleHandOut (.ref z) (.ref g5.objs.size) >>= _) _ _ _; refine wpAny_bind ?_
  unfold Builtin.SmallTypes.ownedTupleHandOut
  have z6 : IsZip (g5.push { cls := .type "tuple", data := .seq #[x, y] }) z TI TO .ellipsis := Heap.get?_push_of_some _ z5
  refine wpAny_bind (wpAny_setField_rec z6 (by simp) fun g7 z7 m7 => ?_)
  have z7 : IsZip g7 z TI TO (rawInt g5.objs.size) := z7
  refine wpAny_setField_rec z7 (by simp) fun g8 z8 m8 => ?_
  have z8 : IsZip g8 z TI TO (rawInt g5.objs.size) := z8
  have up : ∀ c o, c ≠ z → g5.get? c = some o → g8.get? c = some o := fun c o c1 e => m8.extBut _ _ c1 (m7.extBut _ _ c1 (Heap.get?_push_of_some _ e))
  have nw : IsPair g8 g5.objs.size x y := m8.extBut _ _ (Nat.ne_of_gt zl) (m7.extBut _ _ (Nat.ne_of_gt zl) (Heap.get?_push_size _ rfl))
  have s8 : g8.objs.size = g5.objs.size + 1 := by rw [m8.1, m7.1, Heap.size_push]
  rw [sz] at z8 nw s8
  refine wpAny_pure ⟨_, rfl, ?_⟩
  show Q (.ref g5.objs.size) _
  rw [sz]
  exact fin g8 z8 (up _ _ D.TOz p5) (u1.to fun o e => up _ o D.i1z e) (u2.to fun o e => up _ o D.i2z e) nw s8 fun c o c1 c2 c3 c4 e => up c o c1 (r5 c o c1 c2 c3 c4 e)
theorem zip_stop {Q : Fin → Shared → Prop} (un : A.handled = none) (D : ZipApart z TI TO i1 i2 l1 l2) (hz : IsZip s.heap z TI TO .none) (pI : IsPair s.heap TI (.ref i1) (.ref i2)) (pO : IsPair s.heap TO a b)
    (t1 : It b1 s.heap i1 l1 k1) (t2 : It b2 s.heap i2 l2 k2) (q1 : Sq b1 s.heap l1 xs) (q2 : Sq b2 s.heap l2 ys) (hend : xs[k1]? = none ∨ ys[k2]? = none)
    (hE : ∀ g e, Rest z TO i1 i2 s.heap g → (∃ o, g.get? e = some o ∧ o.cls = .type "StopIteration") → E (.ref e) { s with heap := g }) :
    wpAny (model prog w) A (Builtin.«zip.__next__» ⟨[.ref z], []⟩) Q E s := by
  show wpAny _ _ (field (.ref z) 2 >>= _) _ _ _; refine wpAny_bind (wpAny_field hz rfl (x := .bool false) rfl ?_)
  show wpAny _ _ (field (.ref z) 3 >>= _) _ _ _; refine wpAny_bind (wpAny_field hz rfl (x := .ref TI) rfl (wpAny_bind (wpAny_seqItems pI rfl ?_)))
  show wpAny _ _ (Builtin.SmallTypes.ownedTupleIsFree (.ref z) >>= _) _ _ _; refine wpAny_bind ?_
  unfold Builtin.SmallTypes.ownedTupleIsFree; refine wpAny_bind (wpAny_field hz rfl (x := .none) rfl (wpAny_pure ?_))
  simp only [if_true]; refine wpAny_bind (wpAny_rule (wpAny_bind (wpAny_field hz rfl (x := .ref TO) rfl ?_)))
  refine wpAny_bind (wpAny_setField_rec hz (by simp) fun g1 z1 m1 => ?_)
  have z1 : IsZip g1 z TI TO .ellipsis := z1
  refine wpAny_bind ?_; simp only [List.zipIdx_cons, List.zipIdx_nil, List.forIn_cons, List.forIn_nil]
  refine wpAny_bind (wpAny_bind (wpAny_onRaise ?_)); show wpAny _ _ (Builtin.SmallTypes.nextOf (.ref i1) >>= _) _ _ _
  cases hx : xs[k1]? with
  | none =>
    refine wpAny_bind (next_none un (t1.but m1.extBut D.i1z) (q1.but m1.extBut D.l1z) hx fun g2 e m2 he => ?_)
    obtain ⟨oe, ho, hc⟩ := he
    have z2 : IsZip g2 z TI TO .ellipsis := m2 _ _ D.i1z.symm z1
    have ez : e ≠ z := fun q => by subst q; rw [z2] at ho; cases ho; simp at hc
    refine wpAny_setField_rec z2 (by simp) fun g3 _ m3 => hE g3 e (fun c o c1 _ c3 _ q => m3.extBut _ _ c1 (m2 _ _ c3 (m1.extBut _ _ c1 q))) ⟨oe, m3.extBut _ _ ez ho, hc⟩
  | some x =>
    have hy : ys[k2]? = none := by rcases hend with h | h; rw [hx] at h; cases h; exact h
    refine wpAny_bind (next_one (t1.but m1.extBut D.i1z) (q1.but m1.extBut D.l1z) hx fun g2 u1 m2 => wpAny_pure ?_)
    have p2 : IsPair g2 TO a b := m2.extBut _ _ D.TOi1 (m1.extBut _ _ D.TOz pO)
    refine wpAny_bind (wpAny_seqItems p2 rfl (wpAny_bind (wpAny_updateSeq_pair p2 fun g3 p3 m3 => ?_)))
    refine wpAny_bind (wpAny_letGo (wpAny_pure (wpAny_bind (wpAny_bind (wpAny_onRaise ?_)))))
    show wpAny _ _ (Builtin.SmallTypes.nextOf (.ref i2) >>= _) _ _ _
    refine wpAny_bind (next_none un (((t2.but m1.extBut D.i2z).but m2.extBut D.i12.symm).but m3.extBut D.TOi2.symm) (((q2.but m1.extBut D.l2z).but m2.extBut D.l2i1).but m3.extBut D.l2TO) hy fun g4 e m4 he => ?_)
    obtain ⟨oe, ho, hc⟩ := he
    have z4 : IsZip g4 z TI TO .ellipsis := m4 _ _ D.i2z.symm (m3.extBut _ _ D.TOz.symm (m2.extBut _ _ D.i1z.symm z1))
    have ez : e ≠ z := fun q => by subst q; rw [z4] at ho; cases ho; simp at hc
    refine wpAny_setField_rec z4 (by simp) fun g5 _ m5 => hE g5 e (fun c o c1 c2 c3 c4 q => m5.extBut _ _ c1 (m4 _ _ c4 (m3.extBut _ _ c2 (m2.extBut _ _ c3 (m1.extBut _ _ c1 q))))) ⟨oe, m5.extBut _ _ ez ho, hc⟩
theorem py_turn {x y : Value} {Q : Option Value → Shared → Prop} (D : ZipApart z TI TO i1 i2 l1 l2) (hz : IsZip s.heap z TI TO .none) (pI : IsPair s.heap TI (.ref i1) (.ref i2)) (pO : IsPair s.heap TO a b)
    (t1 : It b1 s.heap i1 l1 k1) (t2 : It b2 s.heap i2 l2 k2) (q1 : Sq b1 s.heap l1 xs) (q2 : Sq b2 s.heap l2 ys) (hx : xs[k1]? = some x) (hy : ys[k2]? = some y)
    (fin : ∀ g, IsZip g z TI TO (rawInt s.heap.objs.size) → IsPair g TO x y → It b1 g i1 l1 (k1 + 1) → It b2 g i2 l2 (k2 + 1) → IsPair g s.heap.objs.size x y → g.objs.size = s.heap.objs.size + 1 → Rest z TO i1 i2 s.heap g → Q (some (.ref s.heap.objs.size)) { s with heap := g }) :
    wpAny (model prog w) A (pyNext (.ref z)) Q E s := by
  have hT : s.TypeIs (.ref z) "zip" := ⟨_, hz, rfl⟩
  unfold pyNext
  exact wpAny_bind (wpAny_attempt (wpAny_callSpecial?_slot (name := Str.ofString "__next__") hT PySem.F.slot_zip_next
    (wpAny_call_entry PySem.F.slot_zip_next hT PySem.F.entry_zip_next (zip_turn D hz pI pO t1 t2 q1 q2 hx hy fun g a1 a2 a3 a4 a5 a6 a7 => wpAny_pure (fin g a1 a2 a3 a4 a5 a6 a7)) (PySem.F.args_zip_next_1 _))))
theorem py_stop {Q : Option Value → Shared → Prop} (un : A.handled = none) (D : ZipApart z TI TO i1 i2 l1 l2) (hz : IsZip s.heap z TI TO .none) (pI : IsPair s.heap TI (.ref i1) (.ref i2)) (pO : IsPair s.heap TO a b)
    (t1 : It b1 s.heap i1 l1 k1) (t2 : It b2 s.heap i2 l2 k2) (q1 : Sq b1 s.heap l1 xs) (q2 : Sq b2 s.heap l2 ys) (hend : xs[k1]? = none ∨ ys[k2]? = none)
    (fin : ∀ g, Rest z TO i1 i2 s.heap g → Q none { s with heap := g }) : wpAny (model prog w) A (pyNext (.ref z)) Q E s := by
  have hT : s.TypeIs (.ref z) "zip" := ⟨_, hz, rfl⟩
  unfold pyNext
  refine wpAny_bind (wpAny_attempt (wpAny_callSpecial?_slot (name := Str.ofString "__next__") hT PySem.F.slot_zip_next
    (wpAny_call_entry PySem.F.slot_zip_next hT PySem.F.entry_zip_next (zip_stop un D hz pI pO t1 t2 q1 q2 hend fun g e hk he => ?_) (PySem.F.args_zip_next_1 _))))
  obtain ⟨o, ho, hc⟩ := he
  exact wpAny_bind (wpAny_isInstance (T := "StopIteration") (b := true) ⟨o, ho, hc⟩ isSubtype_stop (wpAny_pure (fin _ hk)))
end
/-! the making -/
def itO (b : Bool) (l : Addr) : Obj := cond b { cls := .type "tuple_iterator", data := .fields #[.ref l, .int 0 0] } { cls := .type "list_iterator", data := .fields #[.ref l, .int 0 0] }
def mk1 (b : Bool) (h : Heap) (l1 : Addr) : Heap := h.push (itO b l1)
def mk2 (b1 b2 : Bool) (h : Heap) (l1 l2 : Addr) : Heap := (mk1 b1 h l1).push (itO b2 l2)
def mk3 (b1 b2 : Bool) (h : Heap) (l1 l2 : Addr) : Heap := (mk2 b1 b2 h l1 l2).push { cls := .type "tuple", data := .seq #[.ref h.objs.size, .ref (mk1 b1 h l1).objs.size] }
def mk4 (b1 b2 : Bool) (h : Heap) (l1 l2 : Addr) : Heap := (mk3 b1 b2 h l1 l2).push { cls := .type "tuple", data := .seq #[.none, .none] }
def mk5 (b1 b2 : Bool) (h : Heap) (l1 l2 : Addr) : Heap := (mk4 b1 b2 h l1 l2).push { cls := .type "zip", data := .fields #[.none, .bool false, .bool false, .ref (mk2 b1 b2 h l1 l2).objs.size, .ref (mk3 b1 b2 h l1 l2).objs.size] }
theorem meets_new (b1 b2 : Bool) (l1 l2 : Addr) (xs ys : Array Value) :
    Meets (Builtin.«zip.__new__» ⟨[.type "zip", .ref l1, .ref l2], []⟩) (fun _ R s => Sq b1 s.heap l1 xs ∧ Sq b2 s.heap l2 ys ∧ R (.ok (.ret (.ref (mk4 b1 b2 s.heap l1 l2).objs.size))) { s with heap := mk5 b1 b2 s.heap l1 l2 }) :=
  .of_wp fun prog w A R s h => by
    obtain ⟨hp, g, d, tk, os⟩ := s
    obtain ⟨q1, q2, h⟩ := h
    have hs := sub_zip
    have q3 : Sq b2 (hp.push (itO b1 l1)) l2 ys := q2.to fun o e => Heap.get?_push_of_some _ e
    cases b1 <;> cases b2
    · have L1 : Heap.IsList (Shared.heap ⟨hp, g, d, tk, os⟩) l1 xs := q1
      have L2 : Heap.IsList (Shared.heap ⟨hp.push { cls := .type "list_iterator", data := .fields #[.ref l1, .int 0 0] }, g, d, tk, os⟩) l2 ys := q3
      wp_walk using wpAny_pyIter_list L1, wpAny_pyIter_list L2
      exact ⟨_, rfl, h⟩
    · have L1 : Heap.IsList (Shared.heap ⟨hp, g, d, tk, os⟩) l1 xs := q1
      have L2 : Heap.IsTuple (Shared.heap ⟨hp.push { cls := .type "list_iterator", data := .fields #[.ref l1, .int 0 0] }, g, d, tk, os⟩) l2 ys := q3
      wp_walk using wpAny_pyIter_list L1, wpAny_pyIter_tuple L2
      exact ⟨_, rfl, h⟩
    · have L1 : Heap.IsTuple (Shared.heap ⟨hp, g, d, tk, os⟩) l1 xs := q1
      have L2 : Heap.IsList (Shared.heap ⟨hp.push { cls := .type "tuple_iterator", data := .fields #[.ref l1, .int 0 0] }, g, d, tk, os⟩) l2 ys := q3
      wp_walk using wpAny_pyIter_tuple L1, wpAny_pyIter_list L2
      exact ⟨_, rfl, h⟩
    · have L1 : Heap.IsTuple (Shared.heap ⟨hp, g, d, tk, os⟩) l1 xs := q1
      have L2 : Heap.IsTuple (Shared.heap ⟨hp.push { cls := .type "tuple_iterator", data := .fields #[.ref l1, .int 0 0] }, g, d, tk, os⟩) l2 ys := q3
      wp_walk using wpAny_pyIter_tuple L1, wpAny_pyIter_tuple L2
      exact ⟨_, rfl, h⟩
theorem it_new {b : Bool} {g : Heap} {it l : Addr} (h : g.get? it = some (itO b l)) : It b g it l 0 := by
  cases b with
  | true => exact ⟨_, h, rfl, rfl⟩
  | false => exact ⟨_, h, rfl, rfl⟩
theorem itO_live (b : Bool) (l : Addr) : (itO b l).isFreed = false := by cases b <;> rfl
section
variable {prog : Program} {w : World} {A : Around} {E : Value → Shared → Prop} {s : Shared}
theorem call_zipM {b1 b2 : Bool} {l1 l2 : Addr} {xs ys : Array Value} {Q : Value → Shared → Prop} (q1 : Sq b1 s.heap l1 xs) (q2 : Sq b2 s.heap l2 ys)
    (fin : ∀ g, IsZip g (s.heap.objs.size + 4) (s.heap.objs.size + 2) (s.heap.objs.size + 3) .none → IsPair g (s.heap.objs.size + 2) (.ref s.heap.objs.size) (.ref (s.heap.objs.size + 1)) → IsPair g (s.heap.objs.size + 3) .none .none →
      It b1 g s.heap.objs.size l1 0 → It b2 g (s.heap.objs.size + 1) l2 0 → (∀ c o, s.heap.get? c = some o → g.get? c = some o) → Q (.ref (s.heap.objs.size + 4)) { s with heap := g }) :
    wpAny (model prog w) A (call (.type "zip") [.ref l1, .ref l2]) Q E s := by
  refine callType_new PySem.F.called_zip (by decide) (PySem.F.typeCall_zip_2 _ _) (PySem.F.newCall_zip_2 _ _) (fun obj => PySem.F.args_object_init_3 obj _ _) PySem.F.entry_zip_new (meets_new b1 b2 l1 l2 xs ys) ⟨q1, q2, ?_⟩
  have n1 : (mk1 b1 s.heap l1).objs.size = s.heap.objs.size + 1 := Heap.size_push ..
  have n2 : (mk2 b1 b2 s.heap l1 l2).objs.size = s.heap.objs.size + 2 := (Heap.size_push ..).trans (by rw [n1])
  have n3 : (mk3 b1 b2 s.heap l1 l2).objs.size = s.heap.objs.size + 3 := (Heap.size_push ..).trans (by rw [n2])
  have n4 : (mk4 b1 b2 s.heap l1 l2).objs.size = s.heap.objs.size + 4 := (Heap.size_push ..).trans (by rw [n3])
  have d5 : (mk5 b1 b2 s.heap l1 l2).get? (mk4 b1 b2 s.heap l1 l2).objs.size = some { cls := .type "zip", data := .fields #[.none, .bool false, .bool false, .ref (mk2 b1 b2 s.heap l1 l2).objs.size, .ref (mk3 b1 b2 s.heap l1 l2).objs.size] } := Heap.get?_push_size _ rfl
  have d4 : (mk5 b1 b2 s.heap l1 l2).get? (mk3 b1 b2 s.heap l1 l2).objs.size = some { cls := .type "tuple", data := .seq #[.none, .none] } := Heap.get?_push_of_some _ (Heap.get?_push_size _ rfl)
  have d3 : (mk5 b1 b2 s.heap l1 l2).get? (mk2 b1 b2 s.heap l1 l2).objs.size = some { cls := .type "tuple", data := .seq #[.ref s.heap.objs.size, .ref (mk1 b1 s.heap l1).objs.size] } := Heap.get?_push_of_some _ (Heap.get?_push_of_some _ (Heap.get?_push_size _ rfl))
  have d2 : (mk5 b1 b2 s.heap l1 l2).get? (mk1 b1 s.heap l1).objs.size = some (itO b2 l2) := Heap.get?_push_of_some _ (Heap.get?_push_of_some _ (Heap.get?_push_of_some _ (Heap.get?_push_size _ (itO_live b2 l2))))
  have d1 : (mk5 b1 b2 s.heap l1 l2).get? s.heap.objs.size = some (itO b1 l1) := Heap.get?_push_of_some _ (Heap.get?_push_of_some _ (Heap.get?_push_of_some _ (Heap.get?_push_of_some _ (Heap.get?_push_size _ (itO_live b1 l1)))))
  show _ ∧ _
  rw [n2, n3, n4] at d5
  rw [n1, n2] at d3
  rw [n3] at d4
  rw [n1] at d2
  rw [n4]
  exact ⟨⟨_, d5, rfl⟩, fin _ d5 d3 d4 (it_new d1) (it_new d2) fun c o x => Heap.get?_push_of_some _ (Heap.get?_push_of_some _ (Heap.get?_push_of_some _ (Heap.get?_push_of_some _ (Heap.get?_push_of_some _ x))))⟩
end
end ZM

/-! zip of mixed kinds, in a loop -/
namespace ZM
open PySem PySem.Spec PyProof.Rows L2
def SqX (b : Bool) (K : PySem.W.Frag) (H : Hp) (a : Addr) (xs : List V) : Prop := cond b (SqT K H a xs) (SqL K H a xs)
section
variable {X : Cx} {pins : List (Addr × Obj)} {σ : L2.St} {H : Hp} {s : Shared} {a : Addr} {xs ys : List V}
theorem sq_get {b : Bool} (I : Inv X pins σ H s) (h : SqX b X.K H a xs) : ∃ its, Vals xs its ∧ Sq b s.heap a its.toArray := by
  cases b with
  | true => obtain ⟨its, rv, p, _⟩ := I.tuple h; exact ⟨its, rv, p⟩
  | false => obtain ⟨its, rv, p, _⟩ := I.list h; exact ⟨its, rv, p.isList⟩
theorem sq_one {b : Bool} (I : Inv X pins σ H s) (h : SqX b X.K H a xs) (h' : SqX b X.K H a ys) : xs = ys := by
  cases b with
  | true => exact I.tuple_inj h h'
  | false => exact I.list_inj h h'
end
def ItzM (K : PySem.W.Frag) (b1 b2 : Bool) (a c : Addr) : L2.It :=
  ⟨fun i H => ∃ (xs ys : List V) (x y : V), SqX b1 K H a xs ∧ SqX b2 K H c ys ∧ xs[i]? = some x ∧ ys[i]? = some y,
    fun i H v H' => ∃ T x y, v = .ref T ∧ H T = none ∧ H' = upd H T (.tup [x, y]) ∧ (∀ xs, SqX b1 K H a xs → xs[i]? = some x) ∧ ∀ ys, SqX b2 K H c ys → ys[i]? = some y,
    fun i H => ∃ xs ys : List V, SqX b1 K H a xs ∧ SqX b2 K H c ys ∧ (xs.length ≤ i ∨ ys.length ≤ i)⟩
theorem five {α : Type} {c a1 a2 a3 a4 a5 : α} (h : c ∈ [a1, a2, a3, a4, a5]) : c = a1 ∨ c = a2 ∨ c = a3 ∨ c = a4 ∨ c = a5 := by simpa using h
theorem turn_zipM {P : Program} {w : World} {K : PySem.W.Frag} {elts : List Expr} {kk : Nat} {tpos : Pos} {b1 b2 : Bool} {a b z TI TO i1 i2 : Addr} (D : ZipApart z TI TO i1 i2 a b) :
    Turn P w K (.Tuple elts kk tpos) (ItzM K b1 b2 a b) [z, TI, TO, i1, i2] z (fun i h => IsZip h z TI TO .none ∧ IsPair h TI (.ref i1) (.ref i2) ∧ (∃ x y, IsPair h TO x y) ∧ It b1 h i1 a i ∧ It b2 h i2 b i) where
  mem := by simp
  obj := fun i h st c hc => by
    obtain ⟨hz, pI, ⟨x, y, pO⟩, t1, t2⟩ := st
    rcases five hc with rfl | rfl | rfl | rfl | rfl
    · exact ⟨_, hz, fun v q => nomatch q⟩
    · exact ⟨_, pI, fun v q => nomatch q⟩
    · exact ⟨_, pO, fun v q => nomatch q⟩
    · exact t1.ob
    · exact t2.ob
  keep := fun i h h' st k => by
    obtain ⟨hz, pI, ⟨x, y, pO⟩, t1, t2⟩ := st
    exact ⟨k z (by simp) _ hz, k TI (by simp) _ pI, ⟨x, y, k TO (by simp) _ pO⟩, t1.to fun o q => k i1 (by simp) o q, t2.to fun o q => k i2 (by simp) o q⟩
  item := by
    intro X hP hw hK hc i pins s σ H E I hf st hg
    subst hP hw hK
    obtain ⟨hz, pI, ⟨x0, y0, pO⟩, t1, t2⟩ := st
    obtain ⟨xs, ys, x, y, g1, g2, hx, hy⟩ := hg
    obtain ⟨its, rv, p⟩ := sq_get I g1
    obtain ⟨its2, rv2, p2⟩ := sq_get I g2
    obtain ⟨u, hu, ru⟩ := rv.get hx
    obtain ⟨u2, hu2, ru2⟩ := rv2.get hy
    have zl : z < s.heap.objs.size := Heap.lt_size hz
    refine py_turn D hz pI pO t1 t2 p p2 (x := u) (y := u2) (by simpa using hu) (by simpa using hu2) fun g z' pO' t1' t2' nw sz rest => ?_
    refine ⟨_, rfl, wpAny_letOwnedTupleGo_zip (s := { s with heap := g }) z' fun gh z2 sb => ?_⟩
    have nw2 : gh.get? s.heap.objs.size = some { cls := .type "tuple", data := .seq #[u, u2] } := (sb.2 _ (Nat.ne_of_gt zl)).trans nw
    have ok : ObjOk X.prog X.w (upd H s.heap.objs.size (.tup [x, y])) gh s.heap.objs.size (.tup [x, y]) := ⟨by show 2 ≤ sizeLine; decide, [u, u2], .cons ru (.cons ru2 .nil), ⟨_, nw2, rfl, _, rfl⟩⟩
    have I1 : Inv X pins σ (upd H s.heap.objs.size (.tup [x, y])) { s with heap := gh } := I.turnedNew (t' := s.toks) (ch := [z, TI, TO, i1, i2]) (fun c o hb q => by
      simp only [List.mem_cons, List.not_mem_nil, or_false, not_or] at hb
      exact (sb.2 c hb.1).trans (rest c o hb.1 hb.2.2.1 hb.2.2.2.1 hb.2.2.2.2 q)) hf (Nat.le_refl _) ok
    refine ⟨.ref s.heap.objs.size, _, I1, rfl, ⟨_, x, y, rfl, I.hok.fresh (Nat.le_refl _), rfl, fun l hl => by rw [sq_one I hl g1]; exact hx, fun l hl => by rw [sq_one I hl g2]; exact hy⟩, ⟨z2, ?_, ⟨u, u2, ?_⟩, ?_, ?_⟩, fun c hcm => ?_⟩
    · exact (sb.2 _ D.TIz).trans (rest _ _ D.TIz D.TITO D.TIi1 D.TIi2 pI)
    · exact (sb.2 _ D.TOz).trans pO'
    · exact t1'.to fun o q => (sb.2 _ D.i1z).trans q
    · exact t2'.to fun o q => (sb.2 _ D.i2z).trans q
    · have lt : c < s.heap.objs.size := by
        rcases five hcm with rfl | rfl | rfl | rfl | rfl
        · exact zl
        · exact Heap.lt_size pI
        · exact Heap.lt_size pO
        · obtain ⟨_, e, _⟩ := t1.ob; exact Heap.lt_size e
        · obtain ⟨_, e, _⟩ := t2.ob; exact Heap.lt_size e
      rw [upd_ne (Nat.ne_of_lt lt)]
      exact (hf c hcm).1
  done := by
    intro X hP hw hK hc i pins s σ H E I hf st hg
    subst hP hw hK
    obtain ⟨hz, pI, ⟨x0, y0, pO⟩, t1, t2⟩ := st
    obtain ⟨xs, ys, g1, g2, hend⟩ := hg
    obtain ⟨its, rv, p⟩ := sq_get I g1
    obtain ⟨its2, rv2, p2⟩ := sq_get I g2
    have l1 := rv.length
    have l2 := rv2.length
    have he : its.toArray[i]? = none ∨ its2.toArray[i]? = none := hend.imp (fun q => by simp; omega) fun q => by simp; omega
    exact py_stop (I.ok.hd hc) D hz pI pO t1 t2 p p2 he fun g rest => ⟨rfl, I.turnedL (t' := s.toks) (ch := [z, TI, TO, i1, i2]) (fun c o hb q => by
      simp only [List.mem_cons, List.not_mem_nil, or_false, not_or] at hb
      exact rest c o hb.1 hb.2.2.1 hb.2.2.2.1 hb.2.2.2.2 q) hf⟩
  self := fun A i s Q E st h => wpAny_pyIter_zip st.1 h
def iZipM (K : PySem.W.Frag) (ta : TA) : TI := fun σ H R => ta σ H fun vs H1 => ∃ a b b1 b2 xs ys, vs = [.ref a, .ref b] ∧ SqX b1 K H1 a xs ∧ SqX b2 K H1 b ys ∧ R (ItzM K b1 b2 a b) H1
theorem pi_zipM {X : Cx} {e e2 : Expr} {ta : TA} {p pos tpos : Pos} {elts : List Expr} {kk : Nat} (hg : Gl X "zip") (hm : X.mg "zip" = none) (ha : PA X [e, e2] ta)
    (hs : starEach [e, e2] X.env = (false, eval e X.env) :: starEach [e2] X.env := by rfl) (hpl : (backTo pos (starEach [e2] X.env)).any (·.1) = false := by rfl) :
    PI X (.Tuple elts kk tpos) (.Call (.Name "zip" p) [e, e2] [] pos) (iZipM X.K ta) := by
  refine ⟨fun pins s σ H R I h => ?_⟩
  refine Call_ (ld_blt I hg hm PyProof.Rows.boot_zip (PyProof.Rows.callWith_type1 (thn (ha.run pos pins s σ H _ I h) fun us s1 ⟨vs, H1, I1, r1, q1⟩ => ?_) hs hpl))
  obtain ⟨a, b, b1, b2, xs, ys, ex, g1, g2, q⟩ := q1
  subst ex
  cases r1 with
  | cons r rr =>
    cases rr with
    | cons r' rr =>
      cases rr
      cases r
      cases r'
      have new5 : ∀ c, c ∈ [s1.heap.objs.size + 4, s1.heap.objs.size + 2, s1.heap.objs.size + 3, s1.heap.objs.size, s1.heap.objs.size + 1] → FpOk X pins H1 c := fun c hcm => by
        have le : s1.heap.objs.size ≤ c := by
          rcases five hcm with rfl | rfl | rfl | rfl | rfl
          · exact Nat.le_add_right _ _
          · exact Nat.le_add_right _ _
          · exact Nat.le_add_right _ _
          · exact Nat.le_refl _
          · exact Nat.le_add_right _ _
        exact I1.fpOk le (I1.hok.fresh le)
      obtain ⟨its, rv, p1⟩ := sq_get I1 g1
      obtain ⟨its2, rv2, p2⟩ := sq_get I1 g2
      refine call_zipM p1 p2 fun g hz pI pO t1 t2 rest => wpAny_pyIter_zip hz ?_
      exact ⟨s1.heap.objs.size + 4, [s1.heap.objs.size + 4, s1.heap.objs.size + 2, s1.heap.objs.size + 3, s1.heap.objs.size, s1.heap.objs.size + 1], _, _, H1, rfl, I1.kept (t' := s1.toks) rest, turn_zipM (PySem.W.ktu_apart s1.heap.objs.size a b p1.lt p2.lt), ⟨hz, pI, ⟨_, _, pO⟩, t1, t2⟩, new5, q⟩
end ZM
namespace DL
open PySem PySem.Spec PyProof.Rows L2
theorem sqX_mono {b : Bool} {K : PySem.W.Frag} {F F' : Hp} (h : Same F F') {a : Addr} {xs : List V} (q : ZM.SqX b K F a xs) : ZM.SqX b K F' a xs := by
  cases b with
  | true => exact sqT_mono h q
  | false => exact sqL_mono h q
theorem jok_zipM {K : PySem.W.Frag} {F : Hp} {b1 b2 : Bool} {a b : Addr} {vs us : List V} {ds es : List D} (h : ZM.SqX b1 K F a vs) (r : RelDs K F ds vs) (h' : ZM.SqX b2 K F b us) (r' : RelDs K F es us) : JOk K F (ZM.ItzM K b1 b2 a b) (zipD ds es) := by
  intro i F' Fr l H s R
  have q := sqX_mono R.fz (sqX_mono s h)
  have q' := sqX_mono R.fz (sqX_mono s h')
  refine ⟨fun hi => ⟨vs, us, q, q', ?_⟩, fun d hd => ?_⟩
  · have e : (zipD ds es)[i]? = none := List.getElem?_eq_none hi
    rw [zipD_get] at e
    rw [← r.length, ← r'.length]
    cases e1 : ds[i]? with
    | none => exact .inl (List.getElem?_eq_none_iff.mp e1)
    | some _ =>
      cases e2 : es[i]? with
      | none => exact .inr (List.getElem?_eq_none_iff.mp e2)
      | some _ => rw [e1, e2] at e; cases e
  · rw [zipD_get] at hd
    cases e1 : ds[i]? with
    | none => rw [e1] at hd; cases hd
    | some d1 =>
      cases e2 : es[i]? with
      | none => rw [e1, e2] at hd; cases hd
      | some d2 =>
        rw [e1, e2] at hd
        cases hd
        obtain ⟨v, hv, rv⟩ := r.get e1
        obtain ⟨u, hu, ru⟩ := r'.get e2
        refine ⟨⟨vs, us, v, u, q, q', hv, hu⟩, fun x H' ⟨T, x0, y0, ex, nT, eH, y1, y2⟩ => ?_⟩
        subst ex eH
        have f1 := y1 vs q
        have f2 := y2 us q'
        rw [hv] at f1
        rw [hu] at f2
        cases f1
        cases f2
        exact ⟨_, same_upd (R.F_none nT), relTup (R.F_none nT) (.cons (rv.mono s) (.cons (ru.mono s) .nil)), R.laid nT _⟩
def seqOf : D → Option (List D)
  | .lst xs => some xs
  | .tup xs => some xs
  | _ => none
theorem seq_rel {K : PySem.W.Frag} {F : Hp} {d : D} {v : V} {xs : List D} (r : RelD K F d v) (h : seqOf d = some xs) : ∃ a b vs, v = .ref a ∧ ZM.SqX b K F a vs ∧ RelDs K F xs vs := by
  cases r with
  | @tup p vs ds h1 rr => cases h; exact ⟨p, true, vs, rfl, tq h1, rr⟩
  | @lst p vs ds h1 rr => cases h; exact ⟨p, false, vs, rfl, .inl (.inl h1), rr⟩
  | _ => cases h
/-- for over zip(x, y): x, y lists or tuples that stay, or y a list that may be written, as long as it stays -/
def kForZ (g : DTG) (tb : DTS) (E : DEnds) (env : DSt) (l1 : LH) (x y : D) : Prop := match seqOf x with
  | some xs => match seqOf y with
    | some ys => forL g tb (zipD xs ys) E env l1
    | none => match y with
      | .ref a => getO l1 a fun o => match o with | .lst ys => forR a ys g tb (zipD xs ys) E env l1 | _ => False
      | _ => False
  | none => False
def sForRZ (ta : DTA) (g : DTG) (tb : DTS) : DTS := fun E env l => ta env l fun ds l1 => match ds with
  | [x, y] => kForZ g tb E env l1 x y
  | _ => False
section
variable {X : Cx}
def LIz (K : PySem.W.Frag) (F Fr : Hp) (g : DTG) (tb : DTS) (E : DEnds) (env : DSt) : It → Hp → Prop := fun J H => ∃ F1 l1, Same F F1 ∧ Rep K F1 Fr l1 H ∧
  ((∃ ds, JOk K F1 J ds ∧ forL g tb ds E env l1) ∨ ∃ b p vs xs a ys, J = ZM.ItzM K b false p a ∧ ZM.SqX b K F1 p vs ∧ RelDs K F1 xs vs ∧ forR a ys g tb (zipD xs ys) E env l1)
theorem ds_forRZ {e e2 : Expr} {elts : List Expr} {kk : Nat} {tpos : Pos} {body : List Stmt} {ta : DTA} {g : DTG} {tb : DTS} {vs : List Nat} {p pos pos' : Pos} (hp : PassesOwn (model X.prog X.w) X.A X.env X.xe) (hc : X.calm = true) (hgl : Gl X "zip") (hm : X.mg "zip" = none) (hi : DA X [e, e2] ta) (hg : DG X (.Tuple elts kk tpos) vs g) (hb : DSs X body tb)
    (hse : starEach [e, e2] X.env = (false, eval e X.env) :: starEach [e2] X.env := by rfl) (hpl : (backTo pos' (starEach [e2] X.env)).any (·.1) = false := by rfl) (hs : ∀ x, foldedSetIterable (.Call (.Name "zip" p) [e, e2] [] pos') X.env x = pure x := by intro _; rfl) : DS X (.For (.Tuple elts kk tpos) (.Call (.Name "zip" p) [e, e2] [] pos') body [] pos) (sForRZ ta g tb) := by
  refine ⟨?_⟩
  intro F Fr env l σ H E he hr ht
  refine (ps_for hp hc piW pgW pssW hs).ws ?_
  have w : WI X (.Tuple elts kk tpos) (.Call (.Name "zip" p) [e, e2] [] pos') σ H (LIz X.K F Fr g tb E env) := by
    refine (ZM.pi_zipM hgl hm paW hse hpl).wi ?_
    refine (hi F Fr env l σ H _ he hr ht).mono fun us H1 ⟨F1, ds, l1, s1, r1, R1, q1⟩ => ?_
    cases r1 with
    | nil => exact q1.elim
    | @cons d1 v1 _ _ ra rr =>
      cases rr with
      | nil => exact q1.elim
      | @cons d2 v2 _ _ rb rr =>
        cases rr with
        | cons _ _ => exact q1.elim
        | nil =>
          have q1 : kForZ g tb E env l1 d1 d2 := q1
          unfold kForZ at q1
          cases e1 : seqOf d1 with
          | none => rw [e1] at q1; exact q1.elim
          | some xs =>
            rw [e1] at q1
            obtain ⟨a, b1, vs1, rfl, h1, r1⟩ := seq_rel ra e1
            cases e2 : seqOf d2 with
            | some ys =>
              rw [e2] at q1
              obtain ⟨a2, b2, vs2, rfl, h2, r2⟩ := seq_rel rb e2
              exact ⟨a, a2, b1, b2, _, _, rfl, sqX_mono R1.fz h1, sqX_mono R1.fz h2, F1, l1, s1, R1, .inl ⟨_, jok_zipM h1 r1 h2 r2, q1⟩⟩
            | none =>
              rw [e2] at q1
              cases rb with
              | ref a2 =>
                obtain ⟨o, ho, q⟩ := q1
                cases o with
                | lst ys =>
                  obtain ⟨ws, rw', hh⟩ := (R1.lv _ _ ho).2
                  have h2 : ZM.SqX false X.K H1 a2 ws := .inl (.inl hh)
                  exact ⟨a, a2, b1, false, _, _, rfl, sqX_mono R1.fz h1, h2, F1, l1, s1, R1, .inr ⟨b1, a, vs1, xs, a2, ys, rfl, h1, r1, q⟩⟩
                | _ => exact q.elim
              | _ => exact q1.elim
  refine w.mono fun J H1 ⟨F1, l1, s1, R1, q1⟩ => ?_
  have body_ok : ∀ {F2 : Hp} {l2 : LH} {σ2 : St} {H2 : Hp} {env2 : DSt} {d : D} {x : V} {Ek : DEnds} {N : St → Hp → Prop}, Same F1 F2 → RepE X.K F2 env2 σ2 → Rep X.K F2 Fr l2 H2 → RelD X.K F2 d x → Ek.rt = E.rt → Ek.bk = E.nx →
      (g d env2 l2 fun env1 l1 => tb Ek env1 l1) → (∀ σ5 H5 F5 env5 l5, Same F2 F5 → RepE X.K F5 env5 σ5 → Rep X.K F5 Fr l5 H5 → (Ek.nx env5 l5 ∨ Ek.ct env5 l5) → N σ5 H5) →
      WG X (.Tuple elts kk tpos) x σ2 H2 fun σ' H' => WSs X body { LE X.K F Fr E with nx := N, ct := N, bk := (LE X.K F Fr E).nx } σ' H' := by
    intro F2 l2 σ2 H2 env2 d x Ek N s2 he2 R2 rx e1 e2 q2 hN
    refine (hg F2 Fr env2 l2 σ2 H2 _ _ _ he2 R2 rx q2).mono fun σ4 H4 ⟨_, F4, env4, l4, s4, he4, R4, q4⟩ => ?_
    have S : Same F1 F4 := s2.trans s4
    refine (hb F4 Fr env4 l4 σ4 H4 _ he4 R4 q4).mono (fun σ5 H5 q => ?_) (fun _ _ q => ?_) (fun _ _ q => ?_) (fun σ5 H5 q => ?_)
    · obtain ⟨F5, env5, l5, s5, he5, R5, q5⟩ := q
      exact hN _ _ F5 env5 l5 (s4.trans s5) he5 R5 (.inl q5)
    · rw [show (LE X.K F4 Fr Ek).rt = LK X.K F4 Fr Ek.rt from rfl, e1] at q
      exact LK.weak (s1.trans S) q
    · rw [show (LE X.K F4 Fr Ek).bk = LS X.K F4 Fr Ek.bk from rfl, e2] at q
      exact LS.weak (s1.trans S) q
    · obtain ⟨F5, env5, l5, s5, he5, R5, q5⟩ := q
      exact hN _ _ F5 env5 l5 (s4.trans s5) he5 R5 (.inr q5)
  rcases q1 with ⟨ds, jk, q1⟩ | ⟨b, pa, ws, xs, a, ys, ej, h1, r1, q1⟩
  · refine ⟨fun i m σ H => m = ds.length - i ∧ i ≤ ds.length ∧ ∃ F' env l, Same F1 F' ∧ RepE X.K F' env σ ∧ Rep X.K F' Fr l H ∧ forL g tb (ds.drop i) E env l, ⟨_, rfl, Nat.zero_le _, F1, env, l1, Same.refl _, he.mono s1, R1, q1⟩, ?_⟩
    rintro i m σ H ⟨rfl, hi, F2, env, l, s2, he2, R2, q2⟩
    obtain ⟨j1, j2⟩ := jk i F2 Fr l H s2 R2
    by_cases hlt : i < ds.length
    · rw [List.drop_eq_getElem_cons hlt] at q2
      obtain ⟨go, y⟩ := j2 ds[i] (List.getElem?_eq_getElem hlt)
      refine .inr ⟨go, fun σ H => ∃ F' env l, Same F1 F' ∧ RepE X.K F' env σ ∧ Rep X.K F' Fr l H ∧ forL g tb (ds.drop (i + 1)) E env l, fun σ' H' h => ⟨_, by omega, rfl, hlt, h⟩, fun x H' hy => ?_⟩
      obtain ⟨F3, s3, rx, R3⟩ := y x H' hy
      refine body_ok (Ek := ⟨forL g tb (ds.drop (i + 1)) E, E.rt, E.nx, forL g tb (ds.drop (i + 1)) E⟩) (s2.trans s3) (he2.mono s3) R3 rx rfl rfl q2 fun σ5 H5 F5 env5 l5 s5 he5 R5 q5 => ⟨F5, env5, l5, (s2.trans s3).trans s5, he5, R5, by rcases q5 with q5 | q5 <;> exact q5⟩
    · have e : i = ds.length := by omega
      subst e
      rw [List.drop_length] at q2
      exact .inl ⟨j1 (Nat.le_refl _), F2, env, l, s1.trans s2, he2, R2, q2⟩
  · subst ej
    refine ⟨fun i m σ H => m = (zipD xs ys).length - i ∧ i ≤ (zipD xs ys).length ∧ ∃ F' env l, Same F1 F' ∧ RepE X.K F' env σ ∧ Rep X.K F' Fr l H ∧ forR a ys g tb ((zipD xs ys).drop i) E env l, ⟨_, rfl, Nat.zero_le _, F1, env, l1, Same.refl _, he.mono s1, R1, q1⟩, ?_⟩
    rintro i m σ H ⟨rfl, hi, F2, env, l, s2, he2, R2, q2⟩
    obtain ⟨vs, rv, hq⟩ := (R2.lv _ _ (forR_at q2)).2
    have qa : ZM.SqX false X.K H a vs := .inl (.inl hq)
    have qp : ZM.SqX b X.K H pa ws := sqX_mono R2.fz (sqX_mono s2 h1)
    by_cases hlt : i < (zipD xs ys).length
    · rw [List.drop_eq_getElem_cons hlt] at q2
      have ei := zipD_get xs ys i
      rw [List.getElem?_eq_getElem hlt] at ei
      cases e1 : xs[i]? with
      | none => rw [e1] at ei; cases ei
      | some d1 =>
        cases e2 : ys[i]? with
        | none => rw [e1, e2] at ei; cases ei
        | some d2 =>
          rw [e1, e2] at ei
          have ei := Option.some.inj ei
          rw [ei] at q2
          obtain ⟨v1, hv1, rx1⟩ := r1.get e1
          obtain ⟨v2, hv2, rx2⟩ := rv.get e2
          refine .inr ⟨⟨ws, vs, v1, v2, qp, qa, hv1, hv2⟩, fun σ H => ∃ F' env l, Same F1 F' ∧ RepE X.K F' env σ ∧ Rep X.K F' Fr l H ∧ forR a ys g tb ((zipD xs ys).drop (i + 1)) E env l, fun σ' H' h => ⟨_, by omega, rfl, hlt, h⟩, fun x H' hy => ?_⟩
          obtain ⟨T, x0, y0, ex, nT, eH, y1, y2⟩ := hy
          subst ex eH
          have f1 := y1 ws qp
          have f2 := y2 vs qa
          rw [hv1] at f1
          rw [hv2] at f2
          cases f1
          cases f2
          have s3 : Same F2 (upd F2 T (.tup [v1, v2])) := same_upd (R2.F_none nT)
          refine body_ok (Ek := ⟨forR a ys g tb ((zipD xs ys).drop (i + 1)) E, E.rt, E.nx, forR a ys g tb ((zipD xs ys).drop (i + 1)) E⟩) (s2.trans s3) (he2.mono s3) (R2.laid nT _) (relTup (R2.F_none nT) (.cons (rx1.mono s2) (.cons rx2 .nil))) rfl rfl q2.2 fun σ5 H5 F5 env5 l5 s5 he5 R5 q5 => ⟨F5, env5, l5, (s2.trans s3).trans s5, he5, R5, by rcases q5 with q5 | q5 <;> exact q5⟩
    · have e : i = (zipD xs ys).length := by omega
      subst e
      rw [List.drop_length] at q2
      have en := zipD_get xs ys (zipD xs ys).length
      rw [List.getElem?_eq_none (Nat.le_refl _)] at en
      refine .inl ⟨⟨ws, vs, qp, qa, ?_⟩, F2, env, l, s1.trans s2, he2, R2, q2.2⟩
      rw [← r1.length, ← rv.length]
      cases e1 : xs[(zipD xs ys).length]? with
      | none => exact .inl (List.getElem?_eq_none_iff.mp e1)
      | some _ =>
        cases e2 : ys[(zipD xs ys).length]? with
        | none => exact .inr (List.getElem?_eq_none_iff.mp e2)
        | some _ => rw [e1, e2] at en; cases en
end
end DL

/-! == of two sets of numbers -/
namespace SQ
open PySem PySem.Spec PyProof.Rows L2
section
variable {P : Program} {w : World} {A : Around} {E : Value → Shared → Prop} {s : Shared}
end
end SQ
namespace DL
open PySem PySem.Spec PyProof.Rows L2
end DL

/-! enumerate(zip(x, y)): the pair that zip gave out may still stand -/
namespace EZ
open PySem ZM
section
variable {prog : Program} {w : World} {A : Around} {E : Value → Shared → Prop} {s : Shared} {b1 b2 : Bool} {z TI TO i1 i2 l1 l2 : Addr} {k1 k2 : Nat} {xs ys : Array Value} {a b f0 : Value} {f1 : Bool}
end
end EZ
namespace EZ
open PySem ZM
open AutoSeq1 (wpAny_loadPart')
theorem meets_new {zz TI TO : Addr} :
    Meets (Builtin.«enumerate.__new__» ⟨[.type "enumerate", .ref zz], []⟩) (fun _ R s => IsZip s.heap zz TI TO .none ∧
      R (.ok (.ret (.ref s.heap.objs.size))) { s with heap := s.heap.push { cls := .type "enumerate", data := .fields #[.none, .bool false, .ref zz, rawInt 0, .none, .none] } }) :=
  .of_wp fun prog w A R s h => by
    obtain ⟨hp, g, d, tk, os⟩ := s; obtain ⟨hl, h⟩ := h
    have hsub := sub_enumerate
    have hL : IsZip (Shared.heap ⟨hp, g, d, tk, os⟩) zz TI TO .none := hl
    wp_walk using wpAny_loadPart' hl
    refine wpAny_stack_any fun st => wpAny_pure ?_
    split
    · rename_i c _ _ _ _ _
      cases (c == Value.type "enumerate")
      · wp_walk using wpAny_loadPart' hl, wpAny_pyIter_zip hL
        exact ⟨_, rfl, h⟩
      · wp_walk using wpAny_loadPart' hl, wpAny_pyIter_zip hL
        exact ⟨_, rfl, h⟩
    · wp_walk using wpAny_loadPart' hl, wpAny_pyIter_zip hL
      exact ⟨_, rfl, h⟩
section
variable {prog : Program} {w : World} {A : Around} {E : Value → Shared → Prop} {s : Shared}
end
end EZ

/-! for over enumerate(zip(x, y)) -/
namespace EZ
open PySem PySem.Spec PyProof.Rows L2 ZM
end EZ
namespace DL
open PySem PySem.Spec PyProof.Rows L2
end DL

/-! sorted(list of numbers) -/
namespace DL
open PySem PySem.Spec PyProof.Rows L2
end DL

/-! DLX: what may raise: readings that take a wish about what is raised -/
namespace DL
open PySem PySem.Spec PyProof.Rows L2

abbrev DWish := DSt → D → LH → Prop
/-- the data of what is raised -/
def ExRel (K : PySem.W.Frag) (F : Hp) (x : D) (cls : Value) (d : Option Addr) : Prop := match x with
  | .exc k => ∃ C, PySem.W.nsIn K mainGlobals (exN k) = some (some (.ref C)) ∧ cls = .ref C ∧ d = none
  | .exc1 k e => ∃ C dx v, PySem.W.nsIn K mainGlobals (exN k) = some (some (.ref C)) ∧ cls = .ref C ∧ d = some dx ∧ F dx = some (.xd [(exF k, v)]) ∧ RelD K F e v
  | _ => False
theorem ExRel.rel {K : PySem.W.Frag} {F : Hp} {x : D} {cls : Value} {d : Option Addr} {a : Addr} (h : ExRel K F x cls d) (n : F a = none) : RelD K (upd F a (ExH cls d a)) x (.ref a) := by
  cases x with
  | exc k =>
    obtain ⟨C, h1, rfl, rfl⟩ := h
    exact .exc h1 upd_same
  | exc1 k e =>
    obtain ⟨C, dx, v, h1, rfl, rfl, h2, h3⟩ := h
    refine .exc1 h1 upd_same ?_ (h3.mono (same_upd n))
    rw [upd_ne (fun z => by rw [z, n] at h2; cases h2)]
    exact h2
  | _ => exact h.elim
def LXE (K : PySem.W.Frag) (F Fr : Hp) (wd : D → LH → Prop) : XK := fun cls d H => ∃ F' l x, Same F F' ∧ Rep K F' Fr l H ∧ ExRel K F' x cls d ∧ wd x l
section
variable {X : Cx} {e : Expr} {es : List Expr} {st : Stmt} {sts : List Stmt}
end

/-! ### defs that may raise -/
def spOfX (K : PySem.W.Frag) (dsp : (D → LH → Prop) → DSp) : Sp := fun vs H Q E => ∃ F Fr ds l Qd wd, RelDs K F ds vs ∧ Rep K F Fr l H ∧ dsp wd ds l Qd ∧ (∀ v H', LK K F Fr Qd v H' → Q v H') ∧ ∀ cls d H', LXE K F Fr wd cls d H' → E cls d H'
structure FnX (P : Program) (w : World) (K : PySem.W.Frag) (mg : Str → Option Value) (base : Heap) (k : Nat) (f : Addr) (fd : FuncData) (ps : List Str) (dsp : (D → LH → Prop) → DSp) : Prop where
  len : ∀ wd ds l Q, dsp wd ds l Q → ds.length = ps.length
  run : ∀ (A : Around) (outer : List Env) (s : Shared) (H : Hp) (args : Args) (us : List Value) (vs : List V) (Q : VK) (E : XK), Room k A → A.guards = some [] → Env0 P w K mg base A outer s H → BindsTo s fd args (ps.zip us) → Vals vs us → spOfX K dsp vs H Q E →
    codeAny (model P w) A (.call (.ref f) args) (CR (L2.CX P w) outer P w H s Q E) s
section
variable {P : Program} {w : World} {K : PySem.W.Frag} {mg : Str → Option Value} {base : Heap}
theorem FnX.mono {j k : Nat} {f : Addr} {fd : FuncData} {ps : List Str} {dsp : (D → LH → Prop) → DSp} (G : FnX P w K mg base j f fd ps dsp) (h : j ≤ k) : FnX P w K mg base k f fd ps dsp :=
  ⟨G.len, fun A outer s H args us vs Q E hr => G.run A outer s H args us vs Q E (hr.mono h)⟩
/-- where nothing is raised -/
theorem FnX.plain {k : Nat} {f : Addr} {fd : FuncData} {ps : List Str} {dsp : (D → LH → Prop) → DSp} (G : FnX P w K mg base k f fd ps dsp) : FnG P w K mg base k f fd ps (dsp fun _ _ => False) := by
  refine ⟨G.len _, fun A outer s H args us vs Q E hr hgd e0 hbd r hsp => ?_⟩
  obtain ⟨F, Fr, ds, l, Qd, rd, R, q, hq⟩ := hsp
  refine codeAny_mono (G.run A outer s H args us vs Q L2.E0 hr hgd e0 hbd r ⟨F, Fr, ds, l, Qd, _, rd, R, q, hq, fun cls d H' z => ?_⟩) fun res s' hq => ?_
  · obtain ⟨_, _, _, _, _, _, z⟩ := z
    exact z.elim
  · cases res with
    | error _ =>
      obtain ⟨_, _, _, _, _, _, _, _, _, _, _, _, z⟩ := hq
      exact z.elim
    | ok fl => cases fl <;> exact hq
end

section
variable {X : Cx} {e o : Expr} {es : List Expr} {to : DTE} {t : DWish → DTA} {pos p apos : Pos} {x m : Str} {c : Cl} {C : Addr} {k : Nat} {g f : Addr} {fd : FuncData} {ps : List Str} {dsp : (D → LH → Prop) → DSp}
end
end DL

namespace DL
open PySem PySem.Spec PyProof.Rows L2
/-! ### argument lists, displays, statements -/
section
variable {X : Cx} {e : Expr} {es : List Expr} {te : DWish → DTE} {u : DWish → DTA} {pos : Pos} {st : Stmt} {rest : List Stmt} {t v : DWish → DTS}
end

/-! ### raise -/
section
variable {X : Cx} {x m : Str} {C : Addr} {k j : Nat} {p p2 pos pos' : Pos}
end

/-! ### what a table says of the classes -/
/-! ### try: the exception that is caught is tracked from then on -/
section
variable {X : Cx} {pins : List (Addr × Obj)} {σ : St} {H : Hp} {s : Shared}
end
section
variable {X : Cx} {x n : Str} {c : Value} {i : Nat} {body suite : List Stmt} {b₀ : Stmt} {np pos pos' : Pos} {tb : WX → TS} {ts : Addr → TS} {Wout : WX}
end
section
variable {X : Cx} {x n : Str} {c : Value} {i : Nat} {body suite : List Stmt} {b₀ : Stmt} {np pos pos' : Pos} {tb : DWish → DTS} {ts : DTS} {tab : List (Nat × Bool)}
theorem LS.clr {K : PySem.W.Frag} {F F1 Fr : Hp} (s : Same F F1) {Q : DSt → LH → Prop} {σ : St} {H : Hp} (q : LS K F1 Fr (fun e l => clrK e i fun e' => Q e' l) σ H) : LS K F Fr Q (σ.set i none) H := by
  obtain ⟨F2, e, l, s2, re, R, q⟩ := q
  rw [clrK_eq] at q
  exact ⟨F2, _, l, s.trans s2, re.clr i none, R, q⟩
end

/-! ### isinstance of an exception -/
section
variable {X : Cx}
variable {e : Expr} {te : DTE} {tab : List (Nat × Bool)} {y : Str} {p p2 p3 pos : Pos} {es : List Expr} {us : List Value} {u : Value}
end
/-! ### a list that may be written, frozen and remembered -/
def fzL (d : D) (l : LH) (k : DK) : Prop := match d with
  | .ref a => getO l a fun o => match o with
    | .lst ds => k (.lst ds) (uL l a (.fz (.lst ds)))
    | .fz d => k d l
    | _ => False
  | d => k d l
def dFzL (te : DTE) : DTE := fun env l Q => te env l fun d l1 => fzL d l1 Q
theorem de_fzL {X : Cx} {e : Expr} {te : DTE} (h : DE X e te) : DE X e (dFzL te) := by
  refine ⟨?_⟩
  intro F Fr env l σ H Q hE hR ht
  refine (h F Fr env l σ H _ hE hR ht).mono fun x H1 ⟨F1, d, l1, s1, r1, R1, q1⟩ => ?_
  have plain : ∀ {d' : D}, d' = d → Q d' l1 → LK X.K F Fr Q x H1 := fun e q => by subst e; exact ⟨F1, _, l1, s1, r1, R1, q⟩
  cases d with
  | ref a =>
    obtain ⟨o, ho, q⟩ := q1
    cases r1
    cases o with
    | lst ds =>
      obtain ⟨vs, rr, h1⟩ := (R1.lv _ _ ho).2
      have n := (R1.lv _ _ ho).1 rfl
      exact ⟨upd F1 a (.lst vs), .lst ds, _, s1.trans (same_upd n), relLst n rr, (R1.freeze ho rfl h1).keepFz (relLst n rr) upd_same, q⟩
    | fz d => exact ⟨F1, d, l1, s1, (R1.lv _ _ ho).2.1, R1, q⟩
    | _ => exact q.elim
  | _ => exact plain rfl q1
end DL

namespace DL
open PySem PySem.Spec PyProof.Rows L2
/-! ### str of a list of lists that may be written, as they stand -/
section
variable {X : Cx} {k : Nat} {e : Expr} {te : DTE} {p pos : Pos}
end
end DL

/-! what may be written is borrowed by an expression that tells a tuple of simple things -/
namespace DL
open PySem PySem.Spec PyProof.Rows L2
def tupI : D → Bool
  | .non | .bl _ | .int _ | .str _ => true
  | .tup ds => ds.all simpD
  | _ => false
theorem simp_rel {K : PySem.W.Frag} {F F' : Hp} {d : D} {v : V} (h : simpD d = true) (r : RelD K F d v) : RelD K F' d v := by
  cases r with
  | non => exact .non
  | bl b => exact .bl b
  | int b => exact .int b
  | str b => exact .str b
  | _ => cases h
theorem simp_rels {K : PySem.W.Frag} {F F' : Hp} : ∀ {ds : List D} {vs : List V}, ds.all simpD = true → RelDs K F ds vs → RelDs K F' ds vs
  | [], _, _, .nil => .nil
  | d :: ds, _, h, .cons a b => by
    rw [List.all_cons, Bool.and_eq_true] at h
    exact .cons (simp_rel h.1 a) (simp_rels h.2 b)
theorem dok_notup {K : PySem.W.Frag} {F H : Hp} {b : Addr} {o : DO} {vs : List V} (f : isFz o = false) (h : DOk K F H b o) (e : H b = some (.tup vs)) : False := by
  cases o with
  | lst ds => obtain ⟨vs, _, z⟩ := h; rw [e] at z; cases z
  | dT ks ds => obtain ⟨vs, _, _, z⟩ := h; rw [e] at z; cases z
  | dK ks ds => obtain ⟨vs, _, _, z⟩ := h; rw [e] at z; cases z
  | ins c ds => obtain ⟨C, dx, vs, _, _, _, z⟩ := h; rw [e] at z; cases z
  | dN o ks ds => obtain ⟨as, vs, _, _, _, z⟩ := h; rw [e] at z; cases z
  | fz d => cases f
section
variable {X : Cx} {e : Expr} {te : DTE}
end
/-! the same, but some objects may be read within -/
def tupL : D → Bool
  | .lst xs => xs.all tupI && xs.any fun d => !simpD d
  | d => tupI d
def tupV : D → Bool
  | .ref _ => true
  | d => tupL d
def tupO : DO → Bool
  | .lst ds => ds.all tupV
  | .dT _ ds => ds.all tupV
  | .dK _ ds => ds.all tupV
  | .ins _ ds => ds.all tupV
  | .dN _ _ _ => false
  | .fz _ => false
def stL (l : LH) (S : Addr → Bool) : LH := fun b => cond (S b) (l b) none
theorem stL_in {l : LH} {S : Addr → Bool} {b : Addr} (h : S b = true) : stL l S b = l b := by unfold stL; rw [h]; rfl
theorem stL_out {l : LH} {S : Addr → Bool} {b : Addr} (h : S b = false) : stL l S b = none := by unfold stL; rw [h]; rfl
/-- S: what may be read -/
def BorOk (l : LH) (S : Addr → Bool) : Prop := ∀ a, S a = true → ∃ o, l a = some o ∧ tupO o = true
def nref (vs : List V) : Bool := vs.all fun v => match v with | .ref _ => false | _ => true
theorem nref_not {K : PySem.W.Frag} {F : Hp} : ∀ {ds : List D} {vs : List V}, ds.all tupI = true → (ds.any fun d => !simpD d) = true → RelDs K F ds vs → nref vs = true → False
  | [], _, _, h, .nil, _ => nomatch h
  | d :: ds, _, h, h2, .cons a b, n => by
    rw [List.all_cons, Bool.and_eq_true] at h
    unfold nref at n
    rw [List.all_cons, Bool.and_eq_true] at n
    rw [List.any_cons, Bool.or_eq_true] at h2
    rcases h2 with h2 | h2
    · cases a with
      | non => cases h2
      | bl b => cases h2
      | int b => cases h2
      | str b => cases h2
      | tup p q => exact nomatch n.1
      | _ => exact nomatch h.1
    · exact nref_not h.2 h2 b n.2
structure BorS (F : Hp) (l : LH) (S : Addr → Bool) (H F1 : Hp) : Prop where
  up : Same F F1
  of : ∀ b o, F1 b = some o → F b = some o ∨ (l b ≠ none ∧ S b = false ∧ H b = some o ∧ ∃ vs, o = .lst vs ∧ nref vs = true)
theorem BorS.refl {F : Hp} {l : LH} {S : Addr → Bool} {H : Hp} : BorS F l S H F := ⟨Same.refl F, fun _ _ e => .inl e⟩
/-- F2 without what was borrowed -/
def subH (F F1 F2 : Hp) : Hp := fun b => match F b, F1 b with
  | none, some _ => none
  | _, _ => F2 b
theorem subH_sub {F F1 F2 : Hp} {b : Addr} {o : HO} (h : subH F F1 F2 b = some o) : F2 b = some o := by
  unfold subH at h
  split at h
  · cases h
  · exact h
theorem subH_none {F F1 F2 : Hp} {b : Addr} (h : F2 b = none) : subH F F1 F2 b = none := by
  unfold subH
  split
  · rfl
  · exact h
theorem subH_bor {F F1 F2 : Hp} {b : Addr} (h : F b = none) (h1 : F1 b ≠ none ∨ F2 b = none) : subH F F1 F2 b = none := by
  unfold subH
  rw [h]
  cases q : F1 b with
  | some _ => rfl
  | none =>
    rcases h1 with z | z
    · exact absurd q z
    · exact z
theorem subH_same {F F1 F2 : Hp} (s : Same F F2) : Same F (subH F F1 F2) := fun b o e => by
  unfold subH
  rw [e]
  exact s b o e
section
variable {K : PySem.W.Frag} {F Fr H F1 F2 : Hp} {l : LH} {S : Addr → Bool}
theorem BorS.keep (B : BorS F l S H F1) (s : Same F1 F2) {p : Addr} {o : HO} (h : F2 p = some o) (hn : ∀ vs, o = .lst vs → nref vs = true → False) : subH F F1 F2 p = some o := by
  unfold subH
  cases e : F p with
  | some u => exact h
  | none =>
    cases e1 : F1 p with
    | none => exact h
    | some u =>
      have e2 := s _ _ e1
      rw [h] at e2
      cases e2
      rcases B.of p _ e1 with z | ⟨_, _, _, vs, z, n⟩
      · rw [e] at z; cases z
      · exact (hn vs z n).elim
theorem BorS.tupI (B : BorS F l S H F1) (s : Same F1 F2) {d : D} {v : V} (h : tupI d = true) (r : RelD K F2 d v) : RelD K (subH F F1 F2) d v := by
  cases r with
  | non => exact .non
  | bl b => exact .bl b
  | int b => exact .int b
  | str b => exact .str b
  | tup a b => exact .tup (B.keep s a fun vs e => nomatch e) (simp_rels h b)
  | _ => cases h
theorem BorS.tupIs (B : BorS F l S H F1) (s : Same F1 F2) : ∀ {ds : List D} {vs : List V}, ds.all DL.tupI = true → RelDs K F2 ds vs → RelDs K (subH F F1 F2) ds vs
  | [], _, _, .nil => .nil
  | d :: ds, _, h, .cons a b => by
    rw [List.all_cons, Bool.and_eq_true] at h
    exact .cons (B.tupI s h.1 a) (B.tupIs s h.2 b)
theorem BorS.tupV (B : BorS F l S H F1) (s : Same F1 F2) {d : D} {v : V} (h : tupV d = true) (r : RelD K F2 d v) : RelD K (subH F F1 F2) d v := by
  cases d with
  | ref a => cases r; exact .ref _
  | lst xs =>
    have h : (xs.all DL.tupI && xs.any fun d => !simpD d) = true := h
    rw [Bool.and_eq_true] at h
    cases r with
    | lst a b => exact .lst (B.keep s a fun vs e n => by cases e; exact nref_not h.1 h.2 b n) (B.tupIs s h.1 b)
  | _ => exact B.tupI s h r
theorem BorS.tupVs (B : BorS F l S H F1) (s : Same F1 F2) : ∀ {ds : List D} {vs : List V}, ds.all DL.tupV = true → RelDs K F2 ds vs → RelDs K (subH F F1 F2) ds vs
  | [], _, _, .nil => .nil
  | d :: ds, _, h, .cons a b => by
    rw [List.all_cons, Bool.and_eq_true] at h
    exact .cons (B.tupV s h.1 a) (B.tupVs s h.2 b)
theorem BorS.tupO (B : BorS F l S H F1) (s : Same F1 F2) {H' : Hp} {b : Addr} {o : DO} (h : tupO o = true) (x : DOk K F2 H' b o) : DOk K (subH F F1 F2) H' b o := by
  cases o with
  | lst ds => obtain ⟨vs, r, q⟩ := x; exact ⟨vs, B.tupVs s h r, q⟩
  | dT ks ds => obtain ⟨vs, r, n, q⟩ := x; exact ⟨vs, B.tupVs s h r, n, q⟩
  | dK ks ds => obtain ⟨vs, r, n, q⟩ := x; exact ⟨vs, B.tupVs s h r, n, q⟩
  | ins c ds => obtain ⟨C, dx, vs, r, z, n, q⟩ := x; exact ⟨C, dx, vs, B.tupVs s h r, z, n, q⟩
  | dN o ks ds => cases h
  | fz d => cases h
open Classical in
noncomputable def frS (S : Addr → Bool) (Fr H F1 : Hp) (l : LH) : Hp := fun b => if l b ≠ none ∧ S b = false ∧ F1 b = none then H b else Fr b
theorem BorS.rep (R : Rep K F Fr l H) (B : BorS F l S H F1) : Rep K F1 (frS S Fr H F1 l) (stL l S) H where
  fz := fun b o e => by
    rcases B.of b o e with q | ⟨_, _, q, _⟩
    · exact R.fz b o q
    · exact q
  fr := fun b o e => by
    unfold frS at e
    split at e
    · exact e
    · exact R.fr b o e
  fd := fun b o e => by
    unfold frS at e
    split at e
    · rename_i h; exact ⟨h.2.2, stL_out h.2.1⟩
    · obtain ⟨h1, h2⟩ := R.fd b o e
      refine ⟨?_, ?_⟩
      · cases q : F1 b with
        | none => rfl
        | some u =>
          rcases B.of b u q with z | ⟨z, _⟩
          · rw [h1] at z; cases z
          · exact absurd h2 z
      · unfold stL
        rw [h2]
        cases S b <;> rfl
  lv := fun b o e => by
    cases hS : S b with
    | false => rw [stL_out hS] at e; cases e
    | true =>
      rw [stL_in hS] at e
      obtain ⟨h1, h2⟩ := R.lv b o e
      refine ⟨fun f => ?_, h2.mono B.up rfl⟩
      cases q : F1 b with
      | none => rfl
      | some u =>
        rcases B.of b u q with z | ⟨_, z, _⟩
        · rw [h1 f] at z; cases z
        · rw [hS] at z; cases z
  ft := fun b vs e => by
    unfold frS at e
    split at e
    · rename_i h
      cases q : l b with
      | none => exact h.1 q
      | some x =>
        obtain ⟨h1, h2⟩ := R.lv b x q
        cases hx : isFz x with
        | false => exact dok_notup hx h2 e
        | true =>
          cases x with
          | fz d =>
            obtain ⟨_, u, z⟩ := h2
            rw [B.up _ _ z] at h
            exact nomatch h.2.2
          | _ => cases hx
    · exact R.ft b vs e
  tb := R.tb
  nt := fun b o e => by
    rcases B.of b o e with q | ⟨z, _, q, _⟩
    · exact R.nt b o q
    · cases q2 : l b with
      | none => exact absurd q2 z
      | some x =>
        cases hf : isFz x with
        | false => exact (R.lv b x q2).2.notbl hf q
        | true =>
          cases x with
          | fz d => obtain ⟨_, u, h⟩ := (R.lv b _ q2).2; have h2 := R.fz _ _ h; rw [q] at h2; cases h2; exact R.nt b _ h
          | _ => cases hf
  nr := fun b o e => by
    unfold frS at e
    split at e
    · rename_i h
      cases q2 : l b with
      | none => exact absurd q2 h.1
      | some x =>
        cases hf : isFz x with
        | false => exact (R.lv b x q2).2.notbl hf e
        | true =>
          cases x with
          | fz d => obtain ⟨_, u, z⟩ := (R.lv b _ q2).2; have h2 := R.fz _ _ z; rw [e] at h2; cases h2; exact R.nt b _ z
          | _ => cases hf
    · exact R.nr b o e
theorem BorS.back {H' : Hp} {l2 : LH} (R : Rep K F Fr l H) (B : BorS F l S H F1) (s : Same F1 F2) (R' : Rep K F2 (frS S Fr H F1 l) l2 H') (ok : BorOk l S) (same : ∀ a, S a = true → l2 a = l a) : Rep K (subH F F1 F2) Fr l H' where
  fz := fun b o e => R'.fz b o (subH_sub e)
  fr := fun b o e => by
    refine R'.fr b o ?_
    unfold frS
    rw [if_neg (fun z => z.1 (R.fd b o e).2)]
    exact e
  fd := fun b o e => by
    obtain ⟨h1, h2⟩ := R.fd b o e
    refine ⟨?_, h2⟩
    have h3 : frS S Fr H F1 l b = some o := by
      unfold frS
      rw [if_neg (fun z => z.1 h2)]
      exact e
    exact subH_none (R'.fd b o h3).1
  lv := fun b o e => by
    obtain ⟨h1, h2⟩ := R.lv b o e
    cases hS : S b with
    | true =>
      obtain ⟨o', e', ho⟩ := ok b hS
      rw [e] at e'
      cases e'
      obtain ⟨q1, q2⟩ := R'.lv b o ((same b hS).trans e)
      exact ⟨fun f => subH_none (q1 f), B.tupO s ho q2⟩
    | false =>
      have fs : Same F F2 := fun b o e => s b o (B.up b o e)
      obtain ⟨u, hu⟩ := h2.there R.fz
      have nl : l b ≠ none := by rw [e]; exact fun z => (nomatch z)
      have fb : F1 b = none → frS S Fr H F1 l b = some u := fun q => by
        unfold frS
        rw [if_pos ⟨nl, hS, q⟩]
        exact hu
      have hH : H' b = H b := by
        rw [hu]
        cases q : F1 b with
        | none => exact R'.fr b u (fb q)
        | some u' =>
          rcases B.of b u' q with z | ⟨_, _, z, _⟩
          · have z := R.fz b u' z
            rw [hu] at z; cases z
            exact R'.fz b u (s b u q)
          · rw [hu] at z; cases z
            exact R'.fz b u (s b u q)
      refine ⟨fun f => subH_bor (h1 f) ?_, h2.mono (subH_same fs) hH⟩
      cases q : F1 b with
      | some _ => exact .inl fun z => nomatch z
      | none => exact .inr (R'.fd b u (fb q)).1
  ft := R.ft
  tb := R'.tb
  nt := fun b o e => R'.nt b o (subH_sub e)
  nr := R.nr
end
section
variable {X : Cx} {e : Expr} {te : DTE} {tt : DTT}
end
end DL

/-! tuples that are known to have no dict of their own, and their count -/
namespace L2
open PySem PySem.Spec PyProof.Rows
section
variable {X : Cx}
variable {o e : Expr} {es : List Expr} {to : TE} {t : TA} {name : Str} {apos cpos : Pos} {id : String} {r : V → List V → Hp → VK → Prop}
end
end L2
namespace DL
open PySem PySem.Spec PyProof.Rows L2
section
variable {X : Cx}
variable {o e : Expr} {to te : DTE} {apos cpos pos p p2 q : Pos}
end
end DL

/-! isinstance(x, own classes) where x may be an exception or an own object that may be written -/
namespace DL
open PySem PySem.Spec PyProof.Rows L2
section
variable {X : Cx}
variable {e : Expr} {te : DTE} {tab : List (Nat × Bool)} {y : Str} {p p2 p3 pos : Pos} {es : List Expr} {us : List Value} {u : Value} {cn : Str} {b0 : Bool} {C0 : Addr}
end
end DL

/-! dict displays: plain keys; one key that is a tuple -/
namespace L2
open PySem PySem.Spec PyProof.Rows
section
variable {X : Cx} {pos : Pos}
def tDisp1T (tk tv : TE) : TE := fun σ H Q => ∀ p, H p = none → tk σ (upd H p (.dT [])) fun x H1 => tv σ H1 fun y H2 => ∃ (k : List Key) (b : Addr), x = .ref b ∧ H2 p = some (.dT []) ∧ H2 b = some (.tup (k.map kV)) ∧ Q (.ref p) (upd H2 p (.dT [(k, y)]))
theorem disp_pairsH {prog : Program} {w : World} {K : Type} [DecidableEq K] {knd : HeapKind prog w K} {A : Around} {E : Value → Shared → Prop} {s : Shared} {env : Env} {keys : List (Option Expr)} {values : List Expr} {pos : Pos} {pairs : List (Sem Value × Sem Value)} {Q : Value → Shared → Prop} (hu : knd.room A)
    (hshape : (evalEachOpt keys env).zip ((evalEach values env).map fun v => do let x ← v; standAt pos; pure x) = pairs.map fun p => (some p.1, p.2)) (h0 : pairs ≠ []) (hlen : pairs.length ≤ 15)
    (h : wpAny (model prog w) A (evalPairs pairs) (fun vs s₁ => ∃ ps, CarriesH knd s₁.heap vs ps ∧ s₁.heap.DictOfH knd s.heap.objs.size [] ∧
      ∀ h' tk, h'.DictOfH knd s.heap.objs.size (storedAllH [] ps) → Heap.SameBut s.heap.objs.size s₁.heap h' → Q (.ref s.heap.objs.size) { s₁ with heap := h', toks := tk }) E
      { s with heap := s.heap.push { cls := .type "dict", data := .dict #[] } }) :
    wpAny (model prog w) A (eval (.Dict keys values pos) env) Q E s := by
  rw [arm_eval_Dict, hshape, dictDisplay_pairs pairs h0 (by omega)]
  exact wpAny_bind (wpAny_standAt (wpAny_bind (wpAny_subDictH (knd := knd) (Q := fun d s' => wpAny (model prog w) A (pure (Value.ref d)) Q E s') hu hlen
    (wpAny_mono h (fun vs s₁ h₁ => by obtain ⟨ps, hc, hm, hq⟩ := h₁; exact ⟨ps, hc, hm, fun h' tk a b => wpAny_pure (hq h' tk a b)⟩) fun _ _ e => e))))
theorem pe_disp1T {kx vx : Expr} {tk tv : TE} (hu : X.A.units < cLine) (hk : PE X kx tk) (hv : PE X vx tv) : PE X (.Dict [some kx] [vx] pos) (tDisp1T tk tv) := by
  refine ⟨fun pins s σ H Q I q => ?_⟩
  have hn := I.hok.fresh (Nat.le_refl s.heap.objs.size)
  have I1 := I.laid (a := s.heap.objs.size) (o := .dT []) (h' := s.heap.push { cls := .type "dict", data := .dict #[] }) (t' := s.toks) (fun _ _ q => Heap.get?_push_of_some _ q) (Nat.le_refl _) (dt_empty s.heap I.big)
  have pl := pairTrees_length [some kx] [vx] X.env pos rfl rfl
  refine disp_pairsH (knd := tupleKind (mixKind X.prog X.w)) (pairs := pairTrees [some kx] [vx] X.env pos) hu (zip_pairTrees [some kx] [vx] X.env pos rfl rfl) (fun he => by
    rw [he] at pl
    cases pl) (by rw [pl]; show 1 ≤ 15; omega) ?_
  refine pairTrees_cons_walk (thn (hk.run pins _ σ _ _ I1 (q _ hn)) fun u s1 ⟨x, H1, I1', rx, q1⟩ => thn (hv.run pins s1 σ H1 _ I1' q1) fun w2 s2 ⟨y, H2, I2, ry, k, b, ex, hp, hb, q2⟩ => pairTrees_nil_walk ?_)
  subst ex
  cases (show u = Value.ref b from rx)
  obtain ⟨z, hd, xs, rel, dd⟩ := dt_of I2.hok hp
  cases rel
  refine ⟨[(k, b, w2)], ⟨rfl, rfl, key_of I2.hok hb, trivial⟩, dd, fun h' tk' dd' hs => ⟨.ref s.heap.objs.size, _, ?_, rfl, q2⟩⟩
  obtain ⟨qo, es, ep, hq, h2, h3, h4, his, h5⟩ := dd'
  refine d_write I2 (by rw [hp]; exact True.intro) hs ⟨qo, hq⟩ ⟨by show 1 ≤ sizeLine; decide, hd, [(k, b, w2)], .cons ⟨rfl, ?_, ry⟩ .nil, qo, es, ep, hq, h2, h3, h4, h5⟩
  rw [upd_ne (ne_of hb hp (fun z => nomatch z))]
  exact hb
end
end L2
namespace DL
open PySem PySem.Spec PyProof.Rows L2
abbrev DTP := DSt → LH → (List D → List D → LH → Prop) → Prop
section
variable {X : Cx} {pos : Pos} {keys : List (Option Expr)} {values : List Expr} {t : DTP} {kx vx : Expr} {tk tv : DTE}
/-- {k: v}, k a tuple of plain things -/
def dDispT (tk tv : DTE) : DTE := fun env l Q => tk env l fun k l1 => tv env l1 fun v l2 => ∃ q, keyT k = some q ∧ newL (.dT [q] [v]) l2 Q
theorem de_dispT {k : Nat} (hr : Room k X.A) (hk : DE X kx tk) (hv : DE X vx tv) : DE X (.Dict [some kx] [vx] pos) (dDispT tk tv) := by
  refine ⟨?_⟩
  intro F Fr env l σ H Q hE hR ht
  refine (pe_disp1T (by have := hr.un; omega) peW peW).we fun p np => ?_
  have nFr := hR.Fr_none np
  refine (hk F (upd Fr p (.dT [])) env l σ _ _ hE (hR.take np (.dT [])) ht).mono fun x H1 ⟨F1, d, l1, s1, r1, R1, q1⟩ => ?_
  refine (hv F1 _ env l1 σ H1 _ (hE.mono s1) R1 q1).mono fun y H2 ⟨F2, e, l2, s2, r2, R2, q, hq, q2⟩ => ?_
  obtain ⟨b, rfl, hb⟩ := keyT_rel r1 hq
  refine ⟨q, b, rfl, R2.fr _ _ upd_same, R2.fz _ _ (s2 _ _ hb), ?_⟩
  have R3 := (R2.turn (.dT ([q].zip [y]))).giveL nFr (d := .dT [q] [e]) ⟨[y], .cons r2 .nil, rfl, upd_same⟩
  exact ⟨F2, .ref p, _, s1.trans s2, .ref p, R3, q2 p (R2.fd _ _ upd_same).2⟩
end
end DL
/-! a dict's place as a target among others -/
namespace L2
open PySem PySem.Spec PyProof.Rows
end L2
namespace DL
open PySem PySem.Spec PyProof.Rows L2
end DL
/-! t[::-1] of a tuple -/
namespace HT
open PySem PySem.Spec PyProof.Rows
section
variable {prog : Program} {w : World} {A : Around} {E : Value → Shared → Prop} {s : Shared}
end
end HT
namespace L2
open PySem PySem.Spec PyProof.Rows
section
variable {X : Cx}
end
end L2
namespace DL
open PySem PySem.Spec PyProof.Rows L2
end DL
/-! try .. except X: .. else: .., the exception without a name -/
namespace DL
open PySem PySem.Spec PyProof.Rows L2
section
variable {X : Cx} {x : Str} {c : Value} {body suite orelse : List Stmt} {b₀ : Stmt} {np pos pos' : Pos}
end
end DL

/-! x = f if c else g; return x(..): a local name that holds one of two defs, called at once -/
namespace DL
open PySem PySem.Spec PyProof.Rows L2
section
variable {X : Cx} {k1 k2 i : Nat} {f1 f2 : Addr} {fd1 fd2 : FuncData} {ps1 ps2 : List Str} {sp1 sp2 : DSp} {x n1 n2 : Str} {e c : Expr} {es : List Expr} {t : DTA} {tt : DTT} {p px p1 p2 pi pos pos1 pos2 : Pos}
end
end DL

/-! sorted of a list or tuple of data that are alike -/
namespace SrtD
open PySem PySem.Calls PyProof.Rows Srt PySem.W
section
variable {prog : Program} {w : World} {A : Around} {E : Value → Shared → Prop} {s : Shared}
variable {β : Type} {vs : List Value} {bs : List β} {enc : β → PyData} {R : Value → β → Prop}
end
end SrtD
namespace DL
open PySem PySem.Spec PyProof.Rows L2
section
variable {K : PySem.W.Frag} {F : Hp}
end
end DL

/-! dicts whose keys are tuples of any depth: {}, d[k], d[k] = v (a new key), for k in d, for k, v in d.items() -/
namespace DL
open PySem PySem.Spec PyProof.Rows L2
section
variable {X : Cx} {pins : List (Addr × Obj)} {σ : St} {H F : Hp} {s : Shared}
theorem zip3_get {α β γ : Type} {as : List α} {bs : List β} {cs : List γ} {i : Nat} {a : α} {b : β} {c : γ} (h1 : as[i]? = some a) (h2 : bs[i]? = some b) (h3 : cs[i]? = some c) : (as.zip (bs.zip cs))[i]? = some (a, b, c) := by
  rw [List.getElem?_zip_eq_some]
  exact ⟨h1, by rw [List.getElem?_zip_eq_some]; exact ⟨h2, h3⟩⟩
end
/-! ### d[k] -/
section
variable {X : Cx} {a b e o : Expr} {ta tb te to : DTE} {pos p apos cpos : Pos} {k : Nat}
/-! ### {} -/
/-! ### d[k] = v, a new key -/
end
/-! ### for k in d; for k, v in d.items() -/
structure NdEn (o : Obj) (as : List Addr) (vs : List V) (es : Array DictEntry) (ep : Nat) : Prop where
  dict : o.ExactDict
  data : o.data = .dict es ep
  size : es.size = as.length
  lens : vs.length = as.length
  ent : ∀ (i : Nat) (q : Addr), as[i]? = some q → ∃ en : DictEntry, es[i]? = some en ∧ en.key = .ref q
  val : ∀ (i : Nat) (v : V), vs[i]? = some v → ∃ en : DictEntry, es[i]? = some en ∧ RelV v en.val
theorem NdF.en {o : Obj} {a : Addr} {ks : List D} {as : List Addr} {vs : List V} (f : NdF o a ks as vs) (P : Program) (w : World) : ∃ es ep, NdEn o as vs es ep := by
  obtain ⟨es, ep, us, hd, rv, he⟩ := f.es
  have l1 := f.len1; have l2 := f.len2
  have l3 : us.length = ks.length := by have := Paired.length rv; omega
  have he' := he P w
  have q := congrArg List.length he'
  rw [Array.length_toList, List.length_map, List.length_zip, List.length_zip, List.length_map] at q
  have at' : ∀ (i : Nat) (hi : i < ks.length) (q : Addr) (u : Value), as[i]? = some q → us[i]? = some u → es[i]? = some (entryOfKey (nestedKind P w) (nkD ks[i], q, u)) := fun i hi q u h1 h2 => by
    rw [entry_at he' i, zip3_get (a := nkD ks[i]) (by rw [List.getElem?_map, List.getElem?_eq_getElem hi]; rfl) h1 h2]
    rfl
  refine ⟨es, ep, f.dict, hd, by omega, by omega, fun i q hq => ?_, fun i v hv => ?_⟩
  · have hi : i < ks.length := by
      have := (List.getElem?_eq_some_iff.mp hq).1
      omega
    exact ⟨_, at' i hi q (us[i]'(by omega)) hq (List.getElem?_eq_getElem _), rfl⟩
  · have hi : i < ks.length := by
      have := (List.getElem?_eq_some_iff.mp hv).1
      omega
    obtain ⟨u, hu, ru⟩ := L2.paired_get rv hv
    exact ⟨_, at' i hi (as[i]'(by omega)) u (List.getElem?_eq_getElem _) hu, ru⟩
section
variable {X : Cx} {e : Expr} {te : DTE} {apos cpos tpos pos p : Pos} {elts : List Expr} {kk : Nat}
end
end DL

/-! dict(pairs) with keys of any depth, d.get(k, x) of such, sorted(d.items()) of numbers by numbers -/
namespace DL
open PySem PySem.Spec PyProof.Rows L2
section
variable {X : Cx} {pins : List (Addr × Obj)} {σ : St} {H F : Hp} {s : Shared}
end
section
variable {X : Cx} {a b e o : Expr} {ta tb te to tx : DTE} {pos p apos cpos : Pos} {k : Nat}
end
/-! ### sorted(d.items()) -/
section
variable {X : Cx} {pins : List (Addr × Obj)} {σ : St} {H0 : Hp} {s : Shared} {l : LH} {Fr : Hp}
end
section
variable {X : Cx} {e : Expr} {te : DTE} {pos p apos cpos : Pos} {k : Nat}
end
end DL

namespace DL
open PySem PySem.Spec PyProof.Rows L2
/-! sorted(d.items(), key=lambda pair: (len(pair[0]), pair[0])): the lambda's call -/
section
variable {prog : Program} {w : World} {A : Around} {E : Value → Shared → Prop} {s : Shared}
/-- pair[0] -/
theorem first_raw {env : Env} {a : Str} {j : Nat} {p1 p2 p3 : Pos} {m : Str → Option Value} {b : Addr} {u0 u1 : Value} {Q : Value → Shared → Prop} (hk : env.scope.kind = .function) (hl : env.kindOf a = some .local) (hn : s.heap.Ns env.locals m) (hm : m a = some (.ref b))
    (hb : IsTup s.heap b #[u0, u1]) (hd : (a == ("__debug__" : Str)) = false) (q : ∀ k, Q u0 { s with toks := k }) :
    wpAny (model prog w) A (eval (.Subscript (.Name a p1) (.Constant (.int 0) j p2) p3) env) Q E s := by
  refine Subscript_ (wpAny_Name (wpAny_loadName_local hk hl hn hm ?_) hd)
  refine wpAny_Constant_int ?_
  have hb' : IsTup ({ s with toks := s.toks + 1 } : Shared).heap b #[u0, u1] := hb
  exact subscriptTail_builtinR (x := u0) hb'.typeIs slot_tuple_getitem.lookup (getItem_tuple (j := 0) (Q := fun r s' => r = u0 ∧ Q r s') hb' (by decide) (by decide) rfl rfl ⟨rfl, q _⟩) (by rfl)
/-- len(pair[0]) -/
theorem lenFirst_raw {env : Env} {a : Str} {j : Nat} {p0 p1 p2 p3 p4 : Pos} {m mg mb : Str → Option Value} {b kt : Addr} {u1 : Value} {its : Array Value} {Q : Value → Shared → Prop} (hk : env.scope.kind = .function) (hl : env.kindOf a = some .local) (hn : s.heap.Ns env.locals m) (hm : m a = some (.ref b))
    (hb : IsTup s.heap b #[.ref kt, u1]) (hkt : IsTup s.heap kt its) (hz : (its.size : Int) < 2 ^ 63) (hd : (a == ("__debug__" : Str)) = false)
    (hg : env.kindOf "len" = some .globalImplicit) (hG : s.heap.Ns env.globals mg) (hmiss : mg "len" = none) (hB : s.heap.Ns env.builtins mb) (hv : mb "len" = some (.builtin "len")) (q : ∀ k t, Q (.int its.size t) { s with toks := k }) :
    wpAny (model prog w) A (eval (.Call (.Name "len" p0) [.Subscript (.Name a p1) (.Constant (.int 0) j p2) p3] [] p4) env) Q E s := by
  refine Call_ (Calls.Name_function_global hk hg (Calls.loadGlobal_builtin hG hmiss hB hv ?_))
  refine PyProof.Rows.callWith_builtin1 (PyProof.Rows.args_cons ?_ rfl) rfl rfl
  refine first_raw hk hl hn hm hb hd fun k => PyProof.Rows.args_nil ?_
  have h2 : IsTup ({ s with toks := k } : Shared).heap kt its := hkt
  exact len_tuple h2 hz (q _ _)
theorem key_raw {env : Env} {a : Str} {j j2 : Nat} {x1} {p0 p1 p2 p3 p4 p5 p6 p7 p8 : Pos} {m mg mb : Str → Option Value} {b kt : Addr} {u1 : Value} {its : Array Value} {Q : Value → Shared → Prop} (hk : env.scope.kind = .function) (hl : env.kindOf a = some .local) (hn : s.heap.Ns env.locals m) (hm : m a = some (.ref b))
    (hb : IsTup s.heap b #[.ref kt, u1]) (hkt : IsTup s.heap kt its) (hz : (its.size : Int) < 2 ^ 63) (hd : (a == ("__debug__" : Str)) = false)
    (hg : env.kindOf "len" = some .globalImplicit) (hG : s.heap.Ns env.globals mg) (hmiss : mg "len" = none) (hB : s.heap.Ns env.builtins mb) (hv : mb "len" = some (.builtin "len"))
    (q : ∀ k t, Q (.ref s.heap.objs.size) { s with heap := s.heap.push { cls := .type "tuple", data := .seq #[.int its.size t, .ref kt] }, toks := k }) :
    wpAny (model prog w) A (eval (.Tuple [.Call (.Name "len" p0) [.Subscript (.Name a p1) (.Constant (.int 0) j p2) p3] [] p4, .Subscript (.Name a p5) (.Constant (.int 0) j2 p6) p7] x1 p8) env) Q E s := by
  refine wpAny_Tuple_spliced (Calls.spliced_cons (lenFirst_raw hk hl hn hm hb hkt hz hd hg hG hmiss hB hv fun k t => ?_))
  refine Calls.spliced_cons ?_
  have hb' : IsTup ({ s with toks := k } : Shared).heap b #[.ref kt, u1] := hb
  have hn' : ({ s with toks := k } : Shared).heap.Ns env.locals m := hn
  refine first_raw hk hl hn' hm hb' hd fun k2 => Calls.spliced_nil ⟨Nat.le_of_ble_eq_true rfl, q _ _⟩
theorem readsInts {h : Heap} : ∀ {ws : List Int} {vs : List Value}, Vals (ws.map V.int) vs → ReadsAll h vs (ws.map PyData.int) []
  | [], [], _ => .nil
  | n :: ws, v :: vs, r => by
    cases r with
    | cons r1 r2 =>
      obtain ⟨t, rfl⟩ := r1
      exact .cons (as := []) (bs := []) (.int _ _) (readsInts r2)
def encW (k : List Int) : PyData := .tuple [.int (k.length : Nat), .tuple (k.map PyData.int)]
/-- the lambda's call: it keeps all that was there and gives the key -/
theorem lam_key {f c' b kt : Addr} {qual a : Str} {pm ctv u1 : Value} {params : Arguments} {scope : Scope} {cl : List (Str × Addr)} {j j2 : Nat} {x1} {p0 p1 p2 p3 p4 p5 p6 p7 p8 : Pos} {mg mb : Str → Option Value} {its : List Value} {ws : List Int} (hroom : A.depth < recursionLimit)
    (ho : s.heap.get? f = some (PySem.W.kla_obj "<lambda>" qual params (.Tuple [.Call (.Name "len" p0) [.Subscript (.Name a p1) (.Constant (.int 0) j p2) p3] [] p4, .Subscript (.Name a p5) (.Constant (.int 0) j2 p6) p7] x1 p8) scope cl pm c' ctv))
    (hcd : s.heap.CodeRec (.ref c') qual) (nl : s.heap.NoLimit)
    (hbind : ∀ v : Value, bindArgs (PySem.W.kla_fn "<lambda>" qual params (.Tuple [.Call (.Name "len" p0) [.Subscript (.Name a p1) (.Constant (.int 0) j p2) p3] [] p4, .Subscript (.Name a p5) (.Constant (.int 0) j2 p6) p7] x1 p8) scope cl pm (.ref c') ctv) ⟨[v], []⟩ = pure [(a, v)])
    (hk : scope.kind = .function) (hco : scope.isCoroutine = false) (hgen : scope.isGenerator = false) (hcell : ∀ x ∈ scope.names, x.2 ≠ .cell) (hl : scope.names.lookup a = some .local) (hg : scope.names.lookup ("len" : Str) = some .globalImplicit) (hd : (a == ("__debug__" : Str)) = false)
    (hG : s.heap.Ns mainGlobals mg) (hmiss : mg "len" = none) (hB : s.heap.Ns builtinsNs mb) (hv : mb "len" = some (.builtin "len"))
    (hb : IsTup s.heap b #[.ref kt, u1]) (hkt : IsTup s.heap kt its.toArray) (hi : Vals (ws.map V.int) its) (hz : ws.length ≤ sizeLine) :
    wpAny (model prog w) A (call (.ref f) [.ref b]) (PySem.W.KeyPure (encW ws) s) E s := by
  have hlen : its.length = ws.length := by have := hi.length; rw [List.length_map] at this; exact this.symm
  refine wpAny_call (codeAny_mono (R := fun r s' => match r with | .ok (.ret u) => PySem.W.KeyPure (encW ws) s u s' | _ => False) ?_ fun r s' hq => ?_)
  · refine PySem.W.kla_callFunE hroom ho rfl hco hgen rfl hcd ?_
    rw [hbind]
    refine wpAny_pure (wpAny_newFunctionEnv hcell (fun y hy => by rw [List.mem_singleton.mp hy]; exact hl) (fun h₁ hns hsb => ?_) hk)
    have kp : ∀ b o, s.heap.get? b = some o → h₁.get? b = some o := fun b o e => hsb.extBut b o (Nat.ne_of_lt (Heap.lt_size e)) (Heap.get?_push_of_some _ e)
    refine ⟨nl.fresh _ hsb, ?_⟩
    refine PySem.W.kla_codeExpr ?_
    have hb1 : IsTup ({ s with heap := h₁, toks := s.toks + 1 } : Shared).heap b #[.ref kt, u1] := hb.keeps kp
    have hk1 : IsTup ({ s with heap := h₁, toks := s.toks + 1 } : Shared).heap kt its.toArray := hkt.keeps kp
    refine key_raw (mg := mg) (mb := mb) (its := its.toArray) hk hl hns (by show List.lookup a [(a, Value.ref b)] = _; simp) hb1 hk1 ?_ hd hg (hG.keeps kp) hmiss (hB.keeps kp) hv fun k t => ?_
    · rw [List.size_toArray, hlen]
      have : sizeLine = 16777216 := sizeLine_eq
      omega
    · refine ⟨_, _, rfl, fun b o e => Heap.get?_push_of_some _ (kp b o e), ?_⟩
      refine .tuple (as := []) (Heap.get?_push_size _ rfl) rfl rfl ?_
      obtain ⟨o, e1, e2, n, e3⟩ := hkt
      refine .cons (as := []) (bs := []) ?_ (.cons (as := []) (bs := []) (.tuple (Heap.get?_push_of_some _ (kp _ _ e1)) e2 e3 (readsInts hi)) .nil)
      rw [List.size_toArray, hlen]
      exact .int _ _
  · cases r with
    | error e => exact hq.elim
    | ok fl =>
      cases fl with
      | ret u => exact hq
      | next => exact hq.elim
      | brk => exact hq.elim
      | cont => exact hq.elim
/-- sorted over the items of a dict, by a key -/
theorem sortItemsKw {r d : Addr} {es : Array DictEntry} {ep : Nat} {kw : List (Str × Value)} {Q : Value → Shared → Prop} (calm : A.handled = none) (view : s.heap.IsItemsView r d) (raw : DT.Raw s.heap d es ep) (hn : es.size ≤ sizeLine) (ok1 : argsOk "sorted" ⟨[.ref r], kw⟩)
    (go : ∀ (h' : Heap) (tk : Nat) (as : List Addr), (∀ b o, s.heap.get? b = some o → h'.get? b = some o) → s.heap.objs.size < h'.objs.size → as.length = es.size → DT.Made es s.heap.objs.size h' as →
      wpAny (model prog w) A.in1 (call (.builtin "list.sort") [.ref h'.objs.size] kw) (fun _ s' => Q (.ref h'.objs.size) s') E { s with heap := h'.push { cls := .type "list", data := .seq (as.map Value.ref).toArray }, toks := tk }) :
    wpAny (model prog w) A (call (.builtin "sorted") [.ref r] kw) Q E s := by
  refine PyProof.Rows.call_function_entry_kw kind_sorted plain_sorted entry_sorted ok1 ?_
  unfold Builtin.«sorted»
  refine wpAny_bind (m := checkCount "sorted" 1 1 _) (wpAny_pure (wpAny_bind (DT.collectI (es := es) (ep := ep) calm view raw hn fun h' tk as hk hlt hl hG => ?_)))
  exact wpAny_bind (wpAny_newList (wpAny_bind (wpAny_holding (wpAny_mono (go h' tk as hk hlt hl hG) (fun _ s' x => wpAny_pure ⟨_, rfl, x⟩) fun _ _ e => e))) (by rw [List.length_map, hl]; exact hn))
end
section
variable {X : Cx} {pins : List (Addr × Obj)} {σ : St} {H0 : Hp} {s : Shared} {l : LH} {Fr : Hp}
/-- pairs of a key, a tuple, and a value: b the pair, q its key -/
structure Pr where
  b : Addr
  q : Addr
  w : List Int
  v : V
theorem takeP {h' : Heap} {tk : Nat} (I0 : Inv X pins σ H0 s) : ∀ (zs : List Pr) {H1 F1 : Hp}, Inv X pins σ H1 { s with heap := h', toks := tk } → Rep X.K F1 Fr l H1 → (zs.map (·.b)).Nodup →
    (∀ z ∈ zs, s.heap.objs.size ≤ z.b ∧ H1 z.b = none ∧ H1 z.q = some (.tup (z.w.map V.int)) ∧ ∃ u, RelV z.v u ∧ h'.get? z.b = some { cls := .type "tuple", data := .seq #[.ref z.q, u] }) →
    ∃ H2 F2, Inv X pins σ H2 { s with heap := h', toks := tk } ∧ Same F1 F2 ∧ Rep X.K F2 Fr l H2 ∧ (∀ z ∈ zs, F2 z.b = some (.tup [.ref z.q, z.v]) ∧ F2 z.q = some (.tup (z.w.map V.int))) ∧ ∀ b, b ∉ zs.map (·.b) → H2 b = H1 b
  | [], H1, F1, I1, R1, _, _ => ⟨H1, F1, I1, Same.refl F1, R1, (fun z h => by cases h), fun _ _ => rfl⟩
  | z :: zs, H1, F1, I1, R1, hn, h => by
    obtain ⟨hb, hnone, hq, u, ru, hg⟩ := h z List.mem_cons_self
    rw [List.map_cons, List.nodup_cons] at hn
    obtain ⟨F0, s0, q0, R0⟩ := R1.tupIn hq
    have I2 : Inv X pins σ (upd H1 z.b (.tup [.ref z.q, z.v])) { s with heap := h', toks := tk } := I1.take (h' := h') (t' := tk) (fun b ob _ e => e) (I0.fpOk hb hnone)
      ⟨by show 2 ≤ sizeLine; decide, [Value.ref z.q, u], .cons rfl (.cons ru .nil), ⟨_, hg, rfl, _, rfl⟩⟩
    have R2 := R0.laid hnone (.tup [.ref z.q, z.v])
    have zq : z.q ≠ z.b := fun e => by rw [e, hnone] at hq; cases hq
    obtain ⟨H2, F2, I3, S3, R3, q3, k3⟩ := takeP I0 zs I2 R2 hn.2 fun c hc => by
      obtain ⟨c1, c2, c3, c4⟩ := h c (List.mem_cons_of_mem _ hc)
      have cq : c.q ≠ z.b := fun e => by rw [e, hnone] at c3; cases c3
      exact ⟨c1, by rw [upd_ne (fun e => hn.1 (by rw [← e]; exact List.mem_map.mpr ⟨c, hc, rfl⟩))]; exact c2, by rw [upd_ne cq]; exact c3, c4⟩
    refine ⟨H2, F2, I3, (s0.trans (same_upd (R0.F_none hnone))).trans S3, R3, fun c hc => ?_, fun b hb => ?_⟩
    · rcases List.mem_cons.mp hc with rfl | hc
      · exact ⟨S3 _ _ upd_same, S3 _ _ (by rw [upd_ne zq]; exact q0)⟩
      · exact q3 c hc
    · rw [List.map_cons, List.mem_cons, not_or] at hb
      rw [k3 b hb.2, upd_ne hb.1]
theorem Rep.lam {K : PySem.W.Frag} {F H H' : Hp} (r : Rep K F Fr l H) (x : LamX.ExtN H H') (t : LamX.Tabs (tabOf K) H') : Rep K F Fr l H' where
  fz := fun b o e => x b o (r.fz b o e) fun ps z => by have := r.nt b o e; rw [z] at this; cases this
  fr := fun b o e => x b o (r.fr b o e) fun ps z => by have := r.nr b o e; rw [z] at this; cases this
  fd := r.fd
  lv := fun b o e => by
    obtain ⟨h1, h2⟩ := r.lv b o e
    obtain ⟨u, hu⟩ := h2.there r.fz
    refine ⟨h1, h2.mono (Same.refl F) ?_⟩
    rw [hu]
    refine x b u hu fun ps z => ?_
    cases hf : isFz o with
    | false => have := h2.notbl hf hu; rw [z] at this; cases this
    | true =>
      cases o with
      | fz d => obtain ⟨_, u', hF⟩ := h2; have h3 := r.fz _ _ hF; rw [hu] at h3; cases h3; have := r.nt _ _ hF; rw [z] at this; cases this
      | _ => cases hf
  ft := r.ft
  tb := t
  nt := r.nt
  nr := r.nr
end
def tK (w : List Int) : List Key := w.map Sum.inl
def pairW (p : List Int × D) : D := .tup [.tup (p.1.map D.int), p.2]
def sortW (ws : List (List Int)) (ds : List D) : List (List Int × D) := (ws.zip ds).mergeSort (PySem.W.dataLe false fun p : List Int × D => encW p.1)
theorem each_getW {R : Value → List Int × D → Prop} : ∀ {as : List Addr} {ps : List (List Int × D)}, as.length = ps.length → (∀ (j : Nat) a p, as[j]? = some a → ps[j]? = some p → R (.ref a) p) → PySem.W.EachIs R (as.map Value.ref) ps
  | [], [], _, _ => .nil
  | [], _ :: _, h, _ => by cases h
  | _ :: _, [], h, _ => by cases h
  | a :: as, p :: ps, h, f => .cons (f 0 a p rfl rfl) (each_getW (by simpa using h) fun j b q h1 h2 => f (j + 1) b q (by simpa using h1) (by simpa using h2))
theorem rel_outW {K : PySem.W.Frag} {F : Hp} {R : Value → List Int × D → Prop} (hR : ∀ v p, R v p → ∃ b, v = .ref b ∧ RelD K F (pairW p) (.ref b)) : ∀ {out : List Value} {ps : List (List Int × D)}, PySem.W.EachIs R out ps → ∃ vs, Vals vs out ∧ RelDs K F (ps.map pairW) vs
  | _, _, .nil => ⟨[], .nil, .nil⟩
  | _, _, .cons r t => by
    obtain ⟨vs, h1, h2⟩ := rel_outW hR t
    obtain ⟨b, rfl, hb⟩ := hR _ _ r
    exact ⟨.ref b :: vs, .cons rfl h1, .cons hb h2⟩
theorem relInts {K : PySem.W.Frag} {F : Hp} : ∀ w : List Int, RelDs K F (w.map D.int) (w.map V.int)
  | [] => .nil
  | n :: w => .cons (.int n) (relInts w)
theorem alike_intsW : ∀ v w : List Int, PySem.W.alikeAll (v.map PyData.int) (w.map PyData.int) = true
  | [], _ => by simp [PySem.W.alikeAll]
  | _ :: _, [] => by simp [PySem.W.alikeAll]
  | a :: v, b :: w => by
    have := alike_intsW v w
    simp only [List.map_cons, PySem.W.alikeAll, PySem.W.alike, Bool.true_and]
    exact this
theorem depthAll_ints : ∀ w : List Int, PyData.depthAll (w.map PyData.int) ≤ 1
  | [] => by simp [PyData.depthAll]
  | a :: w => by
    have := depthAll_ints w
    simp only [List.map_cons, PyData.depthAll, PyData.depth]
    omega
theorem depth_encW (w : List Int) : (encW w).depth ≤ 3 := by
  have := depthAll_ints w
  simp only [encW, PyData.depth, PyData.depthAll]
  omega
theorem prs_of {K : PySem.W.Frag} {F H : Hp} {h' : Heap} : ∀ {as : List Addr} {ws : List (List Int)} {ds : List D}, as.length = ws.length → ds.length = ws.length →
    (∀ (j : Nat) b w d, as[j]? = some b → ws[j]? = some w → ds[j]? = some d → ∃ q v u, H q = some (.tup (w.map V.int)) ∧ RelD K F d v ∧ RelV v u ∧ h'.get? b = some { cls := .type "tuple", data := .seq #[.ref q, u] }) →
    ∃ zs : List Pr, zs.map (·.b) = as ∧ zs.map (·.w) = ws ∧ RelDs K F ds (zs.map (·.v)) ∧ ∀ z ∈ zs, H z.q = some (.tup (z.w.map V.int)) ∧ ∃ u, RelV z.v u ∧ h'.get? z.b = some { cls := .type "tuple", data := .seq #[.ref z.q, u] }
  | [], [], [], _, _, _ => ⟨[], rfl, rfl, .nil, fun z h => by cases h⟩
  | b :: as, w :: ws, d :: ds, h1, h2, h => by
    obtain ⟨q, v, u, g1, g2, g3, g4⟩ := h 0 b w d rfl rfl rfl
    obtain ⟨zs, e1, e2, e3, e4⟩ := prs_of (as := as) (ws := ws) (ds := ds) (by simpa using h1) (by simpa using h2) fun j b w d k1 k2 k3 => h (j + 1) b w d (by simpa using k1) (by simpa using k2) (by simpa using k3)
    refine ⟨⟨b, q, w, v⟩ :: zs, by rw [List.map_cons, e1], by rw [List.map_cons, e2], .cons g2 e3, fun z hz => ?_⟩
    rcases List.mem_cons.mp hz with rfl | hz
    · exact ⟨g1, u, g3, g4⟩
    · exact e4 z hz
  | [], _ :: _, _, h, _, _ => by cases h
  | _ :: _, [], _, h, _, _ => by cases h
  | _ :: _, _ :: _, [], _, h, _ => by cases h
  | [], [], _ :: _, _, h, _ => by cases h
def dSortLam (te : DTE) : DTE := fun env l Q => te env l fun d l1 => match d with
  | .dT ks ds => ∃ ws : List (List Int), ks = ws.map tK ∧ (∀ w ∈ ws, w.length ≤ 1000) ∧ Q (.lst ((sortW ws ds).map pairW)) l1
  | _ => False
structure LamSc (a : Str) (scope : Scope) : Prop where
  kind : scope.kind = .function
  co : scope.isCoroutine = false
  gen : scope.isGenerator = false
  nm : ∀ x ∈ scope.names, x.2 ≠ .cell ∧ x.2 ≠ .free
  own : scope.names.lookup a = some .local
  len : scope.names.lookup ("len" : Str) = some .globalImplicit
section
variable {X : Cx} {e : Expr} {te : DTE} {pos p apos cpos kpos lpos : Pos} {k : Nat}
theorem de_sortLam {c P : Addr} {a : Str} {params : Arguments} {scope : Scope} {j j2 : Nat} {x1} {p0 p1 p2 p3 p4 p5 p6 p7 p8 : Pos} (hr : Room k X.A) (hc : X.calm = true) (hg : Gl X "sorted") (hm : X.mg "sorted" = none) (hlen : X.mg "len" = none) (h : DE X e te)
    (TB : LamX.TabB X.base X.mg c P) (hcode : X.env.code = .ref c) (htab : tabOf X.K = [(P, X.env.qual ++ "<lambda>")]) (hdef : defaultsOf params X.env = ([], [])) (S : LamSc a scope) (hd : (a == ("__debug__" : Str)) = false)
    (hbind : ∀ (q : Str) (cl : List (Str × Addr)) (pm cv ctv v : Value), bindArgs (PySem.W.kla_fn "<lambda>" q params (.Tuple [.Call (.Name "len" p0) [.Subscript (.Name a p1) (.Constant (.int 0) j p2) p3] [] p4, .Subscript (.Name a p5) (.Constant (.int 0) j2 p6) p7] x1 p8) scope cl pm cv ctv) ⟨[v], []⟩ = pure [(a, v)])
    (hbase : attributeBase e "items" X.env (eval e X.env) = eval e X.env := by rfl) (hline : (apos.endLine == cpos.line) = true := by rfl)
    (na : starEach [.Call (.Attribute e "items" apos) [] [] cpos] X.env = (false, eval (.Call (.Attribute e "items" apos) [] [] cpos) X.env) :: starEach [] X.env := by rfl) :
    DE X (.Call (.Name "sorted" p) [.Call (.Attribute e "items" apos) [] [] cpos] [⟨some "key", .Lambda params (.Tuple [.Call (.Name "len" p0) [.Subscript (.Name a p1) (.Constant (.int 0) j p2) p3] [] p4, .Subscript (.Name a p5) (.Constant (.int 0) j2 p6) p7] x1 p8) scope lpos, kpos⟩] pos) (dSortLam te) := by
  refine ⟨?_⟩
  intro F Fr env l σ H Q hE hR ht pins s I
  refine wpAny_Call_Name_kw (ld_blt I hg hm (show bootBuiltins "sorted" = some (.builtin "sorted") by decide +kernel) ?_)
  refine PyProof.Rows.callWith_kw (PyProof.Rows.args_cons ?_ na) (by rfl) (by rfl) (by rfl) (by rfl)
  refine wpAny_Call_method (T := "dict") (id := "dict.items") hbase rfl hline PySem.F.plainAttrs_dict PySem.F.slot_dict_items PySem.F.type_dict_items (thn (h F Fr env l σ H _ hE hR ht pins s I) fun u s1 ⟨x, H1, I1, rx, F1, d, l1, s1', rd, R1, q1⟩ => ?_)
  cases rd with
  | @dT pa od vs ks ds hF hl rr =>
    obtain ⟨ws, rfl, hw, q1⟩ := q1
    obtain rfl : u = Value.ref pa := rx
    obtain ⟨hsys, hgd, hx, es, ep, hdt, hsz, -⟩ := frzT2 I1 (R1.fz _ _ hF)
    refine ⟨⟨od, hgd, hx.1⟩, fun b hb => by cases hb; exact ⟨od, hgd, hx.2.1⟩, ?_⟩
    have raw : DT.Raw s1.heap pa es ep := ⟨od, hgd, hx, hdt⟩
    have nV : H1 s1.heap.objs.size = none := I1.hok.fresh (Nat.le_refl _)
    have I2 : Inv X pins σ (upd H1 s1.heap.objs.size (L2.DX.itemsO s1.heap.objs.size pa)) { s1 with heap := s1.heap.push { cls := .type "dict_items", data := .fields #[.ref pa] } } := I1.laid (t' := s1.toks) (fun b ob q => Heap.get?_push_of_some _ q) (Nat.le_refl _) (L2.DX.itemsO_ok (Heap.get?_push_size _ rfl))
    have R2 := R1.extra nV (L2.DX.itemsO s1.heap.objs.size pa)
    show wpAny _ _ (callWith cpos (.builtin "dict.items") [.ref pa] [] []) _ X.xe s1
    refine method_meetsIn PySem.F.slot_dict_items PySem.F.entry_dict_items rfl (PySem.evalArgs_none ⟨rfl, raw.typeIs, PySem.F.args_dict_items_1 _, _, DT.meetsItems (es := es) (ep := ep) hsys, raw, PyProof.Rows.args_nil ?_⟩)
    generalize hs2 : ({ s1 with heap := s1.heap.push { cls := .type "dict_items", data := .fields #[.ref pa] } } : Shared) = s2 at I2
    have V2 : (upd H1 s1.heap.objs.size (L2.DX.itemsO s1.heap.objs.size pa)) s1.heap.objs.size = some (L2.DX.itemsO s1.heap.objs.size pa) := upd_same
    generalize upd H1 s1.heap.objs.size (L2.DX.itemsO s1.heap.objs.size pa) = H2 at I2 R2 V2
    have hT : LamX.Tabs (tabOf X.K) H2 := R2.tb
    refine wpAny_evalAll_cons (wpAny_bind (LamX.lam_make2 (T := tabOf X.K) I2 TB hcode (by rw [htab]; exact List.mem_singleton.mpr rfl) (fun q hq _ => by rw [htab] at hq; rw [List.mem_singleton.mp hq]) hT hdef (fun y hy z => absurd z (S.nm y hy).2) fun f c' pm ctv H3 s3 I3 ex t3 hf hfn hfr hco => wpAny_bind (wpAny_standAt (wpAny_pure (wpAny_evalAll_nil ?_)))))
    have R3 := R2.lam ex t3
    obtain ⟨vw, _, _⟩ := I3.hok _ _ (ex _ _ V2 fun ps z => by cases z)
    obtain ⟨_, hgd3, hx3, es3, ep3, hdt3, hsz3, ent⟩ := frzT2 I3 (R3.fz _ _ hF)
    have raw3 : DT.Raw s3.heap pa es3 ep3 := ⟨od, hgd3, hx3, hdt3⟩
    have hL : sizeLine = 16777216 := sizeLine_eq
    have zl : ((ws.map tK).zip vs).length ≤ sizeLine := by
      obtain ⟨_, z, _⟩ := I1.hok _ _ (R1.fz _ _ hF)
      exact z
    have lv : vs.length = ws.length := by rw [← hl, List.length_map]
    have ld : ds.length = ws.length := by rw [rr.length, lv]
    have lz : ((ws.map tK).zip vs).length = ws.length := by rw [List.length_zip, List.length_map, lv, Nat.min_self]
    have lp : (ws.zip ds).length = ws.length := by rw [List.length_zip, ld, Nat.min_self]
    refine sortItemsKw (s := s3) (es := es3) (ep := ep3) (I1.ok.hd hc) vw raw3 (by rw [hsz3]; exact zl) (PyProof.Rows.ksk_s1 _ _) fun h' tk as hk hlt hla hG => ?_
    have las : as.length = ws.length := by omega
    have nd : as.Nodup := List.Pairwise.imp (fun h => Nat.ne_of_lt h) hG.rise
    -- the pairs as they lie there
    have pr : ∀ (j : Nat) b w d, as[j]? = some b → ws[j]? = some w → ds[j]? = some d → ∃ q v u, H3 q = some (.tup (w.map V.int)) ∧ RelD X.K F1 d v ∧ RelV v u ∧ h'.get? b = some { cls := .type "tuple", data := .seq #[.ref q, u] } := fun j b w d h1 h2 h3 => by
      obtain ⟨en, he, hgb⟩ := hG.pairs j b h1
      obtain ⟨v, hv, rv⟩ := rr.get h3
      obtain ⟨en', q, he', hkey, hq, ru⟩ := ent j (tK w) v (List.getElem?_zip_eq_some.mpr ⟨by rw [List.getElem?_map, h2]; rfl, hv⟩)
      rw [he] at he'
      cases he'
      rw [hkey] at hgb
      refine ⟨q, v, en.val, ?_, rv, ru, hgb⟩
      rw [hq]
      unfold tK
      rw [List.map_map]
      rfl
    generalize hh2 : h'.push { cls := .type "list", data := .seq (as.map Value.ref).toArray } = h2
    have hob : h2.get? h'.objs.size = some (seqObj "list" (as.map Value.ref).toArray 0) := by rw [← hh2]; exact Heap.get?_push_size _ rfl
    have up2 : ∀ b o, h'.get? b = some o → h2.get? b = some o := fun b o e => by rw [← hh2]; exact Heap.get?_push_of_some _ e
    have ne2 : ∀ b o, h'.get? b = some o → b ≠ h'.objs.size := fun b o e => Nat.ne_of_lt (Heap.lt_size e)
    have E1 : PySem.W.EachIs (fun (v : Value) (p : List Int × D) => ∃ (j : Nat) (b : Addr), v = .ref b ∧ as[j]? = some b ∧ ws[j]? = some p.1 ∧ ds[j]? = some p.2) (as.map Value.ref) (ws.zip ds) := each_getW (by rw [lp]; exact las) fun j b p h1 h2 => ⟨j, b, rfl, h1, (List.getElem?_zip_eq_some.mp h2).1, (List.getElem?_zip_eq_some.mp h2).2⟩
    have al : PySem.W.AllAlike ((ws.zip ds).map fun p => encW p.1) := fun d hd d' hd' => by
      obtain ⟨x, _, rfl⟩ := List.mem_map.mp hd
      obtain ⟨y, _, rfl⟩ := List.mem_map.mp hd'
      simp only [encW, PySem.W.alike, PySem.W.alikeAll, Bool.true_and, Bool.and_true]
      exact alike_intsW _ _
    have so : PySem.W.Sortable ((ws.zip ds).map fun p => encW p.1) := .inl fun d hd => by
      obtain ⟨x, _, rfl⟩ := List.mem_map.mp hd
      exact ⟨_, _, rfl⟩
    obtain ⟨mb, B1, B2⟩ := I3.mod.blt
    obtain ⟨⟨oc, vsc, tc, hoc, hdc, hvc⟩, _, _⟩ := I3.hok c' _ hco
    have fresh : ∀ b, b ∈ as → s3.heap.objs.size ≤ b := fun b hb => Nat.le_of_lt (hG.above b hb)
    refine PySem.W.list_sort_key_data (s := { s3 with heap := h2, toks := tk }) (b := false) (f := .ref f) (n := 0) (vs := as.map Value.ref) (bs := ws.zip ds) (fun p : List Int × D => encW p.1) hob E1 al so (by rw [lp]; omega) (fun x hx => ?_) (PyProof.Rows.ksk_l1 _ _) (PyProof.Rows.ksk_t1 _ _) (fun v x hR hx h tk2 kp => ?_) fun out n2 hE tk2 kp hLs ho E3 => ?_
    · have hd3 : (encW x.1).depth ≤ 3 := depth_encW _
      have hu := hr.un
      show X.A.units + 1 + 1 + _ < cLine
      omega
    · obtain ⟨i, b, rfl, h1, h3, h4⟩ := hR
      obtain ⟨q, v, u, hq, rv, ru, hgb⟩ := pr i b x.1 x.2 h1 h3 h4
      obtain ⟨its, rit, hti, hz⟩ : ∃ its : List Value, Vals (x.1.map V.int) its ∧ IsTup s3.heap q its.toArray ∧ x.1.length ≤ sizeLine := by
        obtain ⟨z, its, r, pl⟩ := I3.hok _ _ hq
        exact ⟨its, r, pl, by rw [List.length_map] at z; exact z⟩
      have up3 : ∀ b o, s3.heap.get? b = some o → h.get? b = some o := fun b o e => kp b o (ne2 _ _ (hk b o e)) (up2 _ _ (hk b o e))
      exact lam_key (s := { s3 with heap := h, toks := tk2 }) (mg := X.mg) (mb := mb) hr.depth (up3 _ _ hf) ⟨c', oc, vsc, tc, rfl, up3 _ _ hoc, hdc, hvc⟩ (I3.nolimit.keeps up3) (fun v => hbind _ _ _ _ _ v) S.kind S.co S.gen (fun x hx => (S.nm x hx).1) S.own S.len hd
        ((I3.mod.glob.keeps I3.bk).keeps up3) hlen ((B1.keeps I3.bk).keeps up3) ((B2 "len" (by decide)).trans rfl) ⟨_, kp _ _ (ne2 _ _ hgb) (up2 _ _ hgb), rfl, _, rfl⟩ (hti.keeps up3) rit hz
    · have oldF : ∀ b o, h'.get? b = some o → hE.get? b = some o := fun b o e => kp b o (ne2 _ _ e) (up2 _ _ e)
      have I4 : Inv X pins σ H3 { s3 with heap := hE, toks := tk2 } := I3.kept (t' := tk2) fun b o e => oldF _ _ (hk b o e)
      -- the pairs are tracked
      obtain ⟨zs, hzs⟩ : ∃ zs : List Pr, zs.map (·.b) = as ∧ zs.map (·.w) = ws ∧ RelDs X.K F1 ds (zs.map (·.v)) ∧ ∀ z ∈ zs, H3 z.q = some (.tup (z.w.map V.int)) ∧ ∃ u, RelV z.v u ∧ h'.get? z.b = some { cls := .type "tuple", data := .seq #[.ref z.q, u] } := prs_of las ld pr
      obtain ⟨z1, z2, z3, z4⟩ := hzs
      obtain ⟨H4, F4, I5, S4, R4, q4, k4⟩ := takeP I3 zs I4 R3 (by rw [z1]; exact nd) fun z hz => by
        have hm : z.b ∈ as := by rw [← z1]; exact List.mem_map.mpr ⟨z, hz, rfl⟩
        obtain ⟨y1, u, y2, y3⟩ := z4 z hz
        exact ⟨fresh _ hm, I3.hok.fresh (fresh _ hm), y1, u, y2, oldF _ _ y3⟩
      have nL : H4 h'.objs.size = none := by
        rw [k4 _ fun hm => ?_]
        · exact I3.hok.fresh (Nat.le_of_lt hlt)
        · rw [z1] at hm
          exact Nat.lt_irrefl _ (hG.there hm)
      obtain ⟨vs', v1, v2⟩ := rel_outW (K := X.K) (F := F4) (fun v p ⟨j, b, e1, e2, e3, e4⟩ => ⟨b, e1, by
        obtain ⟨z, hz⟩ : ∃ z, zs[j]? = some z := by
          have := e2
          rw [← z1, List.getElem?_map] at this
          cases q : zs[j]? with
          | none => rw [q] at this; cases this
          | some z => exact ⟨z, rfl⟩
        have eb : z.b = b := by have := e2; rw [← z1, List.getElem?_map, hz] at this; exact Option.some.inj this
        have ew : z.w = p.1 := by have := e3; rw [← z2, List.getElem?_map, hz] at this; exact Option.some.inj this
        obtain ⟨g1, g2⟩ := q4 z (List.mem_of_getElem? hz)
        obtain ⟨v', hv', rv'⟩ := z3.get e4
        have ev : z.v = v' := by rw [List.getElem?_map, hz] at hv'; exact Option.some.inj hv'
        rw [eb, ev] at g1
        rw [ew] at g2
        exact .tup g1 (.cons (.tup g2 (relInts _)) (.cons (rv'.mono S4) .nil))⟩) E3
      have lvs : vs'.length ≤ sizeLine := by
        rw [← v2.length, List.length_map, List.length_mergeSort, lp]
        omega
      have I6 : Inv X pins σ (upd H4 h'.objs.size (.lst vs')) { s3 with heap := hE, toks := tk2 } := I5.take (h' := hE) (t' := tk2) (fun b ob _ e => e) (I3.fpOk (Nat.le_of_lt hlt) nL) ⟨lvs, out, n2, v1, hLs⟩
      exact ⟨.ref h'.objs.size, _, I6, rfl, (LK.lst nL R4 v2 q1).weak (s1'.trans S4)⟩
  | _ => exact q1.elim
end
end DL

namespace DL
open PySem PySem.Spec PyProof.Rows L2
/-! the end of a law whose program makes a lambda: the maker's table of code objects is tracked beside the script -/
/-- the maker's code object and its table, at every base -/
class HasTB (K : PySem.W.Frag) (mg : Str → Option Value) (base : Heap) : Prop where
  tb : ∀ c P, PySem.W.tabIn K lamMaker = some (c, P) → LamX.TabB base mg c P
theorem tabOf_of {K : PySem.W.Frag} {c P : Addr} (h : PySem.W.tabIn K lamMaker = some (c, P)) : tabOf K = [(P, lamMaker ++ ".<locals>.<lambda>")] := by
  unfold tabOf
  rw [h]
theorem fn_okE {P : Program} {w : World} {K : PySem.W.Frag} {mg : Str → Option Value} {base : Heap} {x qual : Str} {st : Stmt} {f : Addr} {fd : FuncData} {N ps : List Str} {k nl : Nat} {tb : DTS} (G : Fun K x qual st f fd) (S : FnScope N ps (defScope st)) (hn : nl = N.length - ps.length)
    (hb : ∀ (cdv : Value) (_ : fd.code = cdv) (A : Around) (outer : List Env) (s : Shared) (H : Hp) (E : XK), Room k (A.deeper (envOfC qual (defScope st) s.heap.objs.size f cdv)) → (A.deeper (envOfC qual (defScope st) s.heap.objs.size f cdv)).guards = some [] → DSs (cxOf CX0 P w K mg base N qual (defScope st) f cdv A outer s H E).nox (defBody st) tb) :
    FnG P w K mg base (k + 1) f fd ps (fnD tb ps.length nl) := by
  obtain ⟨oc, od, kV, doc, pm, an, cdv, ct, osl, rfl, lk, hcd⟩ := G.ex
  refine ⟨fun ds l Q h => h.1, fun A outer s H args us vs Q E hr hgd e0 hbd r hsp => ?_⟩
  obtain ⟨F, Fr, ds, l, Qd, rd, R, ⟨h1, q⟩, hq⟩ := hsp
  have hlen : vs.length = ps.length := by rw [← rd.length, h1]
  have inK : K.In s.heap := e0.mod.kin.keeps fun b o e => (e0.bs b o e).1
  have hlim : s.heap.NoLimit := e0.mod.nolimit.keeps fun b o e => (e0.bs b o e).1
  have kinds : ∀ y ∈ ps.zip us, (defScope st).names.lookup y.1 = some .local ∨ ((defScope st).names.lookup y.1 = some .cell ∧ ((cellsFrom (s.heap.objs.size + 1) (defScope st).names []).lookup y.1).isSome = true) := by
    rintro ⟨n, v⟩ hy
    exact (S.par n (List.of_mem_zip hy).1).imp id fun q => ⟨q, PySem.W.cellsFrom_some _ _ _ (.inl q)⟩
  refine codeAny_call_function hr.depth (inK _ _ lk) rfl S.co S.gen rfl (PySem.W.codeRec_of inK hcd) (hbd _ _ _ _ (wpAny_newFunctionEnv_cells S.kind kinds fun env he s1 ic => ?_))
  subst he
  refine ⟨hlim.keeps ic.toInCall.keep, codeAny_func ?_⟩
  have I : Inv (cxOf CX0 P w K mg base N qual (defScope st) f cdv A outer s H E) [] (start N vs) H s1 := inv_start S hr.hd e0 hlen r ic
  have est : L2.start N vs = vs.map some ++ List.replicate nl none := by
    unfold L2.start
    rw [hn, hlen]
  have body : WSs (cxOf CX0 P w K mg base N qual (defScope st) f cdv A outer s H E).nox (defBody st) (LE K F Fr ⟨fun _ l => Qd .non l, Qd, fun _ _ => False, fun _ _ => False⟩) (L2.start N vs) H := by
    rw [est]
    exact hb cdv rfl A outer s H E (hr.deeper _) hgd F Fr _ l _ H _ (RepE.start rd nl) R q
  refine thn (pssW.nox.run [] s1 _ H _ I body) fun fl s' hs => ?_
  have fin : ∀ {σ' : St} {H' : Hp} {v : V} {u : Value}, Inv (cxOf CX0 P w K mg base N qual (defScope st) f cdv A outer s H E) [] σ' H' s' → RelV v u → Q v H' → CE outer P w H s Q u s' := fun J rv q => ⟨_, _, J.os, J.bare, J.base, J.hok, rv, q⟩
  cases fl with
  | ret u => obtain ⟨v, σ', H', J, rv, q⟩ := hs; exact fin J rv (hq v H' q)
  | next =>
    obtain ⟨σ', H', J, F', e', l', s', re, R', q⟩ := hs
    exact fin (v := .non) (u := .none) J rfl (hq .non H' ⟨F', .non, l', s', .non, R', q⟩)
  | brk => obtain ⟨σ', H', J, F', e', l', s', re, R', q⟩ := hs; exact q.elim
  | cont => obtain ⟨σ', H', J, F', e', l', s', re, R', q⟩ := hs; exact q.elim
theorem code_of_tab {K : PySem.W.Frag} {x qual : Str} {st : Stmt} {f c P : Addr} {fd : FuncData} (G : Fun K x qual st f fd) (n : PySem.W.nsIn K mainGlobals lamMaker = some (some (.ref f))) (h : PySem.W.tabIn K lamMaker = some (c, P)) : fd.code = .ref c := by
  obtain ⟨oc, od, kV, doc, pm, an, cdv, ct, osl, rfl, lk, hcd⟩ := G.ex
  unfold PySem.W.tabIn at h
  rw [n] at h
  dsimp only at h
  rw [lk] at h
  dsimp only at h
  split at h
  · split at h
    · split at h
      · cases h; rfl
      · cases h
    · cases h
  · cases h
/-- the maker keeps its reading: its own code object is known -/
theorem fn_okL {P : Program} {w : World} {K : PySem.W.Frag} {mg : Str → Option Value} {base : Heap} {x qual : Str} {st : Stmt} {f c P0 : Addr} {fd : FuncData} {N ps : List Str} {k nl : Nat} {tb : DTS} (G : Fun K x qual st f fd) (n : PySem.W.nsIn K mainGlobals lamMaker = some (some (.ref f))) (h : PySem.W.tabIn K lamMaker = some (c, P0)) (S : FnScope N ps (defScope st)) (hn : nl = N.length - ps.length)
    (hb : ∀ (A : Around) (outer : List Env) (s : Shared) (H : Hp) (E : XK), Room k (A.deeper (envOfC qual (defScope st) s.heap.objs.size f (.ref c))) → (A.deeper (envOfC qual (defScope st) s.heap.objs.size f (.ref c))).guards = some [] → DSs (cxOf CX0 P w K mg base N qual (defScope st) f (.ref c) A outer s H E).nox (defBody st) tb) :
    FnG P w K mg base (k + 1) f fd ps (fnD tb ps.length nl) := by
  have hc := code_of_tab G n h
  exact fn_okE G S hn fun cdv e A outer s H E hr hg => by
    rw [hc] at e
    subst e
    exact hb A outer s H E hr hg
theorem lam_qual : (lamMaker ++ ".<locals>.<lambda>" : Str) = ((lamMaker ++ ".<locals>." : Str) ++ "<lambda>" : Str) := by decide +kernel
abbrev tab0 : Obj := { cls := .none, data := .fields #[] }
theorem law_coreT {P : Program} {w : World} {K : PySem.W.Frag} {mg mb : Str → Option Value} {k : Nat} {fa a c P0 : Addr} {fd : FuncData} {x : Str} {dsp : DSp} {s1 : Shared} {vs : List Value} {ns : List Int}
    (KX : K.In s1.heap) (hns : s1.heap.Ns mainGlobals mg) (hb : s1.heap.Ns builtinsNs mb) (hbb : ∀ x : Str, x ≠ "__name__" → mb x = bootBuiltins x) (hlim : s1.heap.NoLimit) (hg : s1.gens = #[])
    (hT : s1.heap.get? P0 = some tab0) (nT : K.lookup P0 = none) (hC : PySem.W.CodeHd s1.heap c P0)
    (hbm : ∃ (bm : Addr) (ob : Obj), mg "__builtins__" = some (.ref bm) ∧ bm ≠ builtinsNs ∧ s1.heap.get? bm = some ob ∧ ob.cls = .type "module" ∧ ob.dict = some builtinsNs ∧ ob.data = .plain)
    (ha : s1.heap.get? a = some { cls := .type "list", data := .seq vs.toArray }) (hr : Room k callerA) (tab : PySem.W.tabIn K lamMaker = some (c, P0))
    (G : ∀ base : Heap, K.In base → base.Ns mainGlobals mg → HasTB K mg base → FnG P w K mg base k fa fd [x] dsp) (hbind : ∀ (s : Shared) (u : Value), BindsTo s fd ⟨[u], []⟩ [(x, u)])
    (hsp : dsp [.scr ns] (fun _ => none) fun d _ => d = .bl true)
    (F : Hp) (hO : ∀ b o, F b = some o → b = a ∧ ∃ ob xs, o = .frz ob (.lst xs)) (hS : SqL K F a (ns.map V.int)) (hok : HOk P w (upd F P0 (.tbl #[])) s1.heap) (hK : F a ≠ none → K.lookup a = none) :
    codeAny (model P w) callerA (.call (.ref fa) ⟨[.ref a], []⟩) (fun r s' => r = .ok (.ret (.bool true)) ∧ OldK s1.heap s'.heap ∧ s'.os = s1.os ∧ AllBare s'.gens) s1 := by
  have aP : a ≠ P0 := fun z => by rw [z, hT] at ha; cases ha
  have fP : F P0 = none := by
    cases q : F P0 with
    | none => rfl
    | some o => exact absurd (hO _ _ q).1.symm aP
  generalize hH : upd F P0 (.tbl #[]) = H at hok
  have hP : H P0 = some (.tbl #[]) := by rw [← hH]; exact upd_same
  have hF : ∀ b, b ≠ P0 → H b = F b := fun b hb => by rw [← hH]; exact upd_ne hb
  have Hc : ∀ b o, H b = some o → b = P0 ∨ (b = a ∧ ∃ ob xs, o = .frz ob (.lst xs)) := fun b o e => by
    by_cases hb : b = P0
    · exact .inl hb
    · rw [hF b hb] at e
      exact .inr (hO _ _ e)
  -- what is tracked is a list or the empty table
  have free : ∀ {b : Addr} {o : Obj}, s1.heap.get? b = some o → (∀ xs n, o.data ≠ .seq xs n) → o.data ≠ .fields #[] → H b = none := fun {b o} e n1 n2 => by
    cases q : H b with
    | none => rfl
    | some u =>
      rcases Hc b u q with rfl | ⟨rfl, _⟩
      · rw [hT] at e; cases e; exact absurd rfl n2
      · rw [ha] at e; cases e; exact absurd rfl (n1 _ _)
  have base_of : ∀ {b : Addr} {o : Obj}, s1.heap.get? b = some o → H b = none → (hidT s1.heap H).get? b = some o := fun e n => hidT_get e n
  have dict0 : ∀ {o : Obj} {es : Array DictEntry} {ep : Nat}, o.data = .dict es ep → (∀ xs n, o.data ≠ .seq xs n) ∧ o.data ≠ .fields #[] := fun {o es ep} d => ⟨fun xs n z => (by rw [d] at z; cases z), fun z => (by rw [d] at z; cases z)⟩
  have toBase : ∀ {b : Addr} {m : Str → Option Value}, s1.heap.Ns b m → (hidT s1.heap H).Ns b m := fun ⟨o, es, ep, e, d, r⟩ => ⟨o, es, ep, base_of e (free e (dict0 d).1 (dict0 d).2), d, r⟩
  have kbase : K.In (hidT s1.heap H) := fun b o e => base_of (KX b o e) (by
    cases q : H b with
    | none => rfl
    | some u =>
      rcases Hc b u q with rfl | ⟨rfl, _⟩
      · rw [nT] at e; cases e
      · rw [hK (by rw [← hF _ aP, q]; exact fun z => (nomatch z))] at e; cases e)
  have md : Mod K mg (hidT s1.heap H) := ⟨kbase, toBase hns, ⟨mb, toBase hb, hbb⟩, hlim.elim fun mc h => ⟨mc, toBase h.1, h.2⟩⟩
  have e0 : Env0 P w K mg (hidT s1.heap H) callerA [] s1 H := ⟨rfl, md, fun b o e => of_hidT e, Nat.le_of_eq (hidT_size _ _), trivial, (fun b hb => nomatch (show b ∈ ([] : List Addr) from hb)), hok, .of_eq hg⟩
  have tbs : HasTB K mg (hidT s1.heap H) := ⟨fun c' P' e => by
    rw [tab] at e
    cases e
    obtain ⟨oc, us, fl, tf, flags, tg, inF, tx, tt, g1, g2, g3, g4⟩ := hC
    have nf : oc.data ≠ .fields #[] := fun z => by rw [g3] at z; cases z; simp at g4
    refine ⟨⟨oc, us, fl, tf, flags, tg, inF, tx, tt, base_of g1 (free g1 (fun xs n z => by rw [g3] at z; cases z) nf), g2, g3, g4⟩, ?_, fun z => ?_⟩
    · obtain ⟨bm, ob, b1, b2, b3, b4, b5, b6⟩ := hbm
      have nG : bm ≠ mainGlobals := fun z => by
        obtain ⟨o, es, ep, e, hd, _⟩ := hns
        rw [z, e] at b3; cases b3
        rw [hd] at b6; cases b6
      have nP : bm ≠ P0 := fun z => by rw [z, hT] at b3; cases b3; cases b6
      exact ⟨bm, ob, b1, b2, nG, nP, base_of b3 (free b3 (fun xs n z => by rw [b6] at z; cases z) fun z => by rw [b6] at z; cases z), b4, b5, b6⟩
    · obtain ⟨o, es, ep, e, hd, _⟩ := hns
      rw [z, hT] at e; cases e
      cases hd⟩
  have sF : Same F H := fun b o e => by
    rw [hF b (fun z => by rw [z, fP] at e; cases e)]
    exact e
  have tbR : ∀ p ∈ tabOf K, LamX.TabS H p.1 p.2 := fun p hp => by
    rw [tabOf_of tab] at hp
    rw [List.mem_singleton.mp hp]
    exact LamX.TabS.nil hP
  have rep : Rep K F (fun _ => none) (fun _ => none) H := ⟨sF, (fun _ _ e => nomatch e), (fun _ _ e => nomatch e), (fun _ _ e => nomatch e), (fun _ _ e => nomatch e), tbR, (fun b o e => by
    obtain ⟨_, ob, xs, rfl⟩ := hO b o e
    rfl), (fun _ _ e => nomatch e)⟩
  have sp : spOf K dsp [.ref a] H (fun v _ => v = .bl true) L2.E0 := ⟨F, fun _ => none, [.scr ns], fun _ => none, fun d _ => d = .bl true, .cons (.scr hS) .nil, rep, hsp, fun v H' ⟨F', d, l, _, r, _, e⟩ => by subst e; cases r; rfl⟩
  refine codeAny_mono ((G _ kbase (toBase hns) tbs).run callerA [] s1 H ⟨[.ref a], []⟩ [.ref a] [.ref a] _ _ hr rfl e0 (hbind s1 (.ref a)) (.cons rfl .nil) sp) fun r s' h => ?_
  cases r with
  | error e => exact h.elim
  | ok fl =>
    cases fl with
    | next => exact h.elim
    | brk => exact h.elim
    | cont => exact h.elim
    | ret u =>
      obtain ⟨v, H', os, bare, un, hok', rv, q⟩ := h
      replace q : v = .bl true := q
      subst q
      cases (show u = Value.bool true from rv)
      have kept : ∀ b o, b ≠ P0 → s1.heap.get? b = some o → s'.heap.get? b = some o := fun b o hb e => by
        cases q : H b with
        | none => exact un.keep b o e q (fun z => nomatch (show b ∈ ([] : List Addr) from z)) (fun z => nomatch (show b ∈ ([] : List Addr) from z))
        | some u =>
          rcases Hc b u q with z | ⟨_, ob, xs, rfl⟩
          · exact absurd z hb
          · have z1 := (hok b _ q).1
            have z2 := (hok' b _ (un.frzs b ob _ q)).1
            rw [e] at z1
            cases z1
            exact z2
      obtain ⟨more, hm⟩ : ∃ more : Array Value, s'.heap.get? P0 = some { cls := .none, data := .fields more } := by
        obtain ⟨more, z⟩ := un.tbls P0 #[] hP
        exact ⟨_, hok' P0 _ z⟩
      have isT : isCodeTable s1.heap P0 := by
        obtain ⟨oc, us, fl, tf, flags, tg, inF, tx, tt, g1, g2, g3, g4, _⟩ := hC
        exact ⟨c, oc, us, g1, g2, g3, g4⟩
      refine ⟨rfl, ⟨fun b o e => ?_, fun b o e => ?_⟩, os, bare⟩
      · by_cases hb : b = P0
        · subst hb
          rw [hT] at e
          cases e
          exact .inr (.inl ⟨isT, rfl, #[], more, rfl, by rw [Array.empty_append]; exact hm⟩)
        · exact .inl (kept b o hb e)
      · by_cases hb : b = P0
        · rw [hb]; exact ⟨_, hm⟩
        · exact ⟨o, kept b o hb e⟩
theorem law_callT {P : Program} {w : World} {K : PySem.W.Frag} {mg mb : Str → Option Value} {k : Nat} {fa a c P0 : Addr} {fd : FuncData} {x : Str} {dsp : DSp} {s1 : Shared} {vs : List Value} {ns : List Int}
    (KX : K.In s1.heap) (hns : s1.heap.Ns mainGlobals mg) (hb : s1.heap.Ns builtinsNs mb) (hbb : ∀ x : Str, x ≠ "__name__" → mb x = bootBuiltins x) (hlim : s1.heap.NoLimit) (hg : s1.gens = #[])
    (hT : s1.heap.get? P0 = some tab0) (nT : K.lookup P0 = none) (hC : PySem.W.CodeHd s1.heap c P0)
    (hbm : ∃ (bm : Addr) (ob : Obj), mg "__builtins__" = some (.ref bm) ∧ bm ≠ builtinsNs ∧ s1.heap.get? bm = some ob ∧ ob.cls = .type "module" ∧ ob.dict = some builtinsNs ∧ ob.data = .plain)
    (ha : s1.heap.get? a = some { cls := .type "list", data := .seq vs.toArray }) (hi : IntsAre vs ns) (hl : ns.length ≤ sizeLine) (hr : Room k callerA) (tab : PySem.W.tabIn K lamMaker = some (c, P0))
    (G : ∀ base : Heap, K.In base → base.Ns mainGlobals mg → HasTB K mg base → FnG P w K mg base k fa fd [x] dsp) (hbind : ∀ (s : Shared) (u : Value), BindsTo s fd ⟨[u], []⟩ [(x, u)])
    (hsp : dsp [.scr ns] (fun _ => none) fun d _ => d = .bl true) :
    codeAny (model P w) callerA (.call (.ref fa) ⟨[.ref a], []⟩) (fun r s' => r = .ok (.ret (.bool true)) ∧ OldK s1.heap s'.heap ∧ s'.os = s1.os ∧ AllBare s'.gens) s1 := by
  have rv := vals_of_ints hi
  have lenV := hi.length
  have aP : a ≠ P0 := fun z => by rw [z, hT] at ha; cases ha
  cases q : K.lookup a with
  | none =>
    have same : (upd (fun _ => none) a (.frz { cls := .type "list", data := .seq vs.toArray } (.lst (ns.map V.int))) : Hp) a = some _ := upd_same
    refine law_coreT KX hns hb hbb hlim hg hT nT hC hbm ha hr tab G hbind hsp (upd (fun _ => none) a (.frz { cls := .type "list", data := .seq vs.toArray } (.lst (ns.map V.int)))) (fun b o e => ?_) (.inl (.inr ⟨_, same⟩)) (fun b u z => ?_) fun _ => q
    · by_cases hb : b = a
      · subst hb; rw [upd_same] at e; cases e; exact ⟨rfl, _, _, rfl⟩
      · rw [upd_ne hb] at e; cases e
    · by_cases hp : b = P0
      · subst hp; rw [upd_same] at z; cases z; exact hT
      · rw [upd_ne hp] at z
        by_cases hb : b = a
        · subst hb; rw [upd_same] at z; cases z
          exact ⟨ha, by rw [List.length_map]; exact hl, vs, _, rv, ha⟩
        · rw [upd_ne hb] at z; cases z
  | some o =>
    have e := KX a o q
    rw [ha] at e
    cases e
    refine law_coreT KX hns hb hbb hlim hg hT nT hC hbm ha hr tab G hbind hsp (fun _ => none) (fun b o e => nomatch e) (.inr ⟨_, vs.toArray, _, q, rfl, rfl, rfl, by rw [List.size_toArray, lenV]; exact hl, by simpa using rv⟩) (fun b u z => ?_) fun z => absurd rfl z
    by_cases hp : b = P0
    · subst hp; rw [upd_same] at z; cases z; exact hT
    · rw [upd_ne hp] at z; cases z
theorem walk_ofT {l : PySem.W.OpenLaw} {n k : Nat} {q : Program} {loose : List Str} {XP : (Str → Option Value) → Heap → Prop} {d : DefRec} {K : Params → PySem.W.Frag} {as : List Addr} {ek : ∀ P, as = (K P).map (·.1)} {c P0 : Addr} {dsp : DSp} {x : Str}
    (hn : l.most = some n) (hn2 : n ≤ sizeLine) (hdf : d.params.defaults = []) (hr : Room k callerA)
    (hTab : ∀ P : Params, PySem.W.tabIn (K P) lamMaker = some (c, P0)) (hN : ∀ P : Params, (K P).lookup P0 = none) (hC : ∀ P : Params, PySem.W.codeHdIn (K P) c P0 = true)
    (F : ∀ (w : World) (mg : Str → Option Value) (fa : Addr) (h : Heap), (K w.params).In h → h.Ns mainGlobals mg → mg d.name = some (.ref fa) →
      ∃ fd : FuncData, (∀ (s : Shared) (u : Value), BindsTo s fd ⟨[u], []⟩ [(x, u)]) ∧ ∀ base : Heap, (K w.params).In base → base.Ns mainGlobals mg → HasTB (K w.params) mg base → FnG l.prog w (K w.params) mg base k fa fd [x] dsp)
    (hsp : ∀ ns : List Int, ns.length ≤ n → dsp [.scr ns] (fun _ => none) fun d _ => d = .bl true) :
    PySem.W.WalkO q loose XP (PySem.W.Hook.says (PySem.W.kmHook K as ek [P0])) l.row.toRowW d [] (fun f vs => PySem.call f vs) := by
  refine Att.attach_call hn hdf fun w s₀ s₁ mg mb fa o pm cd doc a vs ns G Y ho hd hcd hmg hobj hints hlen hg => ?_
  have KX := PySem.W.km_in_of Y
  obtain ⟨fd, hb, hF⟩ := F w mg fa _ KX G.T.g hmg
  exact law_callT KX G.T.g G.T.b G.T.builtins G.T.nolimit hg (PySem.W.km_tabs_of Y P0 (List.mem_singleton.mpr rfl)) (hN _) (PySem.W.codeHd_of_K KX (hC _)) G.T.bmain hobj hints (Nat.le_trans hlen hn2) hr (hTab _) hF hb (hsp ns hlen)
end DL

namespace Law
open PySem PySem.Spec PyProof.Rows L2 DL
def topS (i : Nat) : Stmt := PySem.Challenge.pw_bracketwords_k22_products_of_sums.main.body.getD i (.Pass ⟨0, 0, 0, 0⟩)
abbrev s__law_folded : Stmt := topS 46
abbrev N__law_folded : List Str := ["_law_script", "_law_size", "_law_cells", "_law_k", "_law_cell"]
abbrev p__law_folded : List Str := ["_law_script", "_law_size"]
theorem sc__law_folded : FnScope N__law_folded p__law_folded (defScope s__law_folded) := ⟨rfl, rfl, rfl, by decide +kernel, rfl, by decide +kernel, by decide +kernel⟩
abbrev s__law_box : Stmt := topS 44
abbrev N__law_box : List Str := ["_law_script", "_law_k", "_law_cell"]
abbrev p__law_box : List Str := ["_law_script", "_law_k"]
theorem sc__law_box : FnScope N__law_box p__law_box (defScope s__law_box) := ⟨rfl, rfl, rfl, by decide +kernel, rfl, by decide +kernel, by decide +kernel⟩
abbrev s__law_take : Stmt := topS 45
abbrev N__law_take : List Str := ["_law_box_here", "_law_size", "_law_found", "_law_step", "_law_once", "_law_twice"]
abbrev p__law_take : List Str := ["_law_box_here", "_law_size"]
theorem sc__law_take : FnScope N__law_take p__law_take (defScope s__law_take) := ⟨rfl, rfl, rfl, by decide +kernel, rfl, by decide +kernel, by decide +kernel⟩
abbrev s__law_sizes : Stmt := topS 47
abbrev N__law_sizes : List Str := ["_law_box_here", "_law_some"]
abbrev p__law_sizes : List Str := ["_law_box_here"]
theorem sc__law_sizes : FnScope N__law_sizes p__law_sizes (defScope s__law_sizes) := ⟨rfl, rfl, rfl, by decide +kernel, rfl, by decide +kernel, by decide +kernel⟩
abbrev s_next_turnword : Stmt := topS 26
abbrev N_next_turnword : List Str := ["word", "letters", "size", "longer"]
abbrev p_next_turnword : List Str := ["word", "letters", "size"]
theorem sc_next_turnword : FnScope N_next_turnword p_next_turnword (defScope s_next_turnword) := ⟨rfl, rfl, rfl, by decide +kernel, rfl, by decide +kernel, by decide +kernel⟩
abbrev s_turnwords : Stmt := topS 27
abbrev N_turnwords : List Str := ["letters", "size", "found", "word"]
abbrev p_turnwords : List Str := ["letters", "size"]
theorem sc_turnwords : FnScope N_turnwords p_turnwords (defScope s_turnwords) := ⟨rfl, rfl, rfl, by decide +kernel, rfl, by decide +kernel, by decide +kernel⟩
abbrev s_Ground_init : Stmt := inClass (topS 34) 0
abbrev N_Ground_init : List Str := ["self", "letters", "depth", "size", "place", "word"]
abbrev p_Ground_init : List Str := ["self", "letters", "depth"]
theorem sc_Ground_init : FnScope N_Ground_init p_Ground_init (defScope s_Ground_init) := ⟨rfl, rfl, rfl, by decide +kernel, rfl, by decide +kernel, by decide +kernel⟩
abbrev s__law_word : Stmt := topS 48
abbrev N__law_word : List Str := ["_law_box_here", "_law_letters", "_law_most", "_law_many", "_law_k"]
abbrev p__law_word : List Str := ["_law_box_here", "_law_letters", "_law_most"]
theorem sc__law_word : FnScope N__law_word p__law_word (defScope s__law_word) := ⟨rfl, rfl, rfl, by decide +kernel, rfl, by decide +kernel, by decide +kernel⟩
abbrev s_longer_words : Stmt := topS 33
abbrev N_longer_words : List Str := ["words", "letters", "found", "word", "letter"]
abbrev p_longer_words : List Str := ["words", "letters"]
theorem sc_longer_words : FnScope N_longer_words p_longer_words (defScope s_longer_words) := ⟨rfl, rfl, rfl, by decide +kernel, rfl, by decide +kernel, by decide +kernel⟩
abbrev s_Ground_words : Stmt := inClass (topS 34) 3
abbrev N_Ground_words : List Str := ["self", "found", "last", "size"]
abbrev p_Ground_words : List Str := ["self"]
theorem sc_Ground_words : FnScope N_Ground_words p_Ground_words (defScope s_Ground_words) := ⟨rfl, rfl, rfl, by decide +kernel, rfl, by decide +kernel, by decide +kernel⟩
abbrev s_list_of_series : Stmt := topS 36
abbrev N_list_of_series : List Str := ["ground", "series", "word"]
abbrev p_list_of_series : List Str := ["ground", "series"]
theorem sc_list_of_series : FnScope N_list_of_series p_list_of_series (defScope s_list_of_series) := ⟨rfl, rfl, rfl, by decide +kernel, rfl, by decide +kernel, by decide +kernel⟩
abbrev s_bare_series : Stmt := topS 11
abbrev N_bare_series : List Str := ["depth", "size"]
abbrev p_bare_series : List Str := ["depth"]
theorem sc_bare_series : FnScope N_bare_series p_bare_series (defScope s_bare_series) := ⟨rfl, rfl, rfl, by decide +kernel, rfl, by decide +kernel, by decide +kernel⟩
abbrev s_unit_series : Stmt := topS 12
abbrev N_unit_series : List Str := ["depth", "found"]
abbrev p_unit_series : List Str := ["depth"]
theorem sc_unit_series : FnScope N_unit_series p_unit_series (defScope s_unit_series) := ⟨rfl, rfl, rfl, by decide +kernel, rfl, by decide +kernel, by decide +kernel⟩
abbrev s_Ground_depth : Stmt := inClass (topS 34) 2
abbrev N_Ground_depth : List Str := ["self"]
abbrev p_Ground_depth : List Str := ["self"]
theorem sc_Ground_depth : FnScope N_Ground_depth p_Ground_depth (defScope s_Ground_depth) := ⟨rfl, rfl, rfl, by decide +kernel, rfl, by decide +kernel, by decide +kernel⟩
abbrev s_with_letter : Stmt := topS 38
abbrev N_with_letter : List Str := ["series", "letter", "found", "size", "word", "number", "longer", "row"]
abbrev p_with_letter : List Str := ["series", "letter"]
theorem sc_with_letter : FnScope N_with_letter p_with_letter (defScope s_with_letter) := ⟨rfl, rfl, rfl, by decide +kernel, rfl, by decide +kernel, by decide +kernel⟩
abbrev s_with_back : Stmt := topS 39
abbrev N_with_back : List Str := ["series", "letter", "found", "size", "word", "number", "longer", "row"]
abbrev p_with_back : List Str := ["series", "letter"]
theorem sc_with_back : FnScope N_with_back p_with_back (defScope s_with_back) := ⟨rfl, rfl, rfl, by decide +kernel, rfl, by decide +kernel, by decide +kernel⟩
abbrev s_series_of_word : Stmt := topS 40
abbrev N_series_of_word : List Str := ["ground", "word", "found", "step"]
abbrev p_series_of_word : List Str := ["ground", "word"]
theorem sc_series_of_word : FnScope N_series_of_word p_series_of_word (defScope s_series_of_word) := ⟨rfl, rfl, rfl, by decide +kernel, rfl, by decide +kernel, by decide +kernel⟩
abbrev s_scattered : Stmt := topS 41
abbrev N_scattered : List Str := ["ground", "word"]
abbrev p_scattered : List Str := ["ground", "word"]
theorem sc_scattered : FnScope N_scattered p_scattered (defScope s_scattered) := ⟨rfl, rfl, rfl, by decide +kernel, rfl, by decide +kernel, by decide +kernel⟩
abbrev s_without_noughts : Stmt := topS 13
abbrev N_without_noughts : List Str := ["row", "word", "number"]
abbrev p_without_noughts : List Str := ["row"]
theorem sc_without_noughts : FnScope N_without_noughts p_without_noughts (defScope s_without_noughts) := ⟨rfl, rfl, rfl, by decide +kernel, rfl, by decide +kernel, by decide +kernel⟩
abbrev s_series_added : Stmt := topS 19
abbrev N_series_added : List Str := ["one", "other", "times", "found", "row", "more", "word", "number"]
abbrev p_series_added : List Str := ["one", "other", "times"]
theorem sc_series_added : FnScope N_series_added p_series_added (defScope s_series_added) := ⟨rfl, rfl, rfl, by decide +kernel, rfl, by decide +kernel, by decide +kernel⟩
abbrev s_chosen : Stmt := topS 9
abbrev N_chosen : List Str := ["n", "k", "found", "turn"]
abbrev p_chosen : List Str := ["n", "k"]
theorem sc_chosen : FnScope N_chosen p_chosen (defScope s_chosen) := ⟨rfl, rfl, rfl, by decide +kernel, rfl, by decide +kernel, by decide +kernel⟩
abbrev s_raised_by_powers : Stmt := topS 22
abbrev N_raised_by_powers : List Str := ["depth", "powers", "n", "found", "k", "power"]
abbrev p_raised_by_powers : List Str := ["depth", "powers", "n"]
theorem sc_raised_by_powers : FnScope N_raised_by_powers p_raised_by_powers (defScope s_raised_by_powers) := ⟨rfl, rfl, rfl, by decide +kernel, rfl, by decide +kernel, by decide +kernel⟩
abbrev s_is_bare : Stmt := topS 20
abbrev N_is_bare : List Str := ["series", "row"]
abbrev p_is_bare : List Str := ["series"]
theorem sc_is_bare : FnScope N_is_bare p_is_bare (defScope s_is_bare) := ⟨rfl, rfl, rfl, by decide +kernel, rfl, by decide +kernel, by decide +kernel⟩
abbrev s_many_words : Stmt := topS 17
abbrev N_many_words : List Str := ["series", "row"]
abbrev p_many_words : List Str := ["series"]
theorem sc_many_words : FnScope N_many_words p_many_words (defScope s_many_words) := ⟨rfl, rfl, rfl, by decide +kernel, rfl, by decide +kernel, by decide +kernel⟩
abbrev s_scaled_row : Stmt := topS 14
abbrev N_scaled_row : List Str := ["row", "times", "word", "number"]
abbrev p_scaled_row : List Str := ["row", "times"]
theorem sc_scaled_row : FnScope N_scaled_row p_scaled_row (defScope s_scaled_row) := ⟨rfl, rfl, rfl, by decide +kernel, rfl, by decide +kernel, by decide +kernel⟩
abbrev s_add_words : Stmt := topS 15
abbrev N_add_words : List Str := ["found", "words", "times", "word", "number"]
abbrev p_add_words : List Str := ["found", "words", "times"]
theorem sc_add_words : FnScope N_add_words p_add_words (defScope s_add_words) := ⟨rfl, rfl, rfl, by decide +kernel, rfl, by decide +kernel, by decide +kernel⟩
abbrev s_add_joined : Stmt := topS 16
abbrev N_add_joined : List Str := ["found", "words", "ends", "word", "number", "end", "times"]
abbrev p_add_joined : List Str := ["found", "words", "ends"]
theorem sc_add_joined : FnScope N_add_joined p_add_joined (defScope s_add_joined) := ⟨rfl, rfl, rfl, by decide +kernel, rfl, by decide +kernel, by decide +kernel⟩
abbrev s_series_joined : Stmt := topS 18
abbrev N_series_joined : List Str := ["one", "other", "first", "second", "found", "fewer", "times", "size", "ahead", "row"]
abbrev p_series_joined : List Str := ["one", "other"]
theorem sc_series_joined : FnScope N_series_joined p_series_joined (defScope s_series_joined) := ⟨rfl, rfl, rfl, by decide +kernel, rfl, by decide +kernel, by decide +kernel⟩
abbrev s_powers_of : Stmt := topS 21
abbrev N_powers_of : List Str := ["part", "found", "power"]
abbrev p_powers_of : List Str := ["part"]
theorem sc_powers_of : FnScope N_powers_of p_powers_of (defScope s_powers_of) := ⟨rfl, rfl, rfl, by decide +kernel, rfl, by decide +kernel, by decide +kernel⟩
abbrev s_part_of : Stmt := topS 23
abbrev N_part_of : List Str := ["series", "row"]
abbrev p_part_of : List Str := ["series"]
theorem sc_part_of : FnScope N_part_of p_part_of (defScope s_part_of) := ⟨rfl, rfl, rfl, by decide +kernel, rfl, by decide +kernel, by decide +kernel⟩
abbrev s_series_raised : Stmt := topS 24
abbrev N_series_raised : List Str := ["series", "n"]
abbrev p_series_raised : List Str := ["series", "n"]
theorem sc_series_raised : FnScope N_series_raised p_series_raised (defScope s_series_raised) := ⟨rfl, rfl, rfl, by decide +kernel, rfl, by decide +kernel, by decide +kernel⟩
abbrev s_series_of_sums : Stmt := topS 37
abbrev N_series_of_sums : List Str := ["ground", "sums", "found", "word", "number", "size"]
abbrev p_series_of_sums : List Str := ["ground", "sums"]
theorem sc_series_of_sums : FnScope N_series_of_sums p_series_of_sums (defScope s_series_of_sums) := ⟨rfl, rfl, rfl, by decide +kernel, rfl, by decide +kernel, by decide +kernel⟩
abbrev s_sums_repeated : Stmt := topS 42
abbrev N_sums_repeated : List Str := ["ground", "one", "n"]
abbrev p_sums_repeated : List Str := ["ground", "one", "n"]
theorem sc_sums_repeated : FnScope N_sums_repeated p_sums_repeated (defScope s_sums_repeated) := ⟨rfl, rfl, rfl, by decide +kernel, rfl, by decide +kernel, by decide +kernel⟩
abbrev s__law_number : Stmt := topS 49
abbrev N__law_number : List Str := ["_law_box_here", "_law_way", "_law_sign", "_law_found", "_law_k"]
abbrev p__law_number : List Str := ["_law_box_here"]
theorem sc__law_number : FnScope N__law_number p__law_number (defScope s__law_number) := ⟨rfl, rfl, rfl, by decide +kernel, rfl, by decide +kernel, by decide +kernel⟩
abbrev s__law_pairs : Stmt := topS 50
abbrev N__law_pairs : List Str := ["_law_box_here", "_law_words", "_law_depth", "_law_pairs_here", "_law_one", "_law_turn", "_law_some", "_law_other", "_law_word_here"]
abbrev p__law_pairs : List Str := ["_law_box_here", "_law_words", "_law_depth"]
theorem sc__law_pairs : FnScope N__law_pairs p__law_pairs (defScope s__law_pairs) := ⟨rfl, rfl, rfl, by decide +kernel, rfl, by decide +kernel, by decide +kernel⟩
abbrev s_add_longer : Stmt := topS 2
abbrev N_add_longer : List Str := ["found", "letter", "counts", "word", "times", "longer"]
abbrev p_add_longer : List Str := ["found", "letter", "counts"]
theorem sc_add_longer : FnScope N_add_longer p_add_longer (defScope s_add_longer) := ⟨rfl, rfl, rfl, by decide +kernel, rfl, by decide +kernel, by decide +kernel⟩
abbrev s_laid_counts : Stmt := topS 3
abbrev N_laid_counts : List Str := ["one", "other", "found"]
abbrev p_laid_counts : List Str := ["one", "other"]
theorem sc_laid_counts : FnScope N_laid_counts p_laid_counts (defScope s_laid_counts) := ⟨rfl, rfl, rfl, by decide +kernel, rfl, by decide +kernel, by decide +kernel⟩
abbrev s_laid_together : Stmt := topS 4
abbrev N_laid_together : List Str := ["one", "other", "counts"]
abbrev p_laid_together : List Str := ["one", "other"]
theorem sc_laid_together : FnScope N_laid_together p_laid_together (defScope s_laid_together) := ⟨rfl, rfl, rfl, by decide +kernel, rfl, by decide +kernel, by decide +kernel⟩
abbrev s_law : Stmt := topS 51
abbrev N_law : List Str := ["_law_script", "_law_cells", "_law_k", "_law_box_here", "_law_letters", "_law_depth", "_law_ground", "_law_word_here", "_law_sums", "_law_words", "_law_found", "_law_one", "_law_other", "_law_total", "_law_longer", "_law_times"]
abbrev p_law : List Str := ["_law_script"]
theorem sc_law : FnScope N_law p_law (defScope s_law) := ⟨rfl, rfl, rfl, by decide +kernel, rfl, by decide +kernel, by decide +kernel⟩
def cl_Ground : Cl := ⟨"Ground", ["letter_count", "depth_count", "turn_list", "place_by_word", "kept_powers"]⟩
def B__law_folded_1 : DTS :=
  (sAsg (dAdd (dIx (dVar 2) (dMod (dVar 3) (dVar 1))) (dMul (dVar 4) (dAdd (dVar 3) (dC (.int 2))))) (gIx (dVar 2) (dMod (dVar 3) (dVar 1))))
def T__law_folded_3 : DTS :=
  (sRet (dFrz (dVar 2)))
def T__law_folded_2 : DTS :=
  (sSeq (sFor (iEnum (aCons (dSl (dVar 0) (oSm (dVar 1)) (oSm (dC (.int 63)))) aNil)) (gTup 2 (gCons (gName 3) (gCons (gName 4) gNil)))
  (nS B__law_folded_1))
  (nS T__law_folded_3))
def T__law_folded : DTS :=
  (sSeq (sSet 2 (dCall kListM (aCons (dSl (dVar 0) oNo (oSm (dVar 1))) aNil)))
  (nS T__law_folded_2))
abbrev D__law_folded : DSp := fnD T__law_folded 2 3
def T__law_box_m_2 : DTS :=
  (sRet (dLstM (aCons (dMul (dCall kAbs (aCons (dVar 2) aNil)) (dCall kInt1 (aCons (dGe (dCall kAbs (aCons (dVar 2) aNil)) (dPow (dC (.int 10)) (dC (.int 18)))) aNil))) (aCons (dMod (dMul (dAdd (dAdd (dMod (dVar 2) (dC (.int 2147483629))) (dMul (dC (.int 15485863)) (dVar 1))) (dC (.int 37))) (dC (.int 48271))) (dC (.int 2147483647))) (aCons (dC (.int 0)) aNil)))))
def T__law_box_m : DTS :=
  (sSeq (sSet 2 (dIf (dTV (dLt (dVar 1) (dCall kLen (aCons (dVar 0) aNil)))) (dIx (dVar 0) (dVar 1)) (dC (.int 0))))
  (nS T__law_box_m_2))
abbrev D__law_box_m : DSp := fnD T__law_box_m 2 1
def T__law_take_6 : DTS :=
  (sRet (dMod (dDiv (dMod (dMul (dVar 5) (dAdd (dMod (dVar 5) (dC (.int 1013))) (dC (.int 3)))) (dC (.int 998244353))) (dC (.int 16))) (dVar 1)))
def T__law_take_5 : DTS :=
  (sSeq (sSet 5 (dMod (dAdd (dMul (dVar 4) (dAdd (dMod (dVar 4) (dC (.int 30011))) (dC (.int 5)))) (dIx (dVar 0) (dC (.int 2)))) (dC (.int 2147483563))))
  (nS T__law_take_6))
def T__law_take_4 : DTS :=
  (sSeq (sSet 4 (dMod (dMul (dAdd (dIx (dVar 0) (dC (.int 1))) (dMul (dC (.int 39373)) (dIx (dVar 0) (dC (.int 2))))) (dVar 3)) (dC (.int 2147483587))))
  (nS T__law_take_5))
def T__law_take_3 : DTS :=
  (sSeq (sSet 3 (dAdd (dC (.int 69621)) (dMul (dIx (dVar 0) (dC (.int 2))) (dIx (dVar 0) (dC (.int 2))))))
  (nS T__law_take_4))
def T__law_take_2 : DTS :=
  (sSeq (sAsg (dAdd (dIx (dVar 0) (dC (.int 2))) (dC (.int 1))) (gIx (dVar 0) (dC (.int 2))))
  (nS T__law_take_3))
def T__law_take : DTS :=
  (sSeq (sIf (dTV (dGt (dIx (dVar 0) (dC (.int 0))) (dC (.int 0)))) (sSeq (sAsg (dCall kDivmod (aCons (dIx (dVar 0) (dC (.int 0))) (aCons (dVar 1) aNil))) (gTup 2 (gCons (gIx (dVar 0) (dC (.int 0))) (gCons (gName 2) gNil))))
  (sRet (dVar 2))) sNext)
  (nS T__law_take_2))
abbrev D__law_take : DSp := fnD T__law_take 2 4
def T__law_sizes_4 : DTS :=
  (sRet (dIx (dVar 1) (dDef D__law_take (aCons (dVar 0) (aCons (dCall kLen (aCons (dVar 1) aNil)) aNil)))))
def T__law_sizes_3 : DTS :=
  (sSeq (sIf (dTV (dEq (dDef D__law_take (aCons (dVar 0) (aCons (dC (.int 3)) aNil))) (dC (.int 0)))) (sSet 1 (dC (.lst [.tup [.int 1, .int 1], .tup [.int 1, .int 2], .tup [.int 1, .int 3], .tup [.int 1, .int 4], .tup [.int 1, .int 5], .tup [.int 2, .int 1], .tup [.int 3, .int 1], .tup [.int 4, .int 1]]))) sNext)
  (nS T__law_sizes_4))
def T__law_sizes_2 : DTS :=
  (sSeq (sSet 1 (dC (.lst [.tup [.int 2, .int 2], .tup [.int 2, .int 3], .tup [.int 2, .int 4], .tup [.int 3, .int 2], .tup [.int 3, .int 3], .tup [.int 4, .int 2]])))
  (nS T__law_sizes_3))
def T__law_sizes : DTS :=
  (sSeq (sIf (dTV (dEq (dDef D__law_take (aCons (dVar 0) (aCons (dC (.int 8)) aNil))) (dC (.int 0)))) (sRet (dIx (dC (.lst [.tup [.int 2, .int 5], .tup [.int 3, .int 4], .tup [.int 4, .int 3]])) (dDef D__law_take (aCons (dVar 0) (aCons (dC (.int 3)) aNil))))) sNext)
  (nS T__law_sizes_2))
abbrev D__law_sizes : DSp := fnD T__law_sizes 1 1
def B_next_turnword_1 : DTS :=
  (sSet 3 (dSl (dVar 3) oNo (oSm (dNeg (dC (.int 1))))))
def T_next_turnword_4 : DTS :=
  (sRet (dAdd (dSl (dVar 3) oNo (oSm (dNeg (dC (.int 1))))) (dTup (aCons (dAdd (dIx (dVar 3) (dNeg (dC (.int 1)))) (dC (.int 1))) aNil))))
def T_next_turnword_3 : DTS :=
  (sSeq (sIf (dTV (dEq (dCall kLen (aCons (dVar 3) aNil)) (dC (.int 0)))) (sRet (dTup aNil)) sNext)
  (nS T_next_turnword_4))
def T_next_turnword_2 : DTS :=
  (sSeq (sWhile (tAnd (dTV (dGt (dCall kLen (aCons (dVar 3) aNil)) (dC (.int 0)))) (dTV (dEq (dIx (dVar 3) (dNeg (dC (.int 1)))) (dVar 1)))) (nS B_next_turnword_1))
  (nS T_next_turnword_3))
def T_next_turnword : DTS :=
  (sSeq (sSet 3 (dSl (dMul (dVar 0) (dVar 2)) oNo (oSm (dVar 2))))
  (nS T_next_turnword_2))
abbrev D_next_turnword : DSp := fnD T_next_turnword 3 1
def B_turnwords_1 : DTS :=
  (sSeq (sIf (dTV (dEq (dCall kLen (aCons (dVar 3) aNil)) (dVar 1))) (sExpr (dMt kAppend (dVar 2) (aCons (dVar 3) aNil))) sNext)
  (sSet 3 (dDef D_next_turnword (aCons (dVar 3) (aCons (dVar 0) (aCons (dVar 1) aNil))))))
def T_turnwords_4 : DTS :=
  (sRet (dFrz (dVar 2)))
def T_turnwords_3 : DTS :=
  (sSeq (sWhile (dTV (dGt (dCall kLen (aCons (dVar 3) aNil)) (dC (.int 0)))) (nS B_turnwords_1))
  (nS T_turnwords_4))
def T_turnwords_2 : DTS :=
  (sSeq (sSet 3 (dTup (aCons (dC (.int 1)) aNil)))
  (nS T_turnwords_3))
def T_turnwords : DTS :=
  (sSeq (sSet 2 (dLstM aNil))
  (nS T_turnwords_2))
abbrev D_turnwords : DSp := fnD T_turnwords 2 2
def B_Ground_init_1 : DTS :=
  (sExpr (dMt kExtend (dFld cl_Ground 2 (dVar 0)) (aCons (dDef D_turnwords (aCons (dVar 1) (aCons (dVar 3) aNil))) aNil)))
def B_Ground_init_2 : DTS :=
  (sPutD (dFld cl_Ground 3 (dVar 0)) (dVar 5) (dVar 4))
def T_Ground_init_8 : DTS :=
  (sPutF cl_Ground 4 (dVar 0) dNewK)
def T_Ground_init_7 : DTS :=
  (sSeq (sFor (iEnum (aCons (dFzF cl_Ground 2 (dVar 0)) aNil)) (gTup 2 (gCons (gName 4) (gCons (gName 5) gNil)))
  (nS B_Ground_init_2))
  (nS T_Ground_init_8))
def T_Ground_init_6 : DTS :=
  (sSeq (sPutF cl_Ground 3 (dVar 0) dNewT)
  (nS T_Ground_init_7))
def T_Ground_init_5 : DTS :=
  (sSeq (sFor (iRg2 (aCons (dC (.int 1)) (aCons (dAdd (dVar 2) (dC (.int 1))) aNil))) (gName 3)
  (nS B_Ground_init_1))
  (nS T_Ground_init_6))
def T_Ground_init_4 : DTS :=
  (sSeq (sPutF cl_Ground 2 (dVar 0) (dLstM aNil))
  (nS T_Ground_init_5))
def T_Ground_init_3 : DTS :=
  (sSeq (sPutF cl_Ground 1 (dVar 0) (dVar 2))
  (nS T_Ground_init_4))
def T_Ground_init_2 : DTS :=
  (sSeq (sPutF cl_Ground 0 (dVar 0) (dVar 1))
  (nS T_Ground_init_3))
def T_Ground_init : DTS :=
  (sSeq (sIf (tOr (tNot (dTV (dChain kLe kLe (dC (.int 1)) (dVar 1) (dC (.int 4))))) (tOr (tNot (dTV (dChain kLe kLe (dC (.int 1)) (dVar 2) (dC (.int 5))))) (dTV (dGt (dAdd (dVar 1) (dVar 2)) (dC (.int 7)))))) sNever sNext)
  (nS T_Ground_init_2))
abbrev D_Ground_init : DSp := fnD T_Ground_init 3 3
def C__law_word_1 : DTE :=
  (dMul (dAdd (dC (.int 1)) (dDef D__law_take (aCons (dVar 0) (aCons (dVar 1) aNil)))) (dSub (dC (.int 1)) (dMul (dC (.int 2)) (dDef D__law_take (aCons (dVar 0) (aCons (dC (.int 2)) aNil))))))
def T__law_word_2 : DTS :=
  (sRet (dCall kTuple (aCons (dLc (iRg1 (aCons (dVar 3) aNil)) (gName 4) tYes (nE C__law_word_1) [4]) aNil)))
def T__law_word : DTS :=
  (sSeq (sSet 3 (dDef D__law_take (aCons (dVar 0) (aCons (dAdd (dC (.int 1)) (dIf (dTV (dEq (dDef D__law_take (aCons (dVar 0) (aCons (dC (.int 3)) aNil))) (dC (.int 0)))) (dCall kMin (aCons (dVar 2) (aCons (dC (.int 6)) aNil))) (dVar 2))) aNil))))
  (nS T__law_word_2))
abbrev D__law_word : DSp := fnD T__law_word 3 2
def C_longer_words_1 : DTE :=
  (dAdd (dVar 3) (dTup (aCons (dVar 4) aNil)))
def B_longer_words_1 : DTS :=
  (sExpr (dMt kExtend (dVar 2) (aCons (dLc (iRg2 (aCons (dC (.int 1)) (aCons (dAdd (dVar 1) (dC (.int 1))) aNil))) (gName 4) tYes (nE C_longer_words_1) [4]) aNil)))
def T_longer_words_3 : DTS :=
  (sRet (dFrz (dVar 2)))
def T_longer_words_2 : DTS :=
  (sSeq (sFor (iSeq (dVar 0)) (gName 3)
  (nS B_longer_words_1))
  (nS T_longer_words_3))
def T_longer_words : DTS :=
  (sSeq (sSet 2 (dLstM aNil))
  (nS T_longer_words_2))
abbrev D_longer_words : DSp := fnD T_longer_words 2 3
def B_Ground_words_1 : DTS :=
  (sSeq (sExpr (dMt kExtend (dVar 1) (aCons (dVar 2) aNil)))
  (sSet 2 (dDef D_longer_words (aCons (dVar 2) (aCons (dFld cl_Ground 0 (dVar 0)) aNil)))))
def T_Ground_words_4 : DTS :=
  (sRet (dFrz (dVar 1)))
def T_Ground_words_3 : DTS :=
  (sSeq (sFor (iRg1 (aCons (dAdd (dFld cl_Ground 1 (dVar 0)) (dC (.int 1))) aNil)) (gName 3)
  (nS B_Ground_words_1))
  (nS T_Ground_words_4))
def T_Ground_words_2 : DTS :=
  (sSeq (sSet 2 (dC (.lst [.tup []])))
  (nS T_Ground_words_3))
def T_Ground_words : DTS :=
  (sSeq (sSet 1 (dLstM aNil))
  (nS T_Ground_words_2))
abbrev D_Ground_words : DSp := fnD T_Ground_words 1 3
def C_list_of_series_1 : DTE :=
  (dGet2 (dIx (dVar 1) (dCall kLen (aCons (dVar 2) aNil))) (dVar 2) (dC (.int 0)))
def T_list_of_series : DTS :=
  (sRet (dLc (iSeq (dMeth0 cl_Ground D_Ground_words (dVar 0))) (gName 2) tYes (nE C_list_of_series_1) [2]))
abbrev D_list_of_series : DSp := fnD T_list_of_series 2 1
def C_bare_series_d_1 : DTE :=
  dNewT
def T_bare_series_d : DTS :=
  (sRet (dLc (iRg1 (aCons (dAdd (dVar 0) (dC (.int 1))) aNil)) (gName 1) tYes (nE C_bare_series_d_1) [1]))
abbrev D_bare_series_d : DSp := fnD T_bare_series_d 1 1
def T_unit_series_3 : DTS :=
  (sRet (dFz 3 (dVar 1)))
def T_unit_series_2 : DTS :=
  (sSeq (sPutD (dIx (dVar 1) (dC (.int 0))) (dTup aNil) (dC (.int 1)))
  (nS T_unit_series_3))
def T_unit_series : DTS :=
  (sSeq (sSet 1 (dDef D_bare_series_d (aCons (dVar 0) aNil)))
  (nS T_unit_series_2))
abbrev D_unit_series : DSp := fnD T_unit_series 1 1
def T_Ground_depth : DTS :=
  (sRet (dFld cl_Ground 1 (dVar 0)))
abbrev D_Ground_depth : DSp := fnD T_Ground_depth 1 0
def C_with_letter_1 : DTE :=
  (dCall kCopyT (aCons (dVar 7) aNil))
def B_with_letter_1 : DTS :=
  (sSeq (sSet 6 (dAdd (dVar 4) (dTup (aCons (dVar 1) aNil))))
  (sPutD (dIx (dVar 2) (dVar 3)) (dVar 6) (dAdd (dGet2 (dIx (dVar 2) (dVar 3)) (dVar 6) (dC (.int 0))) (dVar 5))))
def B_with_letter_2 : DTS :=
  (sFor (iItemsT (dIx (dVar 0) (dSub (dVar 3) (dC (.int 1))))) (gTup 2 (gCons (gName 4) (gCons (gName 5) gNil)))
  (nS B_with_letter_1))
def T_with_letter_3 : DTS :=
  (sRet (dFz 3 (dVar 2)))
def T_with_letter_2 : DTS :=
  (sSeq (sFor (iRg2 (aCons (dC (.int 1)) (aCons (dCall kLen (aCons (dVar 0) aNil)) aNil))) (gName 3)
  (nS B_with_letter_2))
  (nS T_with_letter_3))
def T_with_letter : DTS :=
  (sSeq (sSet 2 (dLc (iSeq (dVar 0)) (gName 7) tYes (nE C_with_letter_1) [7]))
  (nS T_with_letter_2))
abbrev D_with_letter : DSp := fnD T_with_letter 2 6
def C_with_back_1 : DTE :=
  (dCall kCopyT (aCons (dVar 7) aNil))
def B_with_back_1 : DTS :=
  (sSeq (sSet 6 (dAdd (dVar 4) (dTup (aCons (dVar 1) aNil))))
  (sPutD (dIx (dVar 2) (dVar 3)) (dVar 6) (dSub (dGet2 (dIx (dVar 2) (dVar 3)) (dVar 6) (dC (.int 0))) (dVar 5))))
def B_with_back_2 : DTS :=
  (sFor (iItemsT (dFzK (dIx (dVar 2) (dSub (dVar 3) (dC (.int 1)))))) (gTup 2 (gCons (gName 4) (gCons (gName 5) gNil)))
  (nS B_with_back_1))
def T_with_back_3 : DTS :=
  (sRet (dFz 3 (dVar 2)))
def T_with_back_2 : DTS :=
  (sSeq (sFor (iRg2 (aCons (dC (.int 1)) (aCons (dCall kLen (aCons (dVar 0) aNil)) aNil))) (gName 3)
  (nS B_with_back_2))
  (nS T_with_back_3))
def T_with_back : DTS :=
  (sSeq (sSet 2 (dLc (iSeq (dVar 0)) (gName 7) tYes (nE C_with_back_1) [7]))
  (nS T_with_back_2))
abbrev D_with_back : DSp := fnD T_with_back 2 6
def B_series_of_word_1 : DTS :=
  (sIf (dTV (dGt (dVar 3) (dC (.int 0)))) (sSet 2 (dDef D_with_letter (aCons (dVar 2) (aCons (dVar 3) aNil)))) (sSet 2 (dDef D_with_back (aCons (dVar 2) (aCons (dNeg (dVar 3)) aNil)))))
def T_series_of_word_3 : DTS :=
  (sRet (dVar 2))
def T_series_of_word_2 : DTS :=
  (sSeq (sForR (dVar 1) (gName 3)
  (nS B_series_of_word_1))
  (nS T_series_of_word_3))
def T_series_of_word : DTS :=
  (sSeq (sSet 2 (dDef D_unit_series (aCons (dMeth0 cl_Ground D_Ground_depth (dVar 0)) aNil)))
  (nS T_series_of_word_2))
abbrev D_series_of_word : DSp := fnD T_series_of_word 2 2
def T_scattered : DTS :=
  (sRet (dDef D_list_of_series (aCons (dVar 0) (aCons (dDef D_series_of_word (aCons (dVar 0) (aCons (dVar 1) aNil))) aNil))))
abbrev D_scattered : DSp := fnD T_scattered 2 0
def C_series_added_1 : DTE :=
  (dCall kCopyT (aCons (dVar 4) aNil))
def B_series_added_1 : DTS :=
  (sPutD (dVar 4) (dVar 6) (dAdd (dGet2 (dVar 4) (dVar 6) (dC (.int 0))) (dMul (dVar 2) (dVar 7))))
def B_series_added_2 : DTS :=
  (sFor (iItemsT (dVar 5)) (gTup 2 (gCons (gName 6) (gCons (gName 7) gNil)))
  (nS B_series_added_1))
def C_without_noughts_1 : DTE :=
  (dTup (aCons (dVar 1) (aCons (dVar 2) aNil)))
def T_without_noughts : DTS :=
  (sRet (dFz 1 (dCall kDictPT (aCons (dLc (iItemsT (dVar 0)) (gTup 2 (gCons (gName 1) (gCons (gName 2) gNil))) (dTV (dNe (dVar 2) (dC (.int 0)))) (nE C_without_noughts_1) [1, 2]) aNil))))
abbrev D_without_noughts : DSp := fnD T_without_noughts 1 2
def C_series_added_2 : DTE :=
  (dDef D_without_noughts (aCons (dFz 1 (dVar 4)) aNil))
def T_series_added_3 : DTS :=
  (sRet (dLc (iSeq (dVar 3)) (gName 4) tYes (nE C_series_added_2) [4]))
def T_series_added_2 : DTS :=
  (sSeq (sFor (iZip (aCons (dVar 3) (aCons (dVar 1) aNil))) (gTup 2 (gCons (gName 4) (gCons (gName 5) gNil)))
  (nS B_series_added_2))
  (nS T_series_added_3))
def T_series_added : DTS :=
  (sSeq (sSet 3 (dLc (iSeq (dVar 0)) (gName 4) tYes (nE C_series_added_1) [4]))
  (nS T_series_added_2))
abbrev D_series_added : DSp := fnD T_series_added 3 5
def B_chosen_1 : DTS :=
  (sSet 2 (dDiv (dMul (dVar 2) (dSub (dVar 0) (dVar 3))) (dAdd (dVar 3) (dC (.int 1)))))
def T_chosen_3 : DTS :=
  (sRet (dVar 2))
def T_chosen_2 : DTS :=
  (sSeq (sFor (iRg1 (aCons (dVar 1) aNil)) (gName 3)
  (nS B_chosen_1))
  (nS T_chosen_3))
def T_chosen : DTS :=
  (sSeq (sSet 2 (dC (.int 1)))
  (nS T_chosen_2))
abbrev D_chosen : DSp := fnD T_chosen 2 2
def B_raised_by_powers_1 : DTS :=
  (sSet 3 (dDef D_series_added (aCons (dVar 3) (aCons (dVar 5) (aCons (dDef D_chosen (aCons (dVar 2) (aCons (dAdd (dVar 4) (dC (.int 1))) aNil))) aNil)))))
def T_raised_by_powers_3 : DTS :=
  (sRet (dVar 3))
def T_raised_by_powers_2 : DTS :=
  (sSeq (sFor (iEnum (aCons (dVar 1) aNil)) (gTup 2 (gCons (gName 4) (gCons (gName 5) gNil)))
  (nS B_raised_by_powers_1))
  (nS T_raised_by_powers_3))
def T_raised_by_powers : DTS :=
  (sSeq (sSet 3 (dDef D_unit_series (aCons (dVar 0) aNil)))
  (nS T_raised_by_powers_2))
abbrev D_raised_by_powers : DSp := fnD T_raised_by_powers 3 3
def C_is_bare_1 : DTE :=
  (dGt (dCall kLen2 (aCons (dVar 1) aNil)) (dC (.int 0)))
def T_is_bare : DTS :=
  (sRet (dNot (dCall kAny (aCons (dLc (iSeq (dVar 0)) (gName 1) tYes (nE C_is_bare_1) [1]) aNil))))
abbrev D_is_bare : DSp := fnD T_is_bare 1 1
def C_many_words_1 : DTE :=
  (dCall kLen2 (aCons (dVar 1) aNil))
def T_many_words : DTS :=
  (sRet (dCall kSum (aCons (dLc (iSeq (dVar 0)) (gName 1) tYes (nE C_many_words_1) [1]) aNil)))
abbrev D_many_words : DSp := fnD T_many_words 1 1
def C_scaled_row_m_1 : DTE :=
  (dTup (aCons (dVar 2) (aCons (dMul (dVar 3) (dVar 1)) aNil)))
def T_scaled_row_m_2 : DTS :=
  (sRet (dCall kDictPT (aCons (dLc (iItemsT (dVar 0)) (gTup 2 (gCons (gName 2) (gCons (gName 3) gNil))) tYes (nE C_scaled_row_m_1) [2, 3]) aNil)))
def T_scaled_row_m : DTS :=
  (sSeq (sIf (dTV (dEq (dVar 1) (dC (.int 1)))) (sRet (dCall kCopyT (aCons (dVar 0) aNil))) sNext)
  (nS T_scaled_row_m_2))
abbrev D_scaled_row_m : DSp := fnD T_scaled_row_m 2 2
def C_series_joined_1 : DTE :=
  (dDef D_scaled_row_m (aCons (dVar 9) (aCons (dVar 2) aNil)))
def C_series_joined_2 : DTE :=
  (dDef D_scaled_row_m (aCons (dVar 9) (aCons (dVar 3) aNil)))
def B_add_words_1 : DTS :=
  (sPutD (dVar 0) (dVar 3) (dAdd (dGet2 (dVar 0) (dVar 3) (dC (.int 0))) (dMul (dVar 4) (dVar 2))))
def T_add_words : DTS :=
  (sFor (iItemsT (dVar 1)) (gTup 2 (gCons (gName 3) (gCons (gName 4) gNil)))
  (nS B_add_words_1))
abbrev D_add_words : DSp := fnD T_add_words 3 2
def B_add_joined_1 : DTS :=
  (sPutD (dVar 0) (dAdd (dVar 3) (dVar 5)) (dAdd (dGet2 (dVar 0) (dAdd (dVar 3) (dVar 5)) (dC (.int 0))) (dMul (dVar 4) (dVar 6))))
def B_add_joined_2 : DTS :=
  (sFor (iItemsT (dVar 2)) (gTup 2 (gCons (gName 5) (gCons (gName 6) gNil)))
  (nS B_add_joined_1))
def T_add_joined : DTS :=
  (sFor (iItemsT (dVar 1)) (gTup 2 (gCons (gName 3) (gCons (gName 4) gNil)))
  (nS B_add_joined_2))
abbrev D_add_joined : DSp := fnD T_add_joined 3 4
def B_series_joined_1 : DTS :=
  (sExpr (dDef D_add_joined (aCons (dIx (dVar 4) (dVar 7)) (aCons (dIx (dVar 0) (dVar 8)) (aCons (dIx (dVar 1) (dSub (dVar 7) (dVar 8))) aNil)))))
def B_series_joined_2 : DTS :=
  (sSeq (sExpr (dDef D_add_words (aCons (dIx (dVar 4) (dVar 7)) (aCons (dIx (dVar 5) (dVar 7)) (aCons (dVar 6) aNil)))))
  (sFor (iRg2 (aCons (dC (.int 1)) (aCons (dVar 7) aNil))) (gName 8)
  (nS B_series_joined_1)))
def C_series_joined_3 : DTE :=
  (dDef D_without_noughts (aCons (dFz 1 (dVar 9)) aNil))
def T_series_joined_4 : DTS :=
  (sRet (dLc (iSeq (dVar 4)) (gName 9) tYes (nE C_series_joined_3) [9]))
def T_series_joined_3 : DTS :=
  (sSeq (sFor (iRg2 (aCons (dC (.int 1)) (aCons (dCall kLen (aCons (dVar 4) aNil)) aNil))) (gName 7)
  (nS B_series_joined_2))
  (nS T_series_joined_4))
def T_series_joined_2 : DTS :=
  (sSeq (sIf (dTV (dLt (dDef D_many_words (aCons (dVar 0) aNil)) (dDef D_many_words (aCons (dVar 1) aNil)))) (sSeq (sSet 4 (dLc (iSeq (dVar 1)) (gName 9) tYes (nE C_series_joined_1) [9]))
  (sPar 5 6 (aCons (dVar 0) (aCons (dVar 3) aNil)))) (sSeq (sSet 4 (dLc (iSeq (dVar 0)) (gName 9) tYes (nE C_series_joined_2) [9]))
  (sPar 5 6 (aCons (dVar 1) (aCons (dVar 2) aNil)))))
  (nS T_series_joined_3))
def T_series_joined : DTS :=
  (sSeq (sAsg (dTup (aCons (dGet2 (dIx (dVar 0) (dC (.int 0))) (dTup aNil) (dC (.int 0))) (aCons (dGet2 (dIx (dVar 1) (dC (.int 0))) (dTup aNil) (dC (.int 0))) aNil))) (gTup 2 (gCons (gName 2) (gCons (gName 3) gNil))))
  (nS T_series_joined_2))
abbrev D_series_joined : DSp := fnD T_series_joined 2 8
def B_powers_of_1 : DTS :=
  (sSeq (sExpr (dMt kAppend (dVar 1) (aCons (dVar 2) aNil)))
  (sSet 2 (dDef D_series_joined (aCons (dVar 2) (aCons (dVar 0) aNil)))))
def T_powers_of_4 : DTS :=
  (sRet (dFrz (dVar 1)))
def T_powers_of_3 : DTS :=
  (sSeq (sWhile (tNot (dTV (dDef D_is_bare (aCons (dVar 2) aNil)))) (nS B_powers_of_1))
  (nS T_powers_of_4))
def T_powers_of_2 : DTS :=
  (sSeq (sSet 2 (dVar 0))
  (nS T_powers_of_3))
def T_powers_of : DTS :=
  (sSeq (sSet 1 (dLstM aNil))
  (nS T_powers_of_2))
abbrev D_powers_of : DSp := fnD T_powers_of 1 2
def C_part_of_1 : DTE :=
  (dFz 1 (dCall kCopyT (aCons (dVar 1) aNil)))
def T_part_of : DTS :=
  (sRet (dAdd (dLst (aCons (dFz 1 dNewT) aNil)) (dLc (iSeq (dSl (dVar 0) (oSm (dC (.int 1))) oNo)) (gName 1) tYes (nE C_part_of_1) [1])))
abbrev D_part_of : DSp := fnD T_part_of 1 1
def T_series_raised : DTS :=
  (sRet (dDef D_raised_by_powers (aCons (dSub (dCall kLen (aCons (dVar 0) aNil)) (dC (.int 1))) (aCons (dDef D_powers_of (aCons (dDef D_part_of (aCons (dVar 0) aNil)) aNil)) (aCons (dVar 1) aNil)))))
abbrev D_series_raised : DSp := fnD T_series_raised 2 0
def C_series_of_sums_1 : DTE :=
  dNewT
def B_series_of_sums_1 : DTS :=
  (sIf (dTV (dNe (dVar 4) (dC (.int 0)))) (sPutD (dIx (dVar 2) (dCall kLen (aCons (dVar 3) aNil))) (dVar 3) (dVar 4)) sNext)
def T_series_of_sums_3 : DTS :=
  (sRet (dFz 3 (dVar 2)))
def T_series_of_sums_2 : DTS :=
  (sSeq (sForRZ (aCons (dMeth0 cl_Ground D_Ground_words (dVar 0)) (aCons (dVar 1) aNil)) (gTup 2 (gCons (gName 3) (gCons (gName 4) gNil)))
  (nS B_series_of_sums_1))
  (nS T_series_of_sums_3))
def T_series_of_sums : DTS :=
  (sSeq (sSet 2 (dLc (iRg1 (aCons (dAdd (dMeth0 cl_Ground D_Ground_depth (dVar 0)) (dC (.int 1))) aNil)) (gName 5) tYes (nE C_series_of_sums_1) [5]))
  (nS T_series_of_sums_2))
abbrev D_series_of_sums : DSp := fnD T_series_of_sums 2 4
def T_sums_repeated : DTS :=
  (sRet (dDef D_list_of_series (aCons (dVar 0) (aCons (dDef D_series_raised (aCons (dDef D_series_of_sums (aCons (dVar 0) (aCons (dVar 1) aNil))) (aCons (dVar 2) aNil))) aNil))))
abbrev D_sums_repeated : DSp := fnD T_sums_repeated 3 0
def B__law_number_1 : DTS :=
  (sSet 3 (dAdd (dMul (dVar 3) (dPow (dC (.int 10)) (dC (.int 9)))) (dDef D__law_take (aCons (dVar 0) (aCons (dPow (dC (.int 10)) (dC (.int 9))) aNil)))))
def T__law_number_5 : DTS :=
  (sRet (dMul (dMod (dVar 3) (dSub (dPow (dC (.int 10)) (dC (.int 60))) (dC (.int 9)))) (dVar 2)))
def T__law_number_4 : DTS :=
  (sSeq (sFor (iRg1 (aCons (dC (.int 7)) aNil)) (gName 4)
  (nS B__law_number_1))
  (nS T__law_number_5))
def T__law_number_3 : DTS :=
  (sSeq (sIf (dTV (dLt (dVar 1) (dC (.int 5)))) (sRet (dMul (dDef D__law_take (aCons (dVar 0) (aCons (dIx (dLst (aCons (dC (.int 10)) (aCons (dC (.int 10)) (aCons (dPow (dC (.int 10)) (dC (.int 6))) aNil)))) (dSub (dVar 1) (dC (.int 2)))) aNil))) (dVar 2))) sNext)
  (nS T__law_number_4))
def T__law_number_2 : DTS :=
  (sSeq (sIf (dTV (dLt (dVar 1) (dC (.int 2)))) (sRet (dMul (dVar 1) (dVar 2))) sNext)
  (nS T__law_number_3))
def T__law_number : DTS :=
  (sSeq (sPar3 1 2 3 (aCons (dDef D__law_take (aCons (dVar 0) (aCons (dC (.int 6)) aNil))) (aCons (dSub (dC (.int 1)) (dMul (dC (.int 2)) (dDef D__law_take (aCons (dVar 0) (aCons (dC (.int 2)) aNil))))) (aCons (dC (.int 0)) aNil))))
  (nS T__law_number_2))
abbrev D__law_number : DSp := fnD T__law_number 1 4
def C__law_pairs_1 : DTE :=
  (dTup (aCons (dVar 4) (aCons (dVar 7) aNil)))
def B__law_pairs_1 : DTS :=
  (sSet 3 (dAddM (dFzL (dVar 3)) (dLc (iSeq (dVar 1)) (gName 7) (dTV (dLe (dAdd (dCall kLen (aCons (dVar 4) aNil)) (dCall kLen (aCons (dVar 7) aNil))) (dVar 2))) (nE C__law_pairs_1) [7])))
def C__law_pairs_2 : DTE :=
  (dVar 8)
def B__law_pairs_2 : DTS :=
  (sSeq (sSet 4 (dIx (dVar 1) (dDef D__law_take (aCons (dVar 0) (aCons (dCall kLen (aCons (dVar 1) aNil)) aNil)))))
  (sSeq (sSet 6 (dLc (iSeq (dVar 1)) (gName 8) (dTV (dLe (dAdd (dCall kLen (aCons (dVar 4) aNil)) (dCall kLen (aCons (dVar 8) aNil))) (dVar 2))) (nE C__law_pairs_2) [8]))
  (sExpr (dMt kAppend (dVar 3) (aCons (dTup (aCons (dVar 4) (aCons (dIx (dVar 6) (dDef D__law_take (aCons (dVar 0) (aCons (dCall kLen (aCons (dVar 6) aNil)) aNil)))) aNil))) aNil)))))
def T__law_pairs_4 : DTS :=
  (sRet (dFrz (dVar 3)))
def T__law_pairs_3 : DTS :=
  (sSeq (sFor (iRg1 (aCons (dC (.int 30)) aNil)) (gName 5)
  (nS B__law_pairs_2))
  (nS T__law_pairs_4))
def T__law_pairs_2 : DTS :=
  (sSeq (sSet 3 (dLstM aNil))
  (nS T__law_pairs_3))
def T__law_pairs : DTS :=
  (sSeq (sIf (dTV (dLt (dCall kLen (aCons (dVar 1) aNil)) (dC (.int 16)))) (sSeq (sSet 3 (dLstM aNil))
  (sSeq (sFor (iSeq (dVar 1)) (gName 4)
  (nS B__law_pairs_1))
  (sRet (dFrz (dVar 3))))) sNext)
  (nS T__law_pairs_2))
abbrev D__law_pairs : DSp := fnD T__law_pairs 3 6
def B_add_longer_1 : DTS :=
  (sSeq (sSet 5 (dAdd (dTup (aCons (dVar 1) aNil)) (dVar 3)))
  (sPutD (dVar 0) (dVar 5) (dAdd (dGet2 (dVar 0) (dVar 5) (dC (.int 0))) (dVar 4))))
def T_add_longer : DTS :=
  (sFor (iItemsT (dVar 2)) (gTup 2 (gCons (gName 3) (gCons (gName 4) gNil)))
  (nS B_add_longer_1))
abbrev D_add_longer : DSp := fnD T_add_longer 3 3
def T_laid_counts_7 (D_laid_counts_n : DSp) : DTS :=
  (sRet (dFz 1 (dVar 2)))
def T_laid_counts_6 (D_laid_counts_n : DSp) : DTS :=
  (sSeq (sIf (dTV (dEq (dIx (dVar 0) (dC (.int 0))) (dIx (dVar 1) (dC (.int 0))))) (sExpr (dDef D_add_longer (aCons (dVar 2) (aCons (dIx (dVar 0) (dC (.int 0))) (aCons (dDef D_laid_counts_n (aCons (dSl (dVar 0) (oSm (dC (.int 1))) oNo) (aCons (dSl (dVar 1) (oSm (dC (.int 1))) oNo) aNil))) aNil))))) sNext)
  (nS (T_laid_counts_7 D_laid_counts_n)))
def T_laid_counts_5 (D_laid_counts_n : DSp) : DTS :=
  (sSeq (sExpr (dDef D_add_longer (aCons (dVar 2) (aCons (dIx (dVar 1) (dC (.int 0))) (aCons (dDef D_laid_counts_n (aCons (dVar 0) (aCons (dSl (dVar 1) (oSm (dC (.int 1))) oNo) aNil))) aNil)))))
  (nS (T_laid_counts_6 D_laid_counts_n)))
def T_laid_counts_4 (D_laid_counts_n : DSp) : DTS :=
  (sSeq (sExpr (dDef D_add_longer (aCons (dVar 2) (aCons (dIx (dVar 0) (dC (.int 0))) (aCons (dDef D_laid_counts_n (aCons (dSl (dVar 0) (oSm (dC (.int 1))) oNo) (aCons (dVar 1) aNil))) aNil)))))
  (nS (T_laid_counts_5 D_laid_counts_n)))
def T_laid_counts_3 (D_laid_counts_n : DSp) : DTS :=
  (sSeq (sSet 2 dNewT)
  (nS (T_laid_counts_4 D_laid_counts_n)))
def T_laid_counts_2 (D_laid_counts_n : DSp) : DTS :=
  (sSeq (sIf (dTV (dEq (dCall kLen (aCons (dVar 1) aNil)) (dC (.int 0)))) (sRet (dFz 1 (dDispT (dVar 0) (dC (.int 1))))) sNext)
  (nS (T_laid_counts_3 D_laid_counts_n)))
def T_laid_counts (D_laid_counts_n : DSp) : DTS :=
  (sSeq (sIf (dTV (dEq (dCall kLen (aCons (dVar 0) aNil)) (dC (.int 0)))) (sRet (dFz 1 (dDispT (dVar 1) (dC (.int 1))))) sNext)
  (nS (T_laid_counts_2 D_laid_counts_n)))
def D_laid_counts : Nat → DSp
  | 0 => fun _ _ _ => False
  | n + 1 => fnD (T_laid_counts (D_laid_counts n)) 2 1
def T_laid_together_2 : DTS :=
  (sRet (dSortLam (dVar 2)))
def T_laid_together : DTS :=
  (sSeq (sSet 2 (dDef (D_laid_counts 12) (aCons (dCall kTuple (aCons (dVar 0) aNil)) (aCons (dCall kTuple (aCons (dVar 1) aNil)) aNil))))
  (nS T_laid_together_2))
abbrev D_laid_together : DSp := fnD T_laid_together 2 1
def C_law_1 : DTE :=
  (dMul (dVar 15) (dGetD (dVar 10) (dVar 14)))
def B_law_1 : DTS :=
  (sSeq (sSet 13 (dCall kSum (aCons (dLc (iSeq (dDef D_laid_together (aCons (dVar 11) (aCons (dVar 12) aNil)))) (gTup 2 (gCons (gName 14) (gCons (gName 15) gNil))) tYes (nE C_law_1) [14, 15]) aNil)))
  (sIf (dTV (dNe (dMul (dGetD (dVar 10) (dVar 11)) (dGetD (dVar 10) (dVar 12))) (dVar 13))) (sRet (dC (.bl false))) sNext))
def B_law_2 : DTS :=
  (sSeq (sSet 3 (dDef D__law_box_m (aCons (dVar 1) (aCons (dVar 2) aNil))))
  (sSeq (sAsg (dDef D__law_sizes (aCons (dVar 3) aNil)) (gTup 2 (gCons (gName 4) (gCons (gName 5) gNil))))
  (sSeq (sPar 6 7 (aCons (dMake cl_Ground D_Ground_init (aCons (dVar 4) (aCons (dVar 5) aNil))) (aCons (dDef D__law_word (aCons (dVar 3) (aCons (dVar 4) (aCons (dC (.int 60)) aNil)))) aNil)))
  (sSeq (sPar 8 9 (aCons (dDef D_scattered (aCons (dVar 6) (aCons (dVar 7) aNil))) (aCons (dMeth0 cl_Ground D_Ground_words (dVar 6)) aNil)))
  (sSeq (sIf (dTV (dEq (dDef D__law_take (aCons (dVar 3) (aCons (dC (.int 2)) aNil))) (dC (.int 0)))) (sSet 8 (dDef D_sums_repeated (aCons (dVar 6) (aCons (dVar 8) (aCons (dDef D__law_number (aCons (dVar 3) aNil)) aNil))))) sNext)
  (sSeq (sIf (dTV (dNe (dCall kLen (aCons (dVar 8) aNil)) (dCall kLen (aCons (dVar 9) aNil)))) (sRet (dC (.bl false))) sNext)
  (sSeq (sSet 10 (dFz 1 (dCall kDictPT (aCons (dLZip (aCons (dVar 9) (aCons (dVar 8) aNil))) aNil))))
  (sFor (iSeq (dDef D__law_pairs (aCons (dVar 3) (aCons (dVar 9) (aCons (dVar 5) aNil))))) (gTup 2 (gCons (gName 11) (gCons (gName 12) gNil)))
  (nS B_law_1)))))))))
def T_law_3 : DTS :=
  (sRet (dC (.bl true)))
def T_law_2 : DTS :=
  (sSeq (sFor (iRg1 (aCons (dCall kMax (aCons (dC (.int 1)) (aCons (dCall kLen (aCons (dVar 1) aNil)) aNil))) aNil)) (gName 2)
  (nS B_law_2))
  (nS T_law_3))
def T_law : DTS :=
  (sSeq (sSet 1 (dDef D__law_folded (aCons (dVar 0) (aCons (dC (.int 4)) aNil))))
  (nS T_law_2))
abbrev D_law : DSp := fnD T_law 1 15
structure Facts (K : PySem.W.Frag) (mg : Str → Option Value) where
  C_Ground : Addr
  n_Ground : PySem.W.nsIn K mainGlobals "Ground" = some (some (.ref C_Ground))
  k_Ground : Cls K C_Ground
  gc_Ground : mg "Ground" = some (.ref C_Ground)
  na_Ground_letter_count : NoAttr K C_Ground "letter_count"
  na_Ground_depth_count : NoAttr K C_Ground "depth_count"
  na_Ground_turn_list : NoAttr K C_Ground "turn_list"
  na_Ground_place_by_word : NoAttr K C_Ground "place_by_word"
  na_Ground_kept_powers : NoAttr K C_Ground "kept_powers"
  f__law_folded : Addr
  fd__law_folded : FuncData
  F__law_folded : Fun K "_law_folded" "_law_folded" s__law_folded f__law_folded fd__law_folded
  b__law_folded : Binds K fd__law_folded p__law_folded []
  g__law_folded : mg "_law_folded" = some (.ref f__law_folded)
  f__law_box : Addr
  fd__law_box : FuncData
  F__law_box : Fun K "_law_box" "_law_box" s__law_box f__law_box fd__law_box
  b__law_box : Binds K fd__law_box p__law_box []
  g__law_box : mg "_law_box" = some (.ref f__law_box)
  f__law_take : Addr
  fd__law_take : FuncData
  F__law_take : Fun K "_law_take" "_law_take" s__law_take f__law_take fd__law_take
  b__law_take : Binds K fd__law_take p__law_take []
  g__law_take : mg "_law_take" = some (.ref f__law_take)
  f__law_sizes : Addr
  fd__law_sizes : FuncData
  F__law_sizes : Fun K "_law_sizes" "_law_sizes" s__law_sizes f__law_sizes fd__law_sizes
  b__law_sizes : Binds K fd__law_sizes p__law_sizes []
  g__law_sizes : mg "_law_sizes" = some (.ref f__law_sizes)
  f_next_turnword : Addr
  fd_next_turnword : FuncData
  F_next_turnword : Fun K "next_turnword" "next_turnword" s_next_turnword f_next_turnword fd_next_turnword
  b_next_turnword : Binds K fd_next_turnword p_next_turnword []
  g_next_turnword : mg "next_turnword" = some (.ref f_next_turnword)
  f_turnwords : Addr
  fd_turnwords : FuncData
  F_turnwords : Fun K "turnwords" "turnwords" s_turnwords f_turnwords fd_turnwords
  b_turnwords : Binds K fd_turnwords p_turnwords []
  g_turnwords : mg "turnwords" = some (.ref f_turnwords)
  f_Ground_init : Addr
  fd_Ground_init : FuncData
  F_Ground_init : Fun K "__init__" "Ground.__init__" s_Ground_init f_Ground_init fd_Ground_init
  b_Ground_init : Binds K fd_Ground_init p_Ground_init []
  mk_Ground : Mk K C_Ground f_Ground_init
  f__law_word : Addr
  fd__law_word : FuncData
  F__law_word : Fun K "_law_word" "_law_word" s__law_word f__law_word fd__law_word
  b__law_word : Binds K fd__law_word p__law_word []
  g__law_word : mg "_law_word" = some (.ref f__law_word)
  f_longer_words : Addr
  fd_longer_words : FuncData
  F_longer_words : Fun K "longer_words" "longer_words" s_longer_words f_longer_words fd_longer_words
  b_longer_words : Binds K fd_longer_words p_longer_words []
  g_longer_words : mg "longer_words" = some (.ref f_longer_words)
  f_Ground_words : Addr
  fd_Ground_words : FuncData
  F_Ground_words : Fun K "words" "Ground.words" s_Ground_words f_Ground_words fd_Ground_words
  b_Ground_words : Binds K fd_Ground_words p_Ground_words []
  m_Ground_words : Meth K C_Ground "words" f_Ground_words
  f_list_of_series : Addr
  fd_list_of_series : FuncData
  F_list_of_series : Fun K "list_of_series" "list_of_series" s_list_of_series f_list_of_series fd_list_of_series
  b_list_of_series : Binds K fd_list_of_series p_list_of_series []
  g_list_of_series : mg "list_of_series" = some (.ref f_list_of_series)
  f_bare_series : Addr
  fd_bare_series : FuncData
  F_bare_series : Fun K "bare_series" "bare_series" s_bare_series f_bare_series fd_bare_series
  b_bare_series : Binds K fd_bare_series p_bare_series []
  g_bare_series : mg "bare_series" = some (.ref f_bare_series)
  f_unit_series : Addr
  fd_unit_series : FuncData
  F_unit_series : Fun K "unit_series" "unit_series" s_unit_series f_unit_series fd_unit_series
  b_unit_series : Binds K fd_unit_series p_unit_series []
  g_unit_series : mg "unit_series" = some (.ref f_unit_series)
  f_Ground_depth : Addr
  fd_Ground_depth : FuncData
  F_Ground_depth : Fun K "depth" "Ground.depth" s_Ground_depth f_Ground_depth fd_Ground_depth
  b_Ground_depth : Binds K fd_Ground_depth p_Ground_depth []
  m_Ground_depth : Meth K C_Ground "depth" f_Ground_depth
  f_with_letter : Addr
  fd_with_letter : FuncData
  F_with_letter : Fun K "with_letter" "with_letter" s_with_letter f_with_letter fd_with_letter
  b_with_letter : Binds K fd_with_letter p_with_letter []
  g_with_letter : mg "with_letter" = some (.ref f_with_letter)
  f_with_back : Addr
  fd_with_back : FuncData
  F_with_back : Fun K "with_back" "with_back" s_with_back f_with_back fd_with_back
  b_with_back : Binds K fd_with_back p_with_back []
  g_with_back : mg "with_back" = some (.ref f_with_back)
  f_series_of_word : Addr
  fd_series_of_word : FuncData
  F_series_of_word : Fun K "series_of_word" "series_of_word" s_series_of_word f_series_of_word fd_series_of_word
  b_series_of_word : Binds K fd_series_of_word p_series_of_word []
  g_series_of_word : mg "series_of_word" = some (.ref f_series_of_word)
  f_scattered : Addr
  fd_scattered : FuncData
  F_scattered : Fun K "scattered" "scattered" s_scattered f_scattered fd_scattered
  b_scattered : Binds K fd_scattered p_scattered []
  g_scattered : mg "scattered" = some (.ref f_scattered)
  f_without_noughts : Addr
  fd_without_noughts : FuncData
  F_without_noughts : Fun K "without_noughts" "without_noughts" s_without_noughts f_without_noughts fd_without_noughts
  b_without_noughts : Binds K fd_without_noughts p_without_noughts []
  g_without_noughts : mg "without_noughts" = some (.ref f_without_noughts)
  f_series_added : Addr
  fd_series_added : FuncData
  F_series_added : Fun K "series_added" "series_added" s_series_added f_series_added fd_series_added
  b_series_added : Binds K fd_series_added p_series_added []
  g_series_added : mg "series_added" = some (.ref f_series_added)
  f_chosen : Addr
  fd_chosen : FuncData
  F_chosen : Fun K "chosen" "chosen" s_chosen f_chosen fd_chosen
  b_chosen : Binds K fd_chosen p_chosen []
  g_chosen : mg "chosen" = some (.ref f_chosen)
  f_raised_by_powers : Addr
  fd_raised_by_powers : FuncData
  F_raised_by_powers : Fun K "raised_by_powers" "raised_by_powers" s_raised_by_powers f_raised_by_powers fd_raised_by_powers
  b_raised_by_powers : Binds K fd_raised_by_powers p_raised_by_powers []
  g_raised_by_powers : mg "raised_by_powers" = some (.ref f_raised_by_powers)
  f_is_bare : Addr
  fd_is_bare : FuncData
  F_is_bare : Fun K "is_bare" "is_bare" s_is_bare f_is_bare fd_is_bare
  b_is_bare : Binds K fd_is_bare p_is_bare []
  g_is_bare : mg "is_bare" = some (.ref f_is_bare)
  f_many_words : Addr
  fd_many_words : FuncData
  F_many_words : Fun K "many_words" "many_words" s_many_words f_many_words fd_many_words
  b_many_words : Binds K fd_many_words p_many_words []
  g_many_words : mg "many_words" = some (.ref f_many_words)
  f_scaled_row : Addr
  fd_scaled_row : FuncData
  F_scaled_row : Fun K "scaled_row" "scaled_row" s_scaled_row f_scaled_row fd_scaled_row
  b_scaled_row : Binds K fd_scaled_row p_scaled_row []
  g_scaled_row : mg "scaled_row" = some (.ref f_scaled_row)
  f_add_words : Addr
  fd_add_words : FuncData
  F_add_words : Fun K "add_words" "add_words" s_add_words f_add_words fd_add_words
  b_add_words : Binds K fd_add_words p_add_words []
  g_add_words : mg "add_words" = some (.ref f_add_words)
  f_add_joined : Addr
  fd_add_joined : FuncData
  F_add_joined : Fun K "add_joined" "add_joined" s_add_joined f_add_joined fd_add_joined
  b_add_joined : Binds K fd_add_joined p_add_joined []
  g_add_joined : mg "add_joined" = some (.ref f_add_joined)
  f_series_joined : Addr
  fd_series_joined : FuncData
  F_series_joined : Fun K "series_joined" "series_joined" s_series_joined f_series_joined fd_series_joined
  b_series_joined : Binds K fd_series_joined p_series_joined []
  g_series_joined : mg "series_joined" = some (.ref f_series_joined)
  f_powers_of : Addr
  fd_powers_of : FuncData
  F_powers_of : Fun K "powers_of" "powers_of" s_powers_of f_powers_of fd_powers_of
  b_powers_of : Binds K fd_powers_of p_powers_of []
  g_powers_of : mg "powers_of" = some (.ref f_powers_of)
  f_part_of : Addr
  fd_part_of : FuncData
  F_part_of : Fun K "part_of" "part_of" s_part_of f_part_of fd_part_of
  b_part_of : Binds K fd_part_of p_part_of []
  g_part_of : mg "part_of" = some (.ref f_part_of)
  f_series_raised : Addr
  fd_series_raised : FuncData
  F_series_raised : Fun K "series_raised" "series_raised" s_series_raised f_series_raised fd_series_raised
  b_series_raised : Binds K fd_series_raised p_series_raised []
  g_series_raised : mg "series_raised" = some (.ref f_series_raised)
  f_series_of_sums : Addr
  fd_series_of_sums : FuncData
  F_series_of_sums : Fun K "series_of_sums" "series_of_sums" s_series_of_sums f_series_of_sums fd_series_of_sums
  b_series_of_sums : Binds K fd_series_of_sums p_series_of_sums []
  g_series_of_sums : mg "series_of_sums" = some (.ref f_series_of_sums)
  f_sums_repeated : Addr
  fd_sums_repeated : FuncData
  F_sums_repeated : Fun K "sums_repeated" "sums_repeated" s_sums_repeated f_sums_repeated fd_sums_repeated
  b_sums_repeated : Binds K fd_sums_repeated p_sums_repeated []
  g_sums_repeated : mg "sums_repeated" = some (.ref f_sums_repeated)
  f__law_number : Addr
  fd__law_number : FuncData
  F__law_number : Fun K "_law_number" "_law_number" s__law_number f__law_number fd__law_number
  b__law_number : Binds K fd__law_number p__law_number []
  g__law_number : mg "_law_number" = some (.ref f__law_number)
  f__law_pairs : Addr
  fd__law_pairs : FuncData
  F__law_pairs : Fun K "_law_pairs" "_law_pairs" s__law_pairs f__law_pairs fd__law_pairs
  b__law_pairs : Binds K fd__law_pairs p__law_pairs []
  g__law_pairs : mg "_law_pairs" = some (.ref f__law_pairs)
  f_add_longer : Addr
  fd_add_longer : FuncData
  F_add_longer : Fun K "add_longer" "add_longer" s_add_longer f_add_longer fd_add_longer
  b_add_longer : Binds K fd_add_longer p_add_longer []
  g_add_longer : mg "add_longer" = some (.ref f_add_longer)
  f_laid_counts : Addr
  fd_laid_counts : FuncData
  F_laid_counts : Fun K "laid_counts" "laid_counts" s_laid_counts f_laid_counts fd_laid_counts
  b_laid_counts : Binds K fd_laid_counts p_laid_counts []
  g_laid_counts : mg "laid_counts" = some (.ref f_laid_counts)
  f_laid_together : Addr
  fd_laid_together : FuncData
  F_laid_together : Fun K "laid_together" "laid_together" s_laid_together f_laid_together fd_laid_together
  b_laid_together : Binds K fd_laid_together p_laid_together []
  g_laid_together : mg "laid_together" = some (.ref f_laid_together)
  f_law : Addr
  fd_law : FuncData
  F_law : Fun K "law" "law" s_law f_law fd_law
  b_law : Binds K fd_law p_law []
  g_law : mg "law" = some (.ref f_law)
  lc : Addr
  lP : Addr
  ltab : PySem.W.tabIn K lamMaker = some (lc, lP)
  lnn : PySem.W.nsIn K mainGlobals lamMaker = some (some (.ref f_laid_together))
  g_turnwords_turning : mg "turnwords_turning" = some (.ref f_turnwords)
  t_MOST_BOTH : Tok
  v_MOST_BOTH : mg "MOST_BOTH" = some (.int 7 t_MOST_BOTH)
  t_MOST_DEPTH : Tok
  v_MOST_DEPTH : mg "MOST_DEPTH" = some (.int 5 t_MOST_DEPTH)
  t_MOST_LETTERS : Tok
  v_MOST_LETTERS : mg "MOST_LETTERS" = some (.int 4 t_MOST_LETTERS)
  m_abs : mg "abs" = none
  m_any : mg "any" = none
  m_dict : mg "dict" = none
  m_divmod : mg "divmod" = none
  m_enumerate : mg "enumerate" = none
  m_int : mg "int" = none
  m_len : mg "len" = none
  m_list : mg "list" = none
  m_max : mg "max" = none
  m_min : mg "min" = none
  m_range : mg "range" = none
  m_sorted : mg "sorted" = none
  m_sum : mg "sum" = none
  m_tuple : mg "tuple" = none
  m_zip : mg "zip" = none
section
variable {P : Program} {w : World} {K : PySem.W.Frag} {mg : Str → Option Value} {base : Heap} [HasTB K mg base]
theorem ok__law_folded (T : Facts K mg) : FnG P w K mg base 1 T.f__law_folded T.fd__law_folded p__law_folded D__law_folded := by
  refine fn_ok T.F__law_folded sc__law_folded rfl fun cdv A outer s H E hr hgd => ?_
  refine dss_cons ?_ ?_
  · exact (ds_set (i := 2) sc__law_folded.nd rfl (.inl rfl) (de_callT call_list_of kListM_ok (by rfl) T.m_list (by decide +kernel) (da_cons (de_sl (de_var 0) dp_no (dp_sm (de_var 1))) da_nil)))
  refine dss_nS ?_
  refine dss_cons ?_ ?_
  · exact (ds_for (vs := [3, 4]) PassesOwn.never rfl (di_enum (by rfl) T.m_enumerate (da_cons (de_sl (de_var 0) (dp_sm (de_var 1)) (dp_sm de_int)) da_nil)) (dg_tup rfl (dgs_cons (dg_name (i := 3) sc__law_folded.nd rfl (.inl rfl) (by decide)) (dgs_cons (dg_name (i := 4) sc__law_folded.nd rfl (.inl rfl) (by decide)) dgs_nil)))
      (dss_nS (dss_one (ds_asg (vs := []) (de_add (de_ix (de_var 2) (de_mod (de_var 3) (de_var 1))) (de_mul (de_var 4) (de_add (de_var 3) de_int))) (dg_sub set_list kSetL_ok (de_var 2) (de_mod (de_var 3) (de_var 1)))))))
  refine dss_nS ?_
  refine dss_one ?_
  exact (ds_ret (de_frz (de_var 2)))
theorem ok__law_box_m (T : Facts K mg) : FnG P w K mg base 1 T.f__law_box T.fd__law_box p__law_box D__law_box_m := by
  refine fn_ok T.F__law_box sc__law_box rfl fun cdv A outer s H E hr hgd => ?_
  refine dss_cons ?_ ?_
  · exact (ds_set (i := 2) sc__law_box.nd rfl (.inl rfl) (de_if (dt_lt hr.units0 (de_var 1) (de_len (by rfl) T.m_len (de_var 0))) (de_ix (de_var 0) (de_var 1)) de_int))
  refine dss_nS ?_
  refine dss_one ?_
  exact (ds_ret (de_lstM (da_cons (de_mul (de_callB call_abs kAbs_ok (by rfl) T.m_abs (by decide +kernel) (da_cons (de_var 2) da_nil)) (de_callT call_int1 kInt1_ok (by rfl) T.m_int (by decide +kernel) (da_cons (de_ge (de_callB call_abs kAbs_ok (by rfl) T.m_abs (by decide +kernel) (da_cons (de_var 2) da_nil)) (de_pow de_int de_int)) da_nil))) (da_cons (de_mod (de_mul (de_add (de_add (de_mod (de_var 2) de_int) (de_mul de_int (de_var 1))) de_int) de_int) de_int) (da_cons de_int da_nil)))))
theorem ok__law_take (T : Facts K mg) : FnG P w K mg base 1 T.f__law_take T.fd__law_take p__law_take D__law_take := by
  refine fn_ok T.F__law_take sc__law_take rfl fun cdv A outer s H E hr hgd => ?_
  refine dss_cons ?_ ?_
  · exact (ds_if (dt_gt (de_ix (de_var 0) de_int) de_int) (dss_cons (ds_asg (vs := [2]) (de_callB call_divmod kDivmod_ok (by rfl) T.m_divmod (by decide +kernel) (da_cons (de_ix (de_var 0) de_int) (da_cons (de_var 1) da_nil))) (dg_tup rfl (dgs_cons (dg_sub set_list kSetL_ok (de_var 0) de_int) (dgs_cons (dg_name (i := 2) sc__law_take.nd rfl (.inl rfl) (by decide)) dgs_nil))))
      (dss_one (ds_ret (de_var 2)))) dss_nil)
  refine dss_nS ?_
  refine dss_cons ?_ ?_
  · exact (ds_asg (vs := []) (de_add (de_ix (de_var 0) de_int) de_int) (dg_sub set_list kSetL_ok (de_var 0) de_int))
  refine dss_nS ?_
  refine dss_cons ?_ ?_
  · exact (ds_set (i := 3) sc__law_take.nd rfl (.inl rfl) (de_add de_int (de_mul (de_ix (de_var 0) de_int) (de_ix (de_var 0) de_int))))
  refine dss_nS ?_
  refine dss_cons ?_ ?_
  · exact (ds_set (i := 4) sc__law_take.nd rfl (.inl rfl) (de_mod (de_mul (de_add (de_ix (de_var 0) de_int) (de_mul de_int (de_ix (de_var 0) de_int))) (de_var 3)) de_int))
  refine dss_nS ?_
  refine dss_cons ?_ ?_
  · exact (ds_set (i := 5) sc__law_take.nd rfl (.inl rfl) (de_mod (de_add (de_mul (de_var 4) (de_add (de_mod (de_var 4) de_int) de_int)) (de_ix (de_var 0) de_int)) de_int))
  refine dss_nS ?_
  refine dss_one ?_
  exact (ds_ret (de_mod (de_div (de_mod (de_mul (de_var 5) (de_add (de_mod (de_var 5) de_int) de_int)) de_int) de_int) (de_var 1)))
theorem ok__law_sizes (T : Facts K mg) : FnG P w K mg base 2 T.f__law_sizes T.fd__law_sizes p__law_sizes D__law_sizes := by
  refine fn_ok T.F__law_sizes sc__law_sizes rfl fun cdv A outer s H E hr hgd => ?_
  refine dss_cons ?_ ?_
  · exact (ds_if (dt_eq hr.units (de_call (ok__law_take (base := base) T) (hr.mono (by decide)) hgd (by rfl) T.g__law_take T.F__law_take.kp T.b__law_take (da_cons (de_var 0) (da_cons de_int da_nil))) de_int) (dss_one (ds_ret (de_ix (de_lit (d := .lst [.tup [.int 2, .int 5], .tup [.int 3, .int 4], .tup [.int 4, .int 3]]) 4 (by decide +kernel)) (de_call (ok__law_take (base := base) T) (hr.mono (by decide)) hgd (by rfl) T.g__law_take T.F__law_take.kp T.b__law_take (da_cons (de_var 0) (da_cons de_int da_nil)))))) dss_nil)
  refine dss_nS ?_
  refine dss_cons ?_ ?_
  · exact (ds_set (i := 1) sc__law_sizes.nd rfl (.inl rfl) (de_lit (d := .lst [.tup [.int 2, .int 2], .tup [.int 2, .int 3], .tup [.int 2, .int 4], .tup [.int 3, .int 2], .tup [.int 3, .int 3], .tup [.int 4, .int 2]]) 4 (by decide +kernel)))
  refine dss_nS ?_
  refine dss_cons ?_ ?_
  · exact (ds_if (dt_eq hr.units (de_call (ok__law_take (base := base) T) (hr.mono (by decide)) hgd (by rfl) T.g__law_take T.F__law_take.kp T.b__law_take (da_cons (de_var 0) (da_cons de_int da_nil))) de_int) (dss_one (ds_set (i := 1) sc__law_sizes.nd rfl (.inl rfl) (de_lit (d := .lst [.tup [.int 1, .int 1], .tup [.int 1, .int 2], .tup [.int 1, .int 3], .tup [.int 1, .int 4], .tup [.int 1, .int 5], .tup [.int 2, .int 1], .tup [.int 3, .int 1], .tup [.int 4, .int 1]]) 4 (by decide +kernel)))) dss_nil)
  refine dss_nS ?_
  refine dss_one ?_
  exact (ds_ret (de_ix (de_var 1) (de_call (ok__law_take (base := base) T) (hr.mono (by decide)) hgd (by rfl) T.g__law_take T.F__law_take.kp T.b__law_take (da_cons (de_var 0) (da_cons (de_len (by rfl) T.m_len (de_var 1)) da_nil)))))
theorem ok_next_turnword (T : Facts K mg) : FnG P w K mg base 1 T.f_next_turnword T.fd_next_turnword p_next_turnword D_next_turnword := by
  refine fn_ok T.F_next_turnword sc_next_turnword rfl fun cdv A outer s H E hr hgd => ?_
  refine dss_cons ?_ ?_
  · exact (ds_set (i := 3) sc_next_turnword.nd rfl (.inl rfl) (de_sl (de_mul (de_var 0) (de_var 2)) dp_no (dp_sm (de_var 2))))
  refine dss_nS ?_
  refine dss_cons ?_ ?_
  · exact (ds_while PassesOwn.never (dw_dt (dw_and (dt_gt (de_len (by rfl) T.m_len (de_var 3)) de_int) (dw_and1 (dt_eq hr.units (de_ix (de_var 3) (de_neg de_int)) (de_var 1))))) (dss_nS (dss_one (ds_set (i := 3) sc_next_turnword.nd rfl (.inl rfl) (de_sl (de_var 3) dp_no (dp_sm (de_neg de_int)))))))
  refine dss_nS ?_
  refine dss_cons ?_ ?_
  · exact (ds_if (dt_eq hr.units (de_len (by rfl) T.m_len (de_var 3)) de_int) (dss_one (ds_ret (de_tup da_nil))) dss_nil)
  refine dss_nS ?_
  refine dss_one ?_
  exact (ds_ret (de_add (de_sl (de_var 3) dp_no (dp_sm (de_neg de_int))) (de_tup (da_cons (de_add (de_ix (de_var 3) (de_neg de_int)) de_int) da_nil))))
theorem ok_turnwords (T : Facts K mg) : FnG P w K mg base 2 T.f_turnwords T.fd_turnwords p_turnwords D_turnwords := by
  refine fn_ok T.F_turnwords sc_turnwords rfl fun cdv A outer s H E hr hgd => ?_
  refine dss_cons ?_ ?_
  · exact (ds_set (i := 2) sc_turnwords.nd rfl (.inl rfl) (de_lstM da_nil))
  refine dss_nS ?_
  refine dss_cons ?_ ?_
  · exact (ds_set (i := 3) sc_turnwords.nd rfl (.inl rfl) (de_tup (da_cons de_int da_nil)))
  refine dss_nS ?_
  refine dss_cons ?_ ?_
  · exact (ds_while PassesOwn.never (dt_gt (de_len (by rfl) T.m_len (de_var 3)) de_int) (dss_nS (dss_cons (ds_if (dt_eq hr.units (de_len (by rfl) T.m_len (de_var 3)) (de_var 1)) (dss_one (ds_expr (de_append (de_var 2) (de_var 3)))) dss_nil)
      (dss_one (ds_set (i := 3) sc_turnwords.nd rfl (.inl rfl) (de_call (ok_next_turnword (base := base) T) (hr.mono (by decide)) hgd (by rfl) T.g_next_turnword T.F_next_turnword.kp T.b_next_turnword (da_cons (de_var 3) (da_cons (de_var 0) (da_cons (de_var 1) da_nil)))))))))
  refine dss_nS ?_
  refine dss_one ?_
  exact (ds_ret (de_frz (de_var 2)))
theorem ok_Ground_init (T : Facts K mg) : FnG P w K mg base 3 T.f_Ground_init T.fd_Ground_init p_Ground_init D_Ground_init := by
  refine fn_ok T.F_Ground_init sc_Ground_init rfl fun cdv A outer s H E hr hgd => ?_
  refine dss_cons ?_ ?_
  · exact (ds_if (dw_dt (dw_or (dt_not (dt_chain op_le op_le kLe_ok kLe_ok de_int (de_var 1) (de_glob (by rfl) T.v_MOST_LETTERS))) (dw_or (dt_not (dt_chain op_le op_le kLe_ok kLe_ok de_int (de_var 2) (de_glob (by rfl) T.v_MOST_DEPTH))) (dw_or1 (dt_gt (de_add (de_var 1) (de_var 2)) (de_glob (by rfl) T.v_MOST_BOTH)))))) (dss_one ds_never) dss_nil)
  refine dss_nS ?_
  refine dss_cons ?_ ?_
  · exact (ds_fld 0 rfl (by decide +kernel) (by decide +kernel) T.n_Ground T.k_Ground T.na_Ground_letter_count (de_var 0) (de_var 1))
  refine dss_nS ?_
  refine dss_cons ?_ ?_
  · exact (ds_fld 1 rfl (by decide +kernel) (by decide +kernel) T.n_Ground T.k_Ground T.na_Ground_depth_count (de_var 0) (de_var 2))
  refine dss_nS ?_
  refine dss_cons ?_ ?_
  · exact (ds_fld 2 rfl (by decide +kernel) (by decide +kernel) T.n_Ground T.k_Ground T.na_Ground_turn_list (de_var 0) (de_lstM da_nil))
  refine dss_nS ?_
  refine dss_cons ?_ ?_
  · exact (ds_for (vs := [3]) PassesOwn.never rfl (di_range2 (by rfl) T.m_range (da_cons de_int (da_cons (de_add (de_var 2) de_int) da_nil))) (dg_name (i := 3) sc_Ground_init.nd rfl (.inl rfl) (by decide))
      (dss_nS (dss_one (ds_expr (de_mt PySem.F.slot_list_extend PySem.F.type_list_extend mt_extend kExtend_ok (de_fld 2 rfl (by decide +kernel) T.n_Ground T.k_Ground T.na_Ground_turn_list (de_var 0)) (da_cons (de_call (ok_turnwords (base := base) T) (hr.mono (by decide)) hgd (by rfl) T.g_turnwords_turning T.F_turnwords.kp T.b_turnwords (da_cons (de_var 1) (da_cons (de_var 3) da_nil))) da_nil))))))
  refine dss_nS ?_
  refine dss_cons ?_ ?_
  · exact (ds_fld 3 rfl (by decide +kernel) (by decide +kernel) T.n_Ground T.k_Ground T.na_Ground_place_by_word (de_var 0) (de_newT))
  refine dss_nS ?_
  refine dss_cons ?_ ?_
  · exact (ds_for (vs := [4, 5]) PassesOwn.never rfl (di_enum (by rfl) T.m_enumerate (da_cons (de_fzF 2 rfl (by decide +kernel) T.n_Ground T.k_Ground T.na_Ground_turn_list (de_var 0)) da_nil)) (dg_tup rfl (dgs_cons (dg_name (i := 4) sc_Ground_init.nd rfl (.inl rfl) (by decide)) (dgs_cons (dg_name (i := 5) sc_Ground_init.nd rfl (.inl rfl) (by decide)) dgs_nil)))
      (dss_nS (dss_one (ds_putD hr (de_fld 3 rfl (by decide +kernel) T.n_Ground T.k_Ground T.na_Ground_place_by_word (de_var 0)) (de_var 5) (de_var 4)))))
  refine dss_nS ?_
  refine dss_one ?_
  exact (ds_fld 4 rfl (by decide +kernel) (by decide +kernel) T.n_Ground T.k_Ground T.na_Ground_kept_powers (de_var 0) (de_newK))
theorem ok__law_word (T : Facts K mg) : FnG P w K mg base 2 T.f__law_word T.fd__law_word p__law_word D__law_word := by
  refine fn_ok T.F__law_word sc__law_word rfl fun cdv A outer s H E hr hgd => ?_
  refine dss_cons ?_ ?_
  · exact (ds_set (i := 3) sc__law_word.nd rfl (.inl rfl) (de_call (ok__law_take (base := base) T) (hr.mono (by decide)) hgd (by rfl) T.g__law_take T.F__law_take.kp T.b__law_take (da_cons (de_var 0) (da_cons (de_add de_int (de_if (dt_eq hr.units (de_call (ok__law_take (base := base) T) (hr.mono (by decide)) hgd (by rfl) T.g__law_take T.F__law_take.kp T.b__law_take (da_cons (de_var 0) (da_cons de_int da_nil))) de_int) (de_callB (call_min2 rfl) kMin_ok (by rfl) T.m_min (by decide +kernel) (da_cons (de_var 2) (da_cons de_int da_nil))) (de_var 2))) da_nil))))
  refine dss_nS ?_
  refine dss_one ?_
  exact (ds_ret (de_callT call_tuple_of kTuple_ok (by rfl) T.m_tuple (by decide +kernel) (da_cons (de_lc (own := [("_law_k", 4)]) rfl sc__law_word.nd (di_range1 (by rfl) T.m_range (da_cons (de_var 3) da_nil)) (blkOk_by (N := N__law_word) (sc := defScope s__law_word) (by decide +kernel)) (fun _ _ _ _ _ => (dg_name (i := 4) sc__law_word.nd rfl (.inl rfl) (by decide))) (fun _ _ _ _ _ => dts_nil) (fun _ _ _ _ _ => (de_nE (de_mul (de_add de_int (de_call (ok__law_take (base := base) T) (hr.mono (by decide)) hgd (by rfl) T.g__law_take T.F__law_take.kp T.b__law_take (da_cons (de_var 0) (da_cons (de_var 1) da_nil)))) (de_sub de_int (de_mul de_int (de_call (ok__law_take (base := base) T) (hr.mono (by decide)) hgd (by rfl) T.g__law_take T.F__law_take.kp T.b__law_take (da_cons (de_var 0) (da_cons de_int da_nil))))))))) da_nil)))
theorem ok_longer_words (T : Facts K mg) : FnG P w K mg base 1 T.f_longer_words T.fd_longer_words p_longer_words D_longer_words := by
  refine fn_ok T.F_longer_words sc_longer_words rfl fun cdv A outer s H E hr hgd => ?_
  refine dss_cons ?_ ?_
  · exact (ds_set (i := 2) sc_longer_words.nd rfl (.inl rfl) (de_lstM da_nil))
  refine dss_nS ?_
  refine dss_cons ?_ ?_
  · exact (ds_for (vs := [3]) PassesOwn.never rfl (di_seq (de_var 0)) (dg_name (i := 3) sc_longer_words.nd rfl (.inr rfl) (by decide))
      (dss_nS (dss_one (ds_expr (de_mt PySem.F.slot_list_extend PySem.F.type_list_extend mt_extend kExtend_ok (de_var 2) (da_cons (de_lc (own := [("letter", 4)]) rfl sc_longer_words.nd (di_range2 (by rfl) T.m_range (da_cons de_int (da_cons (de_add (de_var 1) de_int) da_nil))) (blkOk_by (N := N_longer_words) (sc := defScope s_longer_words) (by decide +kernel)) (fun _ _ _ _ _ => (dg_name (i := 4) sc_longer_words.nd rfl (.inl rfl) (by decide))) (fun _ _ _ _ _ => dts_nil) (fun _ _ _ _ _ => (de_nE (de_add (de_var 3) (de_tup (da_cons (de_var 4) da_nil)))))) da_nil))))))
  refine dss_nS ?_
  refine dss_one ?_
  exact (ds_ret (de_frz (de_var 2)))
theorem ok_Ground_words (T : Facts K mg) : FnG P w K mg base 2 T.f_Ground_words T.fd_Ground_words p_Ground_words D_Ground_words := by
  refine fn_ok T.F_Ground_words sc_Ground_words rfl fun cdv A outer s H E hr hgd => ?_
  refine dss_cons ?_ ?_
  · exact (ds_set (i := 1) sc_Ground_words.nd rfl (.inl rfl) (de_lstM da_nil))
  refine dss_nS ?_
  refine dss_cons ?_ ?_
  · exact (ds_set (i := 2) sc_Ground_words.nd rfl (.inl rfl) (de_lit (d := .lst [.tup []]) 4 (by decide +kernel)))
  refine dss_nS ?_
  refine dss_cons ?_ ?_
  · exact (ds_for (vs := [3]) PassesOwn.never rfl (di_range1 (by rfl) T.m_range (da_cons (de_add (de_fld 1 rfl (by decide +kernel) T.n_Ground T.k_Ground T.na_Ground_depth_count (de_var 0)) de_int) da_nil)) (dg_name (i := 3) sc_Ground_words.nd rfl (.inl rfl) (by decide))
      (dss_nS (dss_cons (ds_expr (de_mt PySem.F.slot_list_extend PySem.F.type_list_extend mt_extend kExtend_ok (de_var 1) (da_cons (de_var 2) da_nil)))
      (dss_one (ds_set (i := 2) sc_Ground_words.nd rfl (.inl rfl) (de_call (ok_longer_words (base := base) T) (hr.mono (by decide)) hgd (by rfl) T.g_longer_words T.F_longer_words.kp T.b_longer_words (da_cons (de_var 2) (da_cons (de_fld 0 rfl (by decide +kernel) T.n_Ground T.k_Ground T.na_Ground_letter_count (de_var 0)) da_nil))))))))
  refine dss_nS ?_
  refine dss_one ?_
  exact (ds_ret (de_frz (de_var 1)))
theorem ok_list_of_series (T : Facts K mg) : FnG P w K mg base 3 T.f_list_of_series T.fd_list_of_series p_list_of_series D_list_of_series := by
  refine fn_ok T.F_list_of_series sc_list_of_series rfl fun cdv A outer s H E hr hgd => ?_
  refine dss_one ?_
  exact (ds_ret (de_lc (own := [("word", 2)]) rfl sc_list_of_series.nd (di_seq (de_meth0 T.n_Ground T.k_Ground T.m_Ground_words (by decide +kernel) (ok_Ground_words (base := base) T) (hr.mono (by decide)) hgd T.b_Ground_words (de_var 0))) (blkOk_by (N := N_list_of_series) (sc := defScope s_list_of_series) (by decide +kernel)) (fun _ _ _ _ _ => (dg_name (i := 2) sc_list_of_series.nd rfl (.inl rfl) (by decide))) (fun _ _ _ _ _ => dts_nil) (fun _ _ _ _ _ => (de_nE (de_get2 hr (de_ix (de_var 1) (de_len (by rfl) T.m_len (de_var 2))) (de_var 2) de_int (by constructor <;> rfl))))))
theorem ok_bare_series_d (T : Facts K mg) : FnG P w K mg base 1 T.f_bare_series T.fd_bare_series p_bare_series D_bare_series_d := by
  refine fn_ok T.F_bare_series sc_bare_series rfl fun cdv A outer s H E hr hgd => ?_
  refine dss_one ?_
  exact (ds_ret (de_lc (own := [("size", 1)]) rfl sc_bare_series.nd (di_range1 (by rfl) T.m_range (da_cons (de_add (de_var 0) de_int) da_nil)) (blkOk_by (N := N_bare_series) (sc := defScope s_bare_series) (by decide +kernel)) (fun _ _ _ _ _ => (dg_name (i := 1) sc_bare_series.nd rfl (.inl rfl) (by decide))) (fun _ _ _ _ _ => dts_nil) (fun _ _ _ _ _ => (de_nE (de_newT)))))
theorem ok_unit_series (T : Facts K mg) : FnG P w K mg base 2 T.f_unit_series T.fd_unit_series p_unit_series D_unit_series := by
  refine fn_ok T.F_unit_series sc_unit_series rfl fun cdv A outer s H E hr hgd => ?_
  refine dss_cons ?_ ?_
  · exact (ds_set (i := 1) sc_unit_series.nd rfl (.inl rfl) (de_call (ok_bare_series_d (base := base) T) (hr.mono (by decide)) hgd (by rfl) T.g_bare_series T.F_bare_series.kp T.b_bare_series (da_cons (de_var 0) da_nil)))
  refine dss_nS ?_
  refine dss_cons ?_ ?_
  · exact (ds_putD hr (de_ix (de_var 1) de_int) (de_tup da_nil) de_int)
  refine dss_nS ?_
  refine dss_one ?_
  exact (ds_ret (de_fz 3 (de_var 1)))
theorem ok_Ground_depth (T : Facts K mg) : FnG P w K mg base 1 T.f_Ground_depth T.fd_Ground_depth p_Ground_depth D_Ground_depth := by
  refine fn_ok T.F_Ground_depth sc_Ground_depth rfl fun cdv A outer s H E hr hgd => ?_
  refine dss_one ?_
  exact (ds_ret (de_fld 1 rfl (by decide +kernel) T.n_Ground T.k_Ground T.na_Ground_depth_count (de_var 0)))
theorem ok_with_letter (T : Facts K mg) : FnG P w K mg base 1 T.f_with_letter T.fd_with_letter p_with_letter D_with_letter := by
  refine fn_ok T.F_with_letter sc_with_letter rfl fun cdv A outer s H E hr hgd => ?_
  refine dss_cons ?_ ?_
  · exact (ds_setLc (own := [("row", 7)]) rfl sc_with_letter.nd (di_seq (de_var 0)) (blkOk_by (N := N_with_letter) (sc := defScope s_with_letter) (by decide +kernel)) (fun _ _ _ _ _ => (dg_name (i := 7) sc_with_letter.nd rfl (.inl rfl) (by decide))) (fun _ _ _ _ _ => dts_nil) (fun _ _ _ _ _ => (de_nE (de_callT (cr_copyT (room3 hr)) kCopyT_ok (by rfl) T.m_dict (by decide +kernel) (da_cons (de_var 7) da_nil)))) (i := 2) rfl rfl (sw_true rfl rfl rfl (by decide +kernel)))
  refine dss_nS ?_
  refine dss_cons ?_ ?_
  · exact (ds_for (vs := [3]) PassesOwn.never rfl (di_range2 (by rfl) T.m_range (da_cons de_int (da_cons (de_len (by rfl) T.m_len (de_var 0)) da_nil))) (dg_name (i := 3) sc_with_letter.nd rfl (.inl rfl) (by decide))
      (dss_nS (dss_one (ds_for (vs := [4, 5]) PassesOwn.never rfl (di_itemsT (de_ix (de_var 0) (de_sub (de_var 3) de_int))) (dg_tup rfl (dgs_cons (dg_name (i := 4) sc_with_letter.nd rfl (.inl rfl) (by decide)) (dgs_cons (dg_name (i := 5) sc_with_letter.nd rfl (.inl rfl) (by decide)) dgs_nil)))
      (dss_nS (dss_cons (ds_set (i := 6) sc_with_letter.nd rfl (.inl rfl) (de_add (de_var 4) (de_tup (da_cons (de_var 1) da_nil))))
      (dss_one (ds_putD hr (de_ix (de_var 2) (de_var 3)) (de_var 6) (de_add (de_get2 hr (de_ix (de_var 2) (de_var 3)) (de_var 6) de_int (by constructor <;> rfl)) (de_var 5))))))))))
  refine dss_nS ?_
  refine dss_one ?_
  exact (ds_ret (de_fz 3 (de_var 2)))
theorem ok_with_back (T : Facts K mg) : FnG P w K mg base 1 T.f_with_back T.fd_with_back p_with_back D_with_back := by
  refine fn_ok T.F_with_back sc_with_back rfl fun cdv A outer s H E hr hgd => ?_
  refine dss_cons ?_ ?_
  · exact (ds_setLc (own := [("row", 7)]) rfl sc_with_back.nd (di_seq (de_var 0)) (blkOk_by (N := N_with_back) (sc := defScope s_with_back) (by decide +kernel)) (fun _ _ _ _ _ => (dg_name (i := 7) sc_with_back.nd rfl (.inl rfl) (by decide))) (fun _ _ _ _ _ => dts_nil) (fun _ _ _ _ _ => (de_nE (de_callT (cr_copyT (room3 hr)) kCopyT_ok (by rfl) T.m_dict (by decide +kernel) (da_cons (de_var 7) da_nil)))) (i := 2) rfl rfl (sw_true rfl rfl rfl (by decide +kernel)))
  refine dss_nS ?_
  refine dss_cons ?_ ?_
  · exact (ds_for (vs := [3]) PassesOwn.never rfl (di_range2 (by rfl) T.m_range (da_cons de_int (da_cons (de_len (by rfl) T.m_len (de_var 0)) da_nil))) (dg_name (i := 3) sc_with_back.nd rfl (.inl rfl) (by decide))
      (dss_nS (dss_one (ds_for (vs := [4, 5]) PassesOwn.never rfl (di_itemsT (de_fzK (de_ix (de_var 2) (de_sub (de_var 3) de_int)))) (dg_tup rfl (dgs_cons (dg_name (i := 4) sc_with_back.nd rfl (.inl rfl) (by decide)) (dgs_cons (dg_name (i := 5) sc_with_back.nd rfl (.inl rfl) (by decide)) dgs_nil)))
      (dss_nS (dss_cons (ds_set (i := 6) sc_with_back.nd rfl (.inl rfl) (de_add (de_var 4) (de_tup (da_cons (de_var 1) da_nil))))
      (dss_one (ds_putD hr (de_ix (de_var 2) (de_var 3)) (de_var 6) (de_sub (de_get2 hr (de_ix (de_var 2) (de_var 3)) (de_var 6) de_int (by constructor <;> rfl)) (de_var 5))))))))))
  refine dss_nS ?_
  refine dss_one ?_
  exact (ds_ret (de_fz 3 (de_var 2)))
theorem ok_series_of_word (T : Facts K mg) : FnG P w K mg base 3 T.f_series_of_word T.fd_series_of_word p_series_of_word D_series_of_word := by
  refine fn_ok T.F_series_of_word sc_series_of_word rfl fun cdv A outer s H E hr hgd => ?_
  refine dss_cons ?_ ?_
  · exact (ds_set (i := 2) sc_series_of_word.nd rfl (.inl rfl) (de_call (ok_unit_series (base := base) T) (hr.mono (by decide)) hgd (by rfl) T.g_unit_series T.F_unit_series.kp T.b_unit_series (da_cons (de_meth0 T.n_Ground T.k_Ground T.m_Ground_depth (by decide +kernel) (ok_Ground_depth (base := base) T) (hr.mono (by decide)) hgd T.b_Ground_depth (de_var 0)) da_nil)))
  refine dss_nS ?_
  refine dss_cons ?_ ?_
  · exact (ds_forR (vs := [3]) PassesOwn.never rfl (de_var 1) (dg_name (i := 3) sc_series_of_word.nd rfl (.inl rfl) (by decide))
      (dss_nS (dss_one (ds_if (dt_gt (de_var 3) de_int) (dss_one (ds_set (i := 2) sc_series_of_word.nd rfl (.inl rfl) (de_call (ok_with_letter (base := base) T) (hr.mono (by decide)) hgd (by rfl) T.g_with_letter T.F_with_letter.kp T.b_with_letter (da_cons (de_var 2) (da_cons (de_var 3) da_nil))))) (dss_one (ds_set (i := 2) sc_series_of_word.nd rfl (.inl rfl) (de_call (ok_with_back (base := base) T) (hr.mono (by decide)) hgd (by rfl) T.g_with_back T.F_with_back.kp T.b_with_back (da_cons (de_var 2) (da_cons (de_neg (de_var 3)) da_nil)))))))))
  refine dss_nS ?_
  refine dss_one ?_
  exact (ds_ret (de_var 2))
theorem ok_scattered (T : Facts K mg) : FnG P w K mg base 4 T.f_scattered T.fd_scattered p_scattered D_scattered := by
  refine fn_ok T.F_scattered sc_scattered rfl fun cdv A outer s H E hr hgd => ?_
  refine dss_one ?_
  exact (ds_ret (de_call (ok_list_of_series (base := base) T) (hr.mono (by decide)) hgd (by rfl) T.g_list_of_series T.F_list_of_series.kp T.b_list_of_series (da_cons (de_var 0) (da_cons (de_call (ok_series_of_word (base := base) T) (hr.mono (by decide)) hgd (by rfl) T.g_series_of_word T.F_series_of_word.kp T.b_series_of_word (da_cons (de_var 0) (da_cons (de_var 1) da_nil))) da_nil))))
theorem ok_without_noughts (T : Facts K mg) : FnG P w K mg base 1 T.f_without_noughts T.fd_without_noughts p_without_noughts D_without_noughts := by
  refine fn_ok T.F_without_noughts sc_without_noughts rfl fun cdv A outer s H E hr hgd => ?_
  refine dss_one ?_
  exact (ds_ret (de_fz 1 (de_callT (cr_dictPT rfl (room3 hr)) kDictPT_ok (by rfl) T.m_dict (by decide +kernel) (da_cons (de_lc (own := [("word", 1), ("number", 2)]) rfl sc_without_noughts.nd (di_itemsT (de_var 0)) (blkOk_by (N := N_without_noughts) (sc := defScope s_without_noughts) (by decide +kernel)) (fun _ _ _ _ _ => (dg_tup rfl (dgs_cons (dg_name (i := 1) sc_without_noughts.nd rfl (.inl rfl) (by decide)) (dgs_cons (dg_name (i := 2) sc_without_noughts.nd rfl (.inl rfl) (by decide)) dgs_nil)))) (fun _ _ _ _ _ => (dts_one (dt_ne hr.units (de_var 2) de_int))) (fun _ _ _ _ _ => (de_nE (de_tup (da_cons (de_var 1) (da_cons (de_var 2) da_nil)))))) da_nil))))
theorem ok_series_added (T : Facts K mg) : FnG P w K mg base 2 T.f_series_added T.fd_series_added p_series_added D_series_added := by
  refine fn_ok T.F_series_added sc_series_added rfl fun cdv A outer s H E hr hgd => ?_
  refine dss_cons ?_ ?_
  · exact (ds_setLc (own := [("row", 4)]) rfl sc_series_added.nd (di_seq (de_var 0)) (blkOk_by (N := N_series_added) (sc := defScope s_series_added) (by decide +kernel)) (fun _ _ _ _ _ => (dg_name (i := 4) sc_series_added.nd rfl (.inl rfl) (by decide))) (fun _ _ _ _ _ => dts_nil) (fun _ _ _ _ _ => (de_nE (de_callT (cr_copyT (room3 hr)) kCopyT_ok (by rfl) T.m_dict (by decide +kernel) (da_cons (de_var 4) da_nil)))) (i := 3) rfl rfl (sw_true rfl rfl rfl (by decide +kernel)))
  refine dss_nS ?_
  refine dss_cons ?_ ?_
  · exact (ds_for (vs := [4, 5]) PassesOwn.never rfl (di_zip (by rfl) T.m_zip (da_cons (de_var 3) (da_cons (de_var 1) da_nil))) (dg_tup rfl (dgs_cons (dg_name (i := 4) sc_series_added.nd rfl (.inl rfl) (by decide)) (dgs_cons (dg_name (i := 5) sc_series_added.nd rfl (.inl rfl) (by decide)) dgs_nil)))
      (dss_nS (dss_one (ds_for (vs := [6, 7]) PassesOwn.never rfl (di_itemsT (de_var 5)) (dg_tup rfl (dgs_cons (dg_name (i := 6) sc_series_added.nd rfl (.inl rfl) (by decide)) (dgs_cons (dg_name (i := 7) sc_series_added.nd rfl (.inl rfl) (by decide)) dgs_nil)))
      (dss_nS (dss_one (ds_putD hr (de_var 4) (de_var 6) (de_add (de_get2 hr (de_var 4) (de_var 6) de_int (by constructor <;> rfl)) (de_mul (de_var 2) (de_var 7))))))))))
  refine dss_nS ?_
  refine dss_one ?_
  exact (ds_ret (de_lc (own := [("row", 4)]) rfl sc_series_added.nd (di_seq (de_var 3)) (blkOk_by (N := N_series_added) (sc := defScope s_series_added) (by decide +kernel)) (fun _ _ _ _ _ => (dg_name (i := 4) sc_series_added.nd rfl (.inl rfl) (by decide))) (fun _ _ _ _ _ => dts_nil) (fun _ _ _ _ _ => (de_nE (de_call (ok_without_noughts (base := base) T) (hr.mono (by decide)) hgd (by rfl) T.g_without_noughts T.F_without_noughts.kp T.b_without_noughts (da_cons (de_fz 1 (de_var 4)) da_nil))))))
theorem ok_chosen (T : Facts K mg) : FnG P w K mg base 1 T.f_chosen T.fd_chosen p_chosen D_chosen := by
  refine fn_ok T.F_chosen sc_chosen rfl fun cdv A outer s H E hr hgd => ?_
  refine dss_cons ?_ ?_
  · exact (ds_set (i := 2) sc_chosen.nd rfl (.inl rfl) de_int)
  refine dss_nS ?_
  refine dss_cons ?_ ?_
  · exact (ds_for (vs := [3]) PassesOwn.never rfl (di_range1 (by rfl) T.m_range (da_cons (de_var 1) da_nil)) (dg_name (i := 3) sc_chosen.nd rfl (.inl rfl) (by decide))
      (dss_nS (dss_one (ds_set (i := 2) sc_chosen.nd rfl (.inl rfl) (de_div (de_mul (de_var 2) (de_sub (de_var 0) (de_var 3))) (de_add (de_var 3) de_int))))))
  refine dss_nS ?_
  refine dss_one ?_
  exact (ds_ret (de_var 2))
theorem ok_raised_by_powers (T : Facts K mg) : FnG P w K mg base 3 T.f_raised_by_powers T.fd_raised_by_powers p_raised_by_powers D_raised_by_powers := by
  refine fn_ok T.F_raised_by_powers sc_raised_by_powers rfl fun cdv A outer s H E hr hgd => ?_
  refine dss_cons ?_ ?_
  · exact (ds_set (i := 3) sc_raised_by_powers.nd rfl (.inl rfl) (de_call (ok_unit_series (base := base) T) (hr.mono (by decide)) hgd (by rfl) T.g_unit_series T.F_unit_series.kp T.b_unit_series (da_cons (de_var 0) da_nil)))
  refine dss_nS ?_
  refine dss_cons ?_ ?_
  · exact (ds_for (vs := [4, 5]) PassesOwn.never rfl (di_enum (by rfl) T.m_enumerate (da_cons (de_var 1) da_nil)) (dg_tup rfl (dgs_cons (dg_name (i := 4) sc_raised_by_powers.nd rfl (.inl rfl) (by decide)) (dgs_cons (dg_name (i := 5) sc_raised_by_powers.nd rfl (.inl rfl) (by decide)) dgs_nil)))
      (dss_nS (dss_one (ds_set (i := 3) sc_raised_by_powers.nd rfl (.inl rfl) (de_call (ok_series_added (base := base) T) (hr.mono (by decide)) hgd (by rfl) T.g_series_added T.F_series_added.kp T.b_series_added (da_cons (de_var 3) (da_cons (de_var 5) (da_cons (de_call (ok_chosen (base := base) T) (hr.mono (by decide)) hgd (by rfl) T.g_chosen T.F_chosen.kp T.b_chosen (da_cons (de_var 2) (da_cons (de_add (de_var 4) de_int) da_nil))) da_nil))))))))
  refine dss_nS ?_
  refine dss_one ?_
  exact (ds_ret (de_var 3))
theorem ok_is_bare (T : Facts K mg) : FnG P w K mg base 1 T.f_is_bare T.fd_is_bare p_is_bare D_is_bare := by
  refine fn_ok T.F_is_bare sc_is_bare rfl fun cdv A outer s H E hr hgd => ?_
  refine dss_one ?_
  exact (ds_ret (de_not (de_callB (cr_any rfl) kAny_ok (by rfl) T.m_any (by decide +kernel) (da_cons (de_lc (own := [("row", 1)]) rfl sc_is_bare.nd (di_seq (de_var 0)) (blkOk_by (N := N_is_bare) (sc := defScope s_is_bare) (by decide +kernel)) (fun _ _ _ _ _ => (dg_name (i := 1) sc_is_bare.nd rfl (.inl rfl) (by decide))) (fun _ _ _ _ _ => dts_nil) (fun _ _ _ _ _ => (de_nE (de_gt (de_len2 (by rfl) T.m_len (de_var 1)) de_int)))) da_nil))))
theorem ok_many_words (T : Facts K mg) : FnG P w K mg base 1 T.f_many_words T.fd_many_words p_many_words D_many_words := by
  refine fn_ok T.F_many_words sc_many_words rfl fun cdv A outer s H E hr hgd => ?_
  refine dss_one ?_
  exact (ds_ret (de_callB (cr_sum rfl) kSum_ok (by rfl) T.m_sum (by decide +kernel) (da_cons (de_lc (own := [("row", 1)]) rfl sc_many_words.nd (di_seq (de_var 0)) (blkOk_by (N := N_many_words) (sc := defScope s_many_words) (by decide +kernel)) (fun _ _ _ _ _ => (dg_name (i := 1) sc_many_words.nd rfl (.inl rfl) (by decide))) (fun _ _ _ _ _ => dts_nil) (fun _ _ _ _ _ => (de_nE (de_len2 (by rfl) T.m_len (de_var 1))))) da_nil)))
theorem ok_scaled_row_m (T : Facts K mg) : FnG P w K mg base 1 T.f_scaled_row T.fd_scaled_row p_scaled_row D_scaled_row_m := by
  refine fn_ok T.F_scaled_row sc_scaled_row rfl fun cdv A outer s H E hr hgd => ?_
  refine dss_cons ?_ ?_
  · exact (ds_if (dt_eq hr.units (de_var 1) de_int) (dss_one (ds_ret (de_callT (cr_copyT (room3 hr)) kCopyT_ok (by rfl) T.m_dict (by decide +kernel) (da_cons (de_var 0) da_nil)))) dss_nil)
  refine dss_nS ?_
  refine dss_one ?_
  exact (ds_ret (de_callT (cr_dictPT rfl (room3 hr)) kDictPT_ok (by rfl) T.m_dict (by decide +kernel) (da_cons (de_lc (own := [("word", 2), ("number", 3)]) rfl sc_scaled_row.nd (di_itemsT (de_var 0)) (blkOk_by (N := N_scaled_row) (sc := defScope s_scaled_row) (by decide +kernel)) (fun _ _ _ _ _ => (dg_tup rfl (dgs_cons (dg_name (i := 2) sc_scaled_row.nd rfl (.inl rfl) (by decide)) (dgs_cons (dg_name (i := 3) sc_scaled_row.nd rfl (.inl rfl) (by decide)) dgs_nil)))) (fun _ _ _ _ _ => dts_nil) (fun _ _ _ _ _ => (de_nE (de_tup (da_cons (de_var 2) (da_cons (de_mul (de_var 3) (de_var 1)) da_nil)))))) da_nil)))
theorem ok_add_words (T : Facts K mg) : FnG P w K mg base 1 T.f_add_words T.fd_add_words p_add_words D_add_words := by
  refine fn_ok T.F_add_words sc_add_words rfl fun cdv A outer s H E hr hgd => ?_
  refine dss_one ?_
  exact (ds_for (vs := [3, 4]) PassesOwn.never rfl (di_itemsT (de_var 1)) (dg_tup rfl (dgs_cons (dg_name (i := 3) sc_add_words.nd rfl (.inl rfl) (by decide)) (dgs_cons (dg_name (i := 4) sc_add_words.nd rfl (.inl rfl) (by decide)) dgs_nil)))
      (dss_nS (dss_one (ds_putD hr (de_var 0) (de_var 3) (de_add (de_get2 hr (de_var 0) (de_var 3) de_int (by constructor <;> rfl)) (de_mul (de_var 4) (de_var 2)))))))
theorem ok_add_joined (T : Facts K mg) : FnG P w K mg base 1 T.f_add_joined T.fd_add_joined p_add_joined D_add_joined := by
  refine fn_ok T.F_add_joined sc_add_joined rfl fun cdv A outer s H E hr hgd => ?_
  refine dss_one ?_
  exact (ds_for (vs := [3, 4]) PassesOwn.never rfl (di_itemsT (de_var 1)) (dg_tup rfl (dgs_cons (dg_name (i := 3) sc_add_joined.nd rfl (.inl rfl) (by decide)) (dgs_cons (dg_name (i := 4) sc_add_joined.nd rfl (.inl rfl) (by decide)) dgs_nil)))
      (dss_nS (dss_one (ds_for (vs := [5, 6]) PassesOwn.never rfl (di_itemsT (de_var 2)) (dg_tup rfl (dgs_cons (dg_name (i := 5) sc_add_joined.nd rfl (.inl rfl) (by decide)) (dgs_cons (dg_name (i := 6) sc_add_joined.nd rfl (.inl rfl) (by decide)) dgs_nil)))
      (dss_nS (dss_one (ds_putD hr (de_var 0) (de_add (de_var 3) (de_var 5)) (de_add (de_get2 hr (de_var 0) (de_add (de_var 3) (de_var 5)) de_int (by constructor <;> rfl)) (de_mul (de_var 4) (de_var 6))))))))))
theorem ok_series_joined (T : Facts K mg) : FnG P w K mg base 2 T.f_series_joined T.fd_series_joined p_series_joined D_series_joined := by
  refine fn_ok T.F_series_joined sc_series_joined rfl fun cdv A outer s H E hr hgd => ?_
  refine dss_cons ?_ ?_
  · exact (ds_asg (vs := [2, 3]) (de_tup (da_cons (de_get2 hr (de_ix (de_var 0) de_int) (de_tup da_nil) de_int (by constructor <;> rfl)) (da_cons (de_get2 hr (de_ix (de_var 1) de_int) (de_tup da_nil) de_int (by constructor <;> rfl)) da_nil))) (dg_tup rfl (dgs_cons (dg_name (i := 2) sc_series_joined.nd rfl (.inr rfl) (by decide)) (dgs_cons (dg_name (i := 3) sc_series_joined.nd rfl (.inr rfl) (by decide)) dgs_nil))))
  refine dss_nS ?_
  refine dss_cons ?_ ?_
  · exact (ds_if (dt_lt hr.units0 (de_call (ok_many_words (base := base) T) (hr.mono (by decide)) hgd (by rfl) T.g_many_words T.F_many_words.kp T.b_many_words (da_cons (de_var 0) da_nil)) (de_call (ok_many_words (base := base) T) (hr.mono (by decide)) hgd (by rfl) T.g_many_words T.F_many_words.kp T.b_many_words (da_cons (de_var 1) da_nil))) (dss_cons (ds_setLc (own := [("row", 9)]) rfl sc_series_joined.nd (di_seq (de_var 1)) (blkOk_by (N := N_series_joined) (sc := defScope s_series_joined) (by decide +kernel)) (fun _ _ _ _ _ => (dg_name (i := 9) sc_series_joined.nd rfl (.inl rfl) (by decide))) (fun _ _ _ _ _ => dts_nil) (fun _ _ _ _ _ => (de_nE (de_call (ok_scaled_row_m (base := base) T) (hr.mono (by decide)) hgd (by rfl) T.g_scaled_row T.F_scaled_row.kp T.b_scaled_row (da_cons (de_var 9) (da_cons (de_var 2) da_nil))))) (i := 4) rfl rfl (sw_true rfl rfl rfl (by decide +kernel)))
      (dss_one (ds_par (i := 5) (j := 6) rfl sc_series_joined.nd rfl rfl (by decide) rfl rfl (da_cons (de_var 0) (da_cons (de_var 3) da_nil)) (by rfl)))) (dss_cons (ds_setLc (own := [("row", 9)]) rfl sc_series_joined.nd (di_seq (de_var 0)) (blkOk_by (N := N_series_joined) (sc := defScope s_series_joined) (by decide +kernel)) (fun _ _ _ _ _ => (dg_name (i := 9) sc_series_joined.nd rfl (.inl rfl) (by decide))) (fun _ _ _ _ _ => dts_nil) (fun _ _ _ _ _ => (de_nE (de_call (ok_scaled_row_m (base := base) T) (hr.mono (by decide)) hgd (by rfl) T.g_scaled_row T.F_scaled_row.kp T.b_scaled_row (da_cons (de_var 9) (da_cons (de_var 3) da_nil))))) (i := 4) rfl rfl (sw_true rfl rfl rfl (by decide +kernel)))
      (dss_one (ds_par (i := 5) (j := 6) rfl sc_series_joined.nd rfl rfl (by decide) rfl rfl (da_cons (de_var 1) (da_cons (de_var 2) da_nil)) (by rfl)))))
  refine dss_nS ?_
  refine dss_cons ?_ ?_
  · exact (ds_for (vs := [7]) PassesOwn.never rfl (di_range2 (by rfl) T.m_range (da_cons de_int (da_cons (de_len (by rfl) T.m_len (de_var 4)) da_nil))) (dg_name (i := 7) sc_series_joined.nd rfl (.inl rfl) (by decide))
      (dss_nS (dss_cons (ds_expr (de_call (ok_add_words (base := base) T) (hr.mono (by decide)) hgd (by rfl) T.g_add_words T.F_add_words.kp T.b_add_words (da_cons (de_ix (de_var 4) (de_var 7)) (da_cons (de_ix (de_var 5) (de_var 7)) (da_cons (de_var 6) da_nil)))))
      (dss_one (ds_for (vs := [8]) PassesOwn.never rfl (di_range2 (by rfl) T.m_range (da_cons de_int (da_cons (de_var 7) da_nil))) (dg_name (i := 8) sc_series_joined.nd rfl (.inl rfl) (by decide))
      (dss_nS (dss_one (ds_expr (de_call (ok_add_joined (base := base) T) (hr.mono (by decide)) hgd (by rfl) T.g_add_joined T.F_add_joined.kp T.b_add_joined (da_cons (de_ix (de_var 4) (de_var 7)) (da_cons (de_ix (de_var 0) (de_var 8)) (da_cons (de_ix (de_var 1) (de_sub (de_var 7) (de_var 8))) da_nil))))))))))))
  refine dss_nS ?_
  refine dss_one ?_
  exact (ds_ret (de_lc (own := [("row", 9)]) rfl sc_series_joined.nd (di_seq (de_var 4)) (blkOk_by (N := N_series_joined) (sc := defScope s_series_joined) (by decide +kernel)) (fun _ _ _ _ _ => (dg_name (i := 9) sc_series_joined.nd rfl (.inl rfl) (by decide))) (fun _ _ _ _ _ => dts_nil) (fun _ _ _ _ _ => (de_nE (de_call (ok_without_noughts (base := base) T) (hr.mono (by decide)) hgd (by rfl) T.g_without_noughts T.F_without_noughts.kp T.b_without_noughts (da_cons (de_fz 1 (de_var 9)) da_nil))))))
theorem ok_powers_of (T : Facts K mg) : FnG P w K mg base 3 T.f_powers_of T.fd_powers_of p_powers_of D_powers_of := by
  refine fn_ok T.F_powers_of sc_powers_of rfl fun cdv A outer s H E hr hgd => ?_
  refine dss_cons ?_ ?_
  · exact (ds_set (i := 1) sc_powers_of.nd rfl (.inl rfl) (de_lstM da_nil))
  refine dss_nS ?_
  refine dss_cons ?_ ?_
  · exact (ds_set (i := 2) sc_powers_of.nd rfl (.inl rfl) (de_var 0))
  refine dss_nS ?_
  refine dss_cons ?_ ?_
  · exact (ds_while PassesOwn.never (dt_not (dt_val (de_call (ok_is_bare (base := base) T) (hr.mono (by decide)) hgd (by rfl) T.g_is_bare T.F_is_bare.kp T.b_is_bare (da_cons (de_var 2) da_nil)))) (dss_nS (dss_cons (ds_expr (de_append (de_var 1) (de_var 2)))
      (dss_one (ds_set (i := 2) sc_powers_of.nd rfl (.inl rfl) (de_call (ok_series_joined (base := base) T) (hr.mono (by decide)) hgd (by rfl) T.g_series_joined T.F_series_joined.kp T.b_series_joined (da_cons (de_var 2) (da_cons (de_var 0) da_nil))))))))
  refine dss_nS ?_
  refine dss_one ?_
  exact (ds_ret (de_frz (de_var 1)))
theorem ok_part_of (T : Facts K mg) : FnG P w K mg base 1 T.f_part_of T.fd_part_of p_part_of D_part_of := by
  refine fn_ok T.F_part_of sc_part_of rfl fun cdv A outer s H E hr hgd => ?_
  refine dss_one ?_
  exact (ds_ret (de_add (de_lst (da_cons (de_fz 1 de_newT) da_nil)) (de_lc (own := [("row", 1)]) rfl sc_part_of.nd (di_seq (de_sl (de_var 0) (dp_sm de_int) dp_no)) (blkOk_by (N := N_part_of) (sc := defScope s_part_of) (by decide +kernel)) (fun _ _ _ _ _ => (dg_name (i := 1) sc_part_of.nd rfl (.inl rfl) (by decide))) (fun _ _ _ _ _ => dts_nil) (fun _ _ _ _ _ => (de_nE (de_fz 1 (de_callT (cr_copyT (room3 hr)) kCopyT_ok (by rfl) T.m_dict (by decide +kernel) (da_cons (de_var 1) da_nil))))))))
theorem ok_series_raised (T : Facts K mg) : FnG P w K mg base 4 T.f_series_raised T.fd_series_raised p_series_raised D_series_raised := by
  refine fn_ok T.F_series_raised sc_series_raised rfl fun cdv A outer s H E hr hgd => ?_
  refine dss_one ?_
  exact (ds_ret (de_call (ok_raised_by_powers (base := base) T) (hr.mono (by decide)) hgd (by rfl) T.g_raised_by_powers T.F_raised_by_powers.kp T.b_raised_by_powers (da_cons (de_sub (de_len (by rfl) T.m_len (de_var 0)) de_int) (da_cons (de_call (ok_powers_of (base := base) T) (hr.mono (by decide)) hgd (by rfl) T.g_powers_of T.F_powers_of.kp T.b_powers_of (da_cons (de_call (ok_part_of (base := base) T) (hr.mono (by decide)) hgd (by rfl) T.g_part_of T.F_part_of.kp T.b_part_of (da_cons (de_var 0) da_nil)) da_nil)) (da_cons (de_var 1) da_nil)))))
theorem ok_series_of_sums (T : Facts K mg) : FnG P w K mg base 3 T.f_series_of_sums T.fd_series_of_sums p_series_of_sums D_series_of_sums := by
  refine fn_ok T.F_series_of_sums sc_series_of_sums rfl fun cdv A outer s H E hr hgd => ?_
  refine dss_cons ?_ ?_
  · exact (ds_setLc (own := [("size", 5)]) rfl sc_series_of_sums.nd (di_range1 (by rfl) T.m_range (da_cons (de_add (de_meth0 T.n_Ground T.k_Ground T.m_Ground_depth (by decide +kernel) (ok_Ground_depth (base := base) T) (hr.mono (by decide)) hgd T.b_Ground_depth (de_var 0)) de_int) da_nil)) (blkOk_by (N := N_series_of_sums) (sc := defScope s_series_of_sums) (by decide +kernel)) (fun _ _ _ _ _ => (dg_name (i := 5) sc_series_of_sums.nd rfl (.inl rfl) (by decide))) (fun _ _ _ _ _ => dts_nil) (fun _ _ _ _ _ => (de_nE (de_newT))) (i := 2) rfl rfl (sw_true rfl rfl rfl (by decide +kernel)))
  refine dss_nS ?_
  refine dss_cons ?_ ?_
  · exact (ds_forRZ (vs := [3, 4]) PassesOwn.never rfl (by rfl) T.m_zip (da_cons (de_meth0 T.n_Ground T.k_Ground T.m_Ground_words (by decide +kernel) (ok_Ground_words (base := base) T) (hr.mono (by decide)) hgd T.b_Ground_words (de_var 0)) (da_cons (de_var 1) da_nil)) (dg_tup rfl (dgs_cons (dg_name (i := 3) sc_series_of_sums.nd rfl (.inl rfl) (by decide)) (dgs_cons (dg_name (i := 4) sc_series_of_sums.nd rfl (.inl rfl) (by decide)) dgs_nil)))
      (dss_nS (dss_one (ds_if (dt_ne hr.units (de_var 4) de_int) (dss_one (ds_putD hr (de_ix (de_var 2) (de_len (by rfl) T.m_len (de_var 3))) (de_var 3) (de_var 4))) dss_nil))))
  refine dss_nS ?_
  refine dss_one ?_
  exact (ds_ret (de_fz 3 (de_var 2)))
theorem ok_sums_repeated (T : Facts K mg) : FnG P w K mg base 5 T.f_sums_repeated T.fd_sums_repeated p_sums_repeated D_sums_repeated := by
  refine fn_ok T.F_sums_repeated sc_sums_repeated rfl fun cdv A outer s H E hr hgd => ?_
  refine dss_one ?_
  exact (ds_ret (de_call (ok_list_of_series (base := base) T) (hr.mono (by decide)) hgd (by rfl) T.g_list_of_series T.F_list_of_series.kp T.b_list_of_series (da_cons (de_var 0) (da_cons (de_call (ok_series_raised (base := base) T) (hr.mono (by decide)) hgd (by rfl) T.g_series_raised T.F_series_raised.kp T.b_series_raised (da_cons (de_call (ok_series_of_sums (base := base) T) (hr.mono (by decide)) hgd (by rfl) T.g_series_of_sums T.F_series_of_sums.kp T.b_series_of_sums (da_cons (de_var 0) (da_cons (de_var 1) da_nil))) (da_cons (de_var 2) da_nil))) da_nil))))
theorem ok__law_number (T : Facts K mg) : FnG P w K mg base 2 T.f__law_number T.fd__law_number p__law_number D__law_number := by
  refine fn_ok T.F__law_number sc__law_number rfl fun cdv A outer s H E hr hgd => ?_
  refine dss_cons ?_ ?_
  · exact (ds_par3 (i := 1) (j := 2) (k := 3) rfl sc__law_number.nd rfl rfl rfl (by decide) (by decide) (by decide) rfl rfl rfl (da_cons (de_call (ok__law_take (base := base) T) (hr.mono (by decide)) hgd (by rfl) T.g__law_take T.F__law_take.kp T.b__law_take (da_cons (de_var 0) (da_cons de_int da_nil))) (da_cons (de_sub de_int (de_mul de_int (de_call (ok__law_take (base := base) T) (hr.mono (by decide)) hgd (by rfl) T.g__law_take T.F__law_take.kp T.b__law_take (da_cons (de_var 0) (da_cons de_int da_nil))))) (da_cons de_int da_nil))) (by rfl))
  refine dss_nS ?_
  refine dss_cons ?_ ?_
  · exact (ds_if (dt_lt hr.units0 (de_var 1) de_int) (dss_one (ds_ret (de_mul (de_var 1) (de_var 2)))) dss_nil)
  refine dss_nS ?_
  refine dss_cons ?_ ?_
  · exact (ds_if (dt_lt hr.units0 (de_var 1) de_int) (dss_one (ds_ret (de_mul (de_call (ok__law_take (base := base) T) (hr.mono (by decide)) hgd (by rfl) T.g__law_take T.F__law_take.kp T.b__law_take (da_cons (de_var 0) (da_cons (de_ix (de_lst (da_cons de_int (da_cons de_int (da_cons (de_pow de_int de_int) da_nil)))) (de_sub (de_var 1) de_int)) da_nil))) (de_var 2)))) dss_nil)
  refine dss_nS ?_
  refine dss_cons ?_ ?_
  · exact (ds_for (vs := [4]) PassesOwn.never rfl (di_range1 (by rfl) T.m_range (da_cons de_int da_nil)) (dg_name (i := 4) sc__law_number.nd rfl (.inl rfl) (by decide))
      (dss_nS (dss_one (ds_set (i := 3) sc__law_number.nd rfl (.inl rfl) (de_add (de_mul (de_var 3) (de_pow de_int de_int)) (de_call (ok__law_take (base := base) T) (hr.mono (by decide)) hgd (by rfl) T.g__law_take T.F__law_take.kp T.b__law_take (da_cons (de_var 0) (da_cons (de_pow de_int de_int) da_nil))))))))
  refine dss_nS ?_
  refine dss_one ?_
  exact (ds_ret (de_mul (de_mod (de_var 3) (de_sub (de_pow de_int de_int) de_int)) (de_var 2)))
theorem ok__law_pairs (T : Facts K mg) : FnG P w K mg base 2 T.f__law_pairs T.fd__law_pairs p__law_pairs D__law_pairs := by
  refine fn_ok T.F__law_pairs sc__law_pairs rfl fun cdv A outer s H E hr hgd => ?_
  refine dss_cons ?_ ?_
  · exact (ds_if (dt_lt hr.units0 (de_len (by rfl) T.m_len (de_var 1)) de_int) (dss_cons (ds_set (i := 3) sc__law_pairs.nd rfl (.inl rfl) (de_lstM da_nil))
      (dss_cons (ds_for (vs := [4]) PassesOwn.never rfl (di_seq (de_var 1)) (dg_name (i := 4) sc__law_pairs.nd rfl (.inr rfl) (by decide))
      (dss_nS (dss_one (ds_set (i := 3) sc__law_pairs.nd rfl (.inl rfl) (de_addM (de_fzL (de_var 3)) (de_lc (own := [("_law_other", 7)]) rfl sc__law_pairs.nd (di_seq (de_var 1)) (blkOk_by (N := N__law_pairs) (sc := defScope s__law_pairs) (by decide +kernel)) (fun _ _ _ _ _ => (dg_name (i := 7) sc__law_pairs.nd rfl (.inl rfl) (by decide))) (fun _ _ _ _ _ => (dts_one (dt_le (de_add (de_len (by rfl) T.m_len (de_var 4)) (de_len (by rfl) T.m_len (de_var 7))) (de_var 2)))) (fun _ _ _ _ _ => (de_nE (de_tup (da_cons (de_var 4) (da_cons (de_var 7) da_nil)))))))))))
      (dss_one (ds_ret (de_frz (de_var 3)))))) dss_nil)
  refine dss_nS ?_
  refine dss_cons ?_ ?_
  · exact (ds_set (i := 3) sc__law_pairs.nd rfl (.inl rfl) (de_lstM da_nil))
  refine dss_nS ?_
  refine dss_cons ?_ ?_
  · exact (ds_for (vs := [5]) PassesOwn.never rfl (di_range1 (by rfl) T.m_range (da_cons de_int da_nil)) (dg_name (i := 5) sc__law_pairs.nd rfl (.inl rfl) (by decide))
      (dss_nS (dss_cons (ds_set (i := 4) sc__law_pairs.nd rfl (.inr rfl) (de_ix (de_var 1) (de_call (ok__law_take (base := base) T) (hr.mono (by decide)) hgd (by rfl) T.g__law_take T.F__law_take.kp T.b__law_take (da_cons (de_var 0) (da_cons (de_len (by rfl) T.m_len (de_var 1)) da_nil)))))
      (dss_cons (ds_setLc (own := [("_law_word_here", 8)]) rfl sc__law_pairs.nd (di_seq (de_var 1)) (blkOk_by (N := N__law_pairs) (sc := defScope s__law_pairs) (by decide +kernel)) (fun _ _ _ _ _ => (dg_name (i := 8) sc__law_pairs.nd rfl (.inl rfl) (by decide))) (fun _ _ _ _ _ => (dts_one (dt_le (de_add (de_len (by rfl) T.m_len (de_var 4)) (de_len (by rfl) T.m_len (de_var 8))) (de_var 2)))) (fun _ _ _ _ _ => (de_nE (de_var 8))) (i := 6) rfl rfl (sw_true rfl rfl rfl (by decide +kernel)))
      (dss_one (ds_expr (de_append (de_var 3) (de_tup (da_cons (de_var 4) (da_cons (de_ix (de_var 6) (de_call (ok__law_take (base := base) T) (hr.mono (by decide)) hgd (by rfl) T.g__law_take T.F__law_take.kp T.b__law_take (da_cons (de_var 0) (da_cons (de_len (by rfl) T.m_len (de_var 6)) da_nil)))) da_nil))))))))))
  refine dss_nS ?_
  refine dss_one ?_
  exact (ds_ret (de_frz (de_var 3)))
theorem ok_add_longer (T : Facts K mg) : FnG P w K mg base 1 T.f_add_longer T.fd_add_longer p_add_longer D_add_longer := by
  refine fn_ok T.F_add_longer sc_add_longer rfl fun cdv A outer s H E hr hgd => ?_
  refine dss_one ?_
  exact (ds_for (vs := [3, 4]) PassesOwn.never rfl (di_itemsT (de_var 2)) (dg_tup rfl (dgs_cons (dg_name (i := 3) sc_add_longer.nd rfl (.inl rfl) (by decide)) (dgs_cons (dg_name (i := 4) sc_add_longer.nd rfl (.inl rfl) (by decide)) dgs_nil)))
      (dss_nS (dss_cons (ds_set (i := 5) sc_add_longer.nd rfl (.inl rfl) (de_add (de_tup (da_cons (de_var 1) da_nil)) (de_var 3)))
      (dss_one (ds_putD hr (de_var 0) (de_var 5) (de_add (de_get2 hr (de_var 0) (de_var 5) de_int (by constructor <;> rfl)) (de_var 4)))))))
theorem ok_laid_counts (T : Facts K mg) : ∀ n, FnG P w K mg base (1 + n) T.f_laid_counts T.fd_laid_counts p_laid_counts (D_laid_counts n)
  | 0 => ⟨fun ds l Q h => h.elim, fun A outer s H args us vs Q E hr hg e hb r ⟨F, Fr, ds, l, Qd, a, b, c, d⟩ => c.elim⟩
  | n + 1 => by
    refine fn_ok (k := 1 + n) T.F_laid_counts sc_laid_counts rfl fun cdv A outer s H E hr hgd => ?_
    refine dss_cons ?_ ?_
    · exact (ds_if (dt_eq hr.units (de_len (by rfl) T.m_len (de_var 0)) de_int) (dss_one (ds_ret (de_fz 1 (de_dispT hr (de_var 1) de_int)))) dss_nil)
    refine dss_nS ?_
    refine dss_cons ?_ ?_
    · exact (ds_if (dt_eq hr.units (de_len (by rfl) T.m_len (de_var 1)) de_int) (dss_one (ds_ret (de_fz 1 (de_dispT hr (de_var 0) de_int)))) dss_nil)
    refine dss_nS ?_
    refine dss_cons ?_ ?_
    · exact (ds_set (i := 2) sc_laid_counts.nd rfl (.inl rfl) (de_newT))
    refine dss_nS ?_
    refine dss_cons ?_ ?_
    · exact (ds_expr (de_call (ok_add_longer (base := base) T) (hr.mono (by omega)) hgd (by rfl) T.g_add_longer T.F_add_longer.kp T.b_add_longer (da_cons (de_var 2) (da_cons (de_ix (de_var 0) de_int) (da_cons (de_call (ok_laid_counts T n) (hr.mono (by omega)) hgd (by rfl) T.g_laid_counts T.F_laid_counts.kp T.b_laid_counts (da_cons (de_sl (de_var 0) (dp_sm de_int) dp_no) (da_cons (de_var 1) da_nil))) da_nil)))))
    refine dss_nS ?_
    refine dss_cons ?_ ?_
    · exact (ds_expr (de_call (ok_add_longer (base := base) T) (hr.mono (by omega)) hgd (by rfl) T.g_add_longer T.F_add_longer.kp T.b_add_longer (da_cons (de_var 2) (da_cons (de_ix (de_var 1) de_int) (da_cons (de_call (ok_laid_counts T n) (hr.mono (by omega)) hgd (by rfl) T.g_laid_counts T.F_laid_counts.kp T.b_laid_counts (da_cons (de_var 0) (da_cons (de_sl (de_var 1) (dp_sm de_int) dp_no) da_nil))) da_nil)))))
    refine dss_nS ?_
    refine dss_cons ?_ ?_
    · exact (ds_if (dt_eq hr.units (de_ix (de_var 0) de_int) (de_ix (de_var 1) de_int)) (dss_one (ds_expr (de_call (ok_add_longer (base := base) T) (hr.mono (by omega)) hgd (by rfl) T.g_add_longer T.F_add_longer.kp T.b_add_longer (da_cons (de_var 2) (da_cons (de_ix (de_var 0) de_int) (da_cons (de_call (ok_laid_counts T n) (hr.mono (by omega)) hgd (by rfl) T.g_laid_counts T.F_laid_counts.kp T.b_laid_counts (da_cons (de_sl (de_var 0) (dp_sm de_int) dp_no) (da_cons (de_sl (de_var 1) (dp_sm de_int) dp_no) da_nil))) da_nil)))))) dss_nil)
    refine dss_nS ?_
    refine dss_one ?_
    exact (ds_ret (de_fz 1 (de_var 2)))
theorem ok_laid_together (T : Facts K mg) : FnG P w K mg base 14 T.f_laid_together T.fd_laid_together p_laid_together D_laid_together := by
  refine fn_okL T.F_laid_together T.lnn T.ltab sc_laid_together rfl fun A outer s H E hr hgd => ?_
  refine dss_cons ?_ ?_
  · exact (ds_set (i := 2) sc_laid_together.nd rfl (.inl rfl) (de_call (ok_laid_counts (base := base) T 12) (hr.mono (by decide)) hgd (by rfl) T.g_laid_counts T.F_laid_counts.kp T.b_laid_counts (da_cons (de_callT call_tuple_of kTuple_ok (by rfl) T.m_tuple (by decide +kernel) (da_cons (de_var 0) da_nil)) (da_cons (de_callT call_tuple_of kTuple_ok (by rfl) T.m_tuple (by decide +kernel) (da_cons (de_var 1) da_nil)) da_nil))))
  refine dss_nS ?_
  refine dss_one ?_
  exact (ds_ret (de_sortLam hr rfl (by rfl) T.m_sorted T.m_len (de_var 2) (HasTB.tb (K := K) (mg := mg) (base := base) _ _ T.ltab) rfl ((tabOf_of T.ltab).trans (congrArg (fun q => [(T.lP, q)]) lam_qual)) rfl ⟨rfl, rfl, rfl, by decide +kernel, by decide +kernel, by decide +kernel⟩ (by decide) (fun _ _ _ _ _ _ => rfl)))
theorem ok_law (T : Facts K mg) : FnG P w K mg base 15 T.f_law T.fd_law p_law D_law := by
  refine fn_ok T.F_law sc_law rfl fun cdv A outer s H E hr hgd => ?_
  refine dss_cons ?_ ?_
  · exact (ds_set (i := 1) sc_law.nd rfl (.inl rfl) (de_call (ok__law_folded (base := base) T) (hr.mono (by decide)) hgd (by rfl) T.g__law_folded T.F__law_folded.kp T.b__law_folded (da_cons (de_var 0) (da_cons de_int da_nil))))
  refine dss_nS ?_
  refine dss_cons ?_ ?_
  · exact (ds_for (vs := [2]) PassesOwn.never rfl (di_range1 (by rfl) T.m_range (da_cons (de_callB (call_max2 rfl) kMax_ok (by rfl) T.m_max (by decide +kernel) (da_cons de_int (da_cons (de_len (by rfl) T.m_len (de_var 1)) da_nil))) da_nil)) (dg_name (i := 2) sc_law.nd rfl (.inl rfl) (by decide))
      (dss_nS (dss_cons (ds_set (i := 3) sc_law.nd rfl (.inl rfl) (de_call (ok__law_box_m (base := base) T) (hr.mono (by decide)) hgd (by rfl) T.g__law_box T.F__law_box.kp T.b__law_box (da_cons (de_var 1) (da_cons (de_var 2) da_nil))))
      (dss_cons (ds_asg (vs := [4, 5]) (de_call (ok__law_sizes (base := base) T) (hr.mono (by decide)) hgd (by rfl) T.g__law_sizes T.F__law_sizes.kp T.b__law_sizes (da_cons (de_var 3) da_nil)) (dg_tup rfl (dgs_cons (dg_name (i := 4) sc_law.nd rfl (.inl rfl) (by decide)) (dgs_cons (dg_name (i := 5) sc_law.nd rfl (.inl rfl) (by decide)) dgs_nil))))
      (dss_cons (ds_par (i := 6) (j := 7) rfl sc_law.nd rfl rfl (by decide) rfl rfl (da_cons (de_make T.n_Ground T.mk_Ground (ok_Ground_init (base := base) T) (hr.mono (by decide)) hgd (by rfl) T.gc_Ground T.b_Ground_init (da_cons (de_var 4) (da_cons (de_var 5) da_nil))) (da_cons (de_call (ok__law_word (base := base) T) (hr.mono (by decide)) hgd (by rfl) T.g__law_word T.F__law_word.kp T.b__law_word (da_cons (de_var 3) (da_cons (de_var 4) (da_cons de_int da_nil)))) da_nil)) (by rfl))
      (dss_cons (ds_par (i := 8) (j := 9) rfl sc_law.nd rfl rfl (by decide) rfl rfl (da_cons (de_call (ok_scattered (base := base) T) (hr.mono (by decide)) hgd (by rfl) T.g_scattered T.F_scattered.kp T.b_scattered (da_cons (de_var 6) (da_cons (de_var 7) da_nil))) (da_cons (de_meth0 T.n_Ground T.k_Ground T.m_Ground_words (by decide +kernel) (ok_Ground_words (base := base) T) (hr.mono (by decide)) hgd T.b_Ground_words (de_var 6)) da_nil)) (by rfl))
      (dss_cons (ds_if (dt_eq hr.units (de_call (ok__law_take (base := base) T) (hr.mono (by decide)) hgd (by rfl) T.g__law_take T.F__law_take.kp T.b__law_take (da_cons (de_var 3) (da_cons de_int da_nil))) de_int) (dss_one (ds_set (i := 8) sc_law.nd rfl (.inl rfl) (de_call (ok_sums_repeated (base := base) T) (hr.mono (by decide)) hgd (by rfl) T.g_sums_repeated T.F_sums_repeated.kp T.b_sums_repeated (da_cons (de_var 6) (da_cons (de_var 8) (da_cons (de_call (ok__law_number (base := base) T) (hr.mono (by decide)) hgd (by rfl) T.g__law_number T.F__law_number.kp T.b__law_number (da_cons (de_var 3) da_nil)) da_nil)))))) dss_nil)
      (dss_cons (ds_if (dt_ne hr.units (de_len (by rfl) T.m_len (de_var 8)) (de_len (by rfl) T.m_len (de_var 9))) (dss_one (ds_ret de_bl)) dss_nil)
      (dss_cons (ds_set (i := 10) sc_law.nd rfl (.inr rfl) (de_fz 1 (de_callT (cr_dictPT rfl (room3 hr)) kDictPT_ok (by rfl) T.m_dict (by decide +kernel) (da_cons (de_listZip rfl (da_cons (de_var 9) (da_cons (de_var 8) da_nil)) (by rfl) T.m_list (by rfl) T.m_zip) da_nil))))
      (dss_one (ds_for (vs := [11, 12]) PassesOwn.never rfl (di_seq (de_call (ok__law_pairs (base := base) T) (hr.mono (by decide)) hgd (by rfl) T.g__law_pairs T.F__law_pairs.kp T.b__law_pairs (da_cons (de_var 3) (da_cons (de_var 9) (da_cons (de_var 5) da_nil))))) (dg_tup rfl (dgs_cons (dg_name (i := 11) sc_law.nd rfl (.inl rfl) (by decide)) (dgs_cons (dg_name (i := 12) sc_law.nd rfl (.inl rfl) (by decide)) dgs_nil)))
      (dss_nS (dss_cons (ds_set (i := 13) sc_law.nd rfl (.inl rfl) (de_callB (cr_sum rfl) kSum_ok (by rfl) T.m_sum (by decide +kernel) (da_cons (de_lc (own := [("_law_longer", 14), ("_law_times", 15)]) rfl sc_law.nd (di_seq (de_call (ok_laid_together (base := base) T) (hr.mono (by decide)) hgd (by rfl) T.g_laid_together T.F_laid_together.kp T.b_laid_together (da_cons (de_var 11) (da_cons (de_var 12) da_nil)))) (blkOk_by (N := N_law) (sc := defScope s_law) (by decide +kernel)) (fun _ _ _ _ _ => (dg_tup rfl (dgs_cons (dg_name (i := 14) sc_law.nd rfl (.inl rfl) (by decide)) (dgs_cons (dg_name (i := 15) sc_law.nd rfl (.inl rfl) (by decide)) dgs_nil)))) (fun _ _ _ _ _ => dts_nil) (fun _ _ _ _ _ => (de_nE (de_mul (de_var 15) (de_getD hr (de_var 10) (de_var 14)))))) da_nil)))
      (dss_one (ds_if (dt_ne hr.units (de_mul (de_getD hr (de_var 10) (de_var 11)) (de_getD hr (de_var 10) (de_var 12))) (de_var 13)) (dss_one (ds_ret de_bl)) dss_nil)))))))))))))))
  refine dss_nS ?_
  refine dss_one ?_
  exact (ds_ret de_bl)
end
theorem all_mk {l : PySem.W.OpenLaw} {w : World} {K : PySem.W.Frag} {h : Heap} {mg : Str → Option Value} {fa f0 f1 f2 f3 f4 f5 f6 f7 f8 f9 f10 f11 f12 f13 f14 f15 f16 f17 f18 f19 f20 f21 f22 f23 f24 f25 f26 f27 f28 f29 f30 f31 f32 f33 f34 f35 f36 f37 f38 C0 lc0 lP0 : Addr} (X : K.In h) (G : h.Ns mainGlobals mg) (hfa : mg "law" = some (.ref fa))
    {t0 t1 t2 : Tok}
    {od0 an0 od1 an1 od2 an2 od3 an3 od4 an4 od5 an5 od6 an6 od7 an7 od8 an8 od9 an9 od10 an10 od11 an11 od12 an12 od13 an13 od14 an14 od15 an15 od16 an16 od17 an17 od18 an18 od19 an19 od20 an20 od21 an21 od22 an22 od23 an23 od24 an24 od25 an25 od26 an26 od27 an27 od28 an28 od29 an29 od30 an30 od31 an31 od32 an32 od33 an33 od34 an34 od35 an35 od36 an36 od37 an37 od38 an38 : Option Addr} {sl0 sl1 sl2 sl3 sl4 sl5 sl6 sl7 sl8 sl9 sl10 sl11 sl12 sl13 sl14 sl15 sl16 sl17 sl18 sl19 sl20 sl21 sl22 sl23 sl24 sl25 sl26 sl27 sl28 sl29 sl30 sl31 sl32 sl33 sl34 sl35 sl36 sl37 sl38 : Array (Option Value)} {oc0 kV0 dc0 pm0 cd0 ct0 oc1 kV1 dc1 pm1 cd1 ct1 oc2 kV2 dc2 pm2 cd2 ct2 oc3 kV3 dc3 pm3 cd3 ct3 oc4 kV4 dc4 pm4 cd4 ct4 oc5 kV5 dc5 pm5 cd5 ct5 oc6 kV6 dc6 pm6 cd6 ct6 oc7 kV7 dc7 pm7 cd7 ct7 oc8 kV8 dc8 pm8 cd8 ct8 oc9 kV9 dc9 pm9 cd9 ct9 oc10 kV10 dc10 pm10 cd10 ct10 oc11 kV11 dc11 pm11 cd11 ct11 oc12 kV12 dc12 pm12 cd12 ct12 oc13 kV13 dc13 pm13 cd13 ct13 oc14 kV14 dc14 pm14 cd14 ct14 oc15 kV15 dc15 pm15 cd15 ct15 oc16 kV16 dc16 pm16 cd16 ct16 oc17 kV17 dc17 pm17 cd17 ct17 oc18 kV18 dc18 pm18 cd18 ct18 oc19 kV19 dc19 pm19 cd19 ct19 oc20 kV20 dc20 pm20 cd20 ct20 oc21 kV21 dc21 pm21 cd21 ct21 oc22 kV22 dc22 pm22 cd22 ct22 oc23 kV23 dc23 pm23 cd23 ct23 oc24 kV24 dc24 pm24 cd24 ct24 oc25 kV25 dc25 pm25 cd25 ct25 oc26 kV26 dc26 pm26 cd26 ct26 oc27 kV27 dc27 pm27 cd27 ct27 oc28 kV28 dc28 pm28 cd28 ct28 oc29 kV29 dc29 pm29 cd29 ct29 oc30 kV30 dc30 pm30 cd30 ct30 oc31 kV31 dc31 pm31 cd31 ct31 oc32 kV32 dc32 pm32 cd32 ct32 oc33 kV33 dc33 pm33 cd33 ct33 oc34 kV34 dc34 pm34 cd34 ct34 oc35 kV35 dc35 pm35 cd35 ct35 oc36 kV36 dc36 pm36 cd36 ct36 oc37 kV37 dc37 pm37 cd37 ct37 oc38 kV38 dc38 pm38 cd38 ct38 : Value}
    (ca0 : PySem.W.nsIn K mainGlobals "Ground" = some (some (.ref C0)))
    (cp0 : PySem.W.plainGet K C0 Str.empty = true)
    (ch0 : PySem.W.hasDictIn K C0 = true)
    (co0 : PySem.W.plainOver K C0 = true)
    (cs0 : PySem.W.findIn K (.ref C0) "__setattr__" = some (some (.builtin "object.__setattr__")))
    (cm0 : PySem.W.makesIn K C0 = true)
    (ck0 : PySem.W.keepIn K (.ref C0) = true)
    (cn0x0 : PySem.W.findIn K (.ref C0) "letter_count" = some none)
    (cn0x1 : PySem.W.findIn K (.ref C0) "depth_count" = some none)
    (cn0x2 : PySem.W.findIn K (.ref C0) "turn_list" = some none)
    (cn0x3 : PySem.W.findIn K (.ref C0) "place_by_word" = some none)
    (cn0x4 : PySem.W.findIn K (.ref C0) "kept_powers" = some none)
    (a0 : PySem.W.nsIn K mainGlobals "_law_folded" = some (some (.ref f0)))
    (l0 : K.lookup f0 = some ⟨oc0, od0, .func (PySem.W.fnOf "_law_folded" "_law_folded" (defArgs s__law_folded) (defBody s__law_folded) (defScope s__law_folded) .none kV0 dc0 pm0 an0 cd0 ct0), sl0⟩)
    (c0 : PySem.W.codeIn K cd0 "_law_folded" = true)
    (k0 : PySem.W.keepIn K (.ref f0) = true)
    (a1 : PySem.W.nsIn K mainGlobals "_law_box" = some (some (.ref f1)))
    (l1 : K.lookup f1 = some ⟨oc1, od1, .func (PySem.W.fnOf "_law_box" "_law_box" (defArgs s__law_box) (defBody s__law_box) (defScope s__law_box) .none kV1 dc1 pm1 an1 cd1 ct1), sl1⟩)
    (c1 : PySem.W.codeIn K cd1 "_law_box" = true)
    (k1 : PySem.W.keepIn K (.ref f1) = true)
    (a2 : PySem.W.nsIn K mainGlobals "_law_take" = some (some (.ref f2)))
    (l2 : K.lookup f2 = some ⟨oc2, od2, .func (PySem.W.fnOf "_law_take" "_law_take" (defArgs s__law_take) (defBody s__law_take) (defScope s__law_take) .none kV2 dc2 pm2 an2 cd2 ct2), sl2⟩)
    (c2 : PySem.W.codeIn K cd2 "_law_take" = true)
    (k2 : PySem.W.keepIn K (.ref f2) = true)
    (a3 : PySem.W.nsIn K mainGlobals "_law_sizes" = some (some (.ref f3)))
    (l3 : K.lookup f3 = some ⟨oc3, od3, .func (PySem.W.fnOf "_law_sizes" "_law_sizes" (defArgs s__law_sizes) (defBody s__law_sizes) (defScope s__law_sizes) .none kV3 dc3 pm3 an3 cd3 ct3), sl3⟩)
    (c3 : PySem.W.codeIn K cd3 "_law_sizes" = true)
    (k3 : PySem.W.keepIn K (.ref f3) = true)
    (a4 : PySem.W.nsIn K mainGlobals "next_turnword" = some (some (.ref f4)))
    (l4 : K.lookup f4 = some ⟨oc4, od4, .func (PySem.W.fnOf "next_turnword" "next_turnword" (defArgs s_next_turnword) (defBody s_next_turnword) (defScope s_next_turnword) .none kV4 dc4 pm4 an4 cd4 ct4), sl4⟩)
    (c4 : PySem.W.codeIn K cd4 "next_turnword" = true)
    (k4 : PySem.W.keepIn K (.ref f4) = true)
    (a5 : PySem.W.nsIn K mainGlobals "turnwords" = some (some (.ref f5)))
    (l5 : K.lookup f5 = some ⟨oc5, od5, .func (PySem.W.fnOf "turnwords" "turnwords" (defArgs s_turnwords) (defBody s_turnwords) (defScope s_turnwords) .none kV5 dc5 pm5 an5 cd5 ct5), sl5⟩)
    (c5 : PySem.W.codeIn K cd5 "turnwords" = true)
    (k5 : PySem.W.keepIn K (.ref f5) = true)
    (a6 : PySem.W.findIn K (.ref C0) "__init__" = some (some (.ref f6)))
    (i6 : PySem.W.isFn K (.ref f6) = true)
    (l6 : K.lookup f6 = some ⟨oc6, od6, .func (PySem.W.fnOf "__init__" "Ground.__init__" (defArgs s_Ground_init) (defBody s_Ground_init) (defScope s_Ground_init) .none kV6 dc6 pm6 an6 cd6 ct6), sl6⟩)
    (c6 : PySem.W.codeIn K cd6 "Ground.__init__" = true)
    (k6 : PySem.W.keepIn K (.ref f6) = true)
    (a7 : PySem.W.nsIn K mainGlobals "_law_word" = some (some (.ref f7)))
    (l7 : K.lookup f7 = some ⟨oc7, od7, .func (PySem.W.fnOf "_law_word" "_law_word" (defArgs s__law_word) (defBody s__law_word) (defScope s__law_word) .none kV7 dc7 pm7 an7 cd7 ct7), sl7⟩)
    (c7 : PySem.W.codeIn K cd7 "_law_word" = true)
    (k7 : PySem.W.keepIn K (.ref f7) = true)
    (a8 : PySem.W.nsIn K mainGlobals "longer_words" = some (some (.ref f8)))
    (l8 : K.lookup f8 = some ⟨oc8, od8, .func (PySem.W.fnOf "longer_words" "longer_words" (defArgs s_longer_words) (defBody s_longer_words) (defScope s_longer_words) .none kV8 dc8 pm8 an8 cd8 ct8), sl8⟩)
    (c8 : PySem.W.codeIn K cd8 "longer_words" = true)
    (k8 : PySem.W.keepIn K (.ref f8) = true)
    (a9 : PySem.W.findIn K (.ref C0) "words" = some (some (.ref f9)))
    (i9 : PySem.W.isFn K (.ref f9) = true)
    (l9 : K.lookup f9 = some ⟨oc9, od9, .func (PySem.W.fnOf "words" "Ground.words" (defArgs s_Ground_words) (defBody s_Ground_words) (defScope s_Ground_words) .none kV9 dc9 pm9 an9 cd9 ct9), sl9⟩)
    (c9 : PySem.W.codeIn K cd9 "Ground.words" = true)
    (k9 : PySem.W.keepIn K (.ref f9) = true)
    (a10 : PySem.W.nsIn K mainGlobals "list_of_series" = some (some (.ref f10)))
    (l10 : K.lookup f10 = some ⟨oc10, od10, .func (PySem.W.fnOf "list_of_series" "list_of_series" (defArgs s_list_of_series) (defBody s_list_of_series) (defScope s_list_of_series) .none kV10 dc10 pm10 an10 cd10 ct10), sl10⟩)
    (c10 : PySem.W.codeIn K cd10 "list_of_series" = true)
    (k10 : PySem.W.keepIn K (.ref f10) = true)
    (a11 : PySem.W.nsIn K mainGlobals "bare_series" = some (some (.ref f11)))
    (l11 : K.lookup f11 = some ⟨oc11, od11, .func (PySem.W.fnOf "bare_series" "bare_series" (defArgs s_bare_series) (defBody s_bare_series) (defScope s_bare_series) .none kV11 dc11 pm11 an11 cd11 ct11), sl11⟩)
    (c11 : PySem.W.codeIn K cd11 "bare_series" = true)
    (k11 : PySem.W.keepIn K (.ref f11) = true)
    (a12 : PySem.W.nsIn K mainGlobals "unit_series" = some (some (.ref f12)))
    (l12 : K.lookup f12 = some ⟨oc12, od12, .func (PySem.W.fnOf "unit_series" "unit_series" (defArgs s_unit_series) (defBody s_unit_series) (defScope s_unit_series) .none kV12 dc12 pm12 an12 cd12 ct12), sl12⟩)
    (c12 : PySem.W.codeIn K cd12 "unit_series" = true)
    (k12 : PySem.W.keepIn K (.ref f12) = true)
    (a13 : PySem.W.findIn K (.ref C0) "depth" = some (some (.ref f13)))
    (i13 : PySem.W.isFn K (.ref f13) = true)
    (l13 : K.lookup f13 = some ⟨oc13, od13, .func (PySem.W.fnOf "depth" "Ground.depth" (defArgs s_Ground_depth) (defBody s_Ground_depth) (defScope s_Ground_depth) .none kV13 dc13 pm13 an13 cd13 ct13), sl13⟩)
    (c13 : PySem.W.codeIn K cd13 "Ground.depth" = true)
    (k13 : PySem.W.keepIn K (.ref f13) = true)
    (a14 : PySem.W.nsIn K mainGlobals "with_letter" = some (some (.ref f14)))
    (l14 : K.lookup f14 = some ⟨oc14, od14, .func (PySem.W.fnOf "with_letter" "with_letter" (defArgs s_with_letter) (defBody s_with_letter) (defScope s_with_letter) .none kV14 dc14 pm14 an14 cd14 ct14), sl14⟩)
    (c14 : PySem.W.codeIn K cd14 "with_letter" = true)
    (k14 : PySem.W.keepIn K (.ref f14) = true)
    (a15 : PySem.W.nsIn K mainGlobals "with_back" = some (some (.ref f15)))
    (l15 : K.lookup f15 = some ⟨oc15, od15, .func (PySem.W.fnOf "with_back" "with_back" (defArgs s_with_back) (defBody s_with_back) (defScope s_with_back) .none kV15 dc15 pm15 an15 cd15 ct15), sl15⟩)
    (c15 : PySem.W.codeIn K cd15 "with_back" = true)
    (k15 : PySem.W.keepIn K (.ref f15) = true)
    (a16 : PySem.W.nsIn K mainGlobals "series_of_word" = some (some (.ref f16)))
    (l16 : K.lookup f16 = some ⟨oc16, od16, .func (PySem.W.fnOf "series_of_word" "series_of_word" (defArgs s_series_of_word) (defBody s_series_of_word) (defScope s_series_of_word) .none kV16 dc16 pm16 an16 cd16 ct16), sl16⟩)
    (c16 : PySem.W.codeIn K cd16 "series_of_word" = true)
    (k16 : PySem.W.keepIn K (.ref f16) = true)
    (a17 : PySem.W.nsIn K mainGlobals "scattered" = some (some (.ref f17)))
    (l17 : K.lookup f17 = some ⟨oc17, od17, .func (PySem.W.fnOf "scattered" "scattered" (defArgs s_scattered) (defBody s_scattered) (defScope s_scattered) .none kV17 dc17 pm17 an17 cd17 ct17), sl17⟩)
    (c17 : PySem.W.codeIn K cd17 "scattered" = true)
    (k17 : PySem.W.keepIn K (.ref f17) = true)
    (a18 : PySem.W.nsIn K mainGlobals "without_noughts" = some (some (.ref f18)))
    (l18 : K.lookup f18 = some ⟨oc18, od18, .func (PySem.W.fnOf "without_noughts" "without_noughts" (defArgs s_without_noughts) (defBody s_without_noughts) (defScope s_without_noughts) .none kV18 dc18 pm18 an18 cd18 ct18), sl18⟩)
    (c18 : PySem.W.codeIn K cd18 "without_noughts" = true)
    (k18 : PySem.W.keepIn K (.ref f18) = true)
    (a19 : PySem.W.nsIn K mainGlobals "series_added" = some (some (.ref f19)))
    (l19 : K.lookup f19 = some ⟨oc19, od19, .func (PySem.W.fnOf "series_added" "series_added" (defArgs s_series_added) (defBody s_series_added) (defScope s_series_added) .none kV19 dc19 pm19 an19 cd19 ct19), sl19⟩)
    (c19 : PySem.W.codeIn K cd19 "series_added" = true)
    (k19 : PySem.W.keepIn K (.ref f19) = true)
    (a20 : PySem.W.nsIn K mainGlobals "chosen" = some (some (.ref f20)))
    (l20 : K.lookup f20 = some ⟨oc20, od20, .func (PySem.W.fnOf "chosen" "chosen" (defArgs s_chosen) (defBody s_chosen) (defScope s_chosen) .none kV20 dc20 pm20 an20 cd20 ct20), sl20⟩)
    (c20 : PySem.W.codeIn K cd20 "chosen" = true)
    (k20 : PySem.W.keepIn K (.ref f20) = true)
    (a21 : PySem.W.nsIn K mainGlobals "raised_by_powers" = some (some (.ref f21)))
    (l21 : K.lookup f21 = some ⟨oc21, od21, .func (PySem.W.fnOf "raised_by_powers" "raised_by_powers" (defArgs s_raised_by_powers) (defBody s_raised_by_powers) (defScope s_raised_by_powers) .none kV21 dc21 pm21 an21 cd21 ct21), sl21⟩)
    (c21 : PySem.W.codeIn K cd21 "raised_by_powers" = true)
    (k21 : PySem.W.keepIn K (.ref f21) = true)
    (a22 : PySem.W.nsIn K mainGlobals "is_bare" = some (some (.ref f22)))
    (l22 : K.lookup f22 = some ⟨oc22, od22, .func (PySem.W.fnOf "is_bare" "is_bare" (defArgs s_is_bare) (defBody s_is_bare) (defScope s_is_bare) .none kV22 dc22 pm22 an22 cd22 ct22), sl22⟩)
    (c22 : PySem.W.codeIn K cd22 "is_bare" = true)
    (k22 : PySem.W.keepIn K (.ref f22) = true)
    (a23 : PySem.W.nsIn K mainGlobals "many_words" = some (some (.ref f23)))
    (l23 : K.lookup f23 = some ⟨oc23, od23, .func (PySem.W.fnOf "many_words" "many_words" (defArgs s_many_words) (defBody s_many_words) (defScope s_many_words) .none kV23 dc23 pm23 an23 cd23 ct23), sl23⟩)
    (c23 : PySem.W.codeIn K cd23 "many_words" = true)
    (k23 : PySem.W.keepIn K (.ref f23) = true)
    (a24 : PySem.W.nsIn K mainGlobals "scaled_row" = some (some (.ref f24)))
    (l24 : K.lookup f24 = some ⟨oc24, od24, .func (PySem.W.fnOf "scaled_row" "scaled_row" (defArgs s_scaled_row) (defBody s_scaled_row) (defScope s_scaled_row) .none kV24 dc24 pm24 an24 cd24 ct24), sl24⟩)
    (c24 : PySem.W.codeIn K cd24 "scaled_row" = true)
    (k24 : PySem.W.keepIn K (.ref f24) = true)
    (a25 : PySem.W.nsIn K mainGlobals "add_words" = some (some (.ref f25)))
    (l25 : K.lookup f25 = some ⟨oc25, od25, .func (PySem.W.fnOf "add_words" "add_words" (defArgs s_add_words) (defBody s_add_words) (defScope s_add_words) .none kV25 dc25 pm25 an25 cd25 ct25), sl25⟩)
    (c25 : PySem.W.codeIn K cd25 "add_words" = true)
    (k25 : PySem.W.keepIn K (.ref f25) = true)
    (a26 : PySem.W.nsIn K mainGlobals "add_joined" = some (some (.ref f26)))
    (l26 : K.lookup f26 = some ⟨oc26, od26, .func (PySem.W.fnOf "add_joined" "add_joined" (defArgs s_add_joined) (defBody s_add_joined) (defScope s_add_joined) .none kV26 dc26 pm26 an26 cd26 ct26), sl26⟩)
    (c26 : PySem.W.codeIn K cd26 "add_joined" = true)
    (k26 : PySem.W.keepIn K (.ref f26) = true)
    (a27 : PySem.W.nsIn K mainGlobals "series_joined" = some (some (.ref f27)))
    (l27 : K.lookup f27 = some ⟨oc27, od27, .func (PySem.W.fnOf "series_joined" "series_joined" (defArgs s_series_joined) (defBody s_series_joined) (defScope s_series_joined) .none kV27 dc27 pm27 an27 cd27 ct27), sl27⟩)
    (c27 : PySem.W.codeIn K cd27 "series_joined" = true)
    (k27 : PySem.W.keepIn K (.ref f27) = true)
    (a28 : PySem.W.nsIn K mainGlobals "powers_of" = some (some (.ref f28)))
    (l28 : K.lookup f28 = some ⟨oc28, od28, .func (PySem.W.fnOf "powers_of" "powers_of" (defArgs s_powers_of) (defBody s_powers_of) (defScope s_powers_of) .none kV28 dc28 pm28 an28 cd28 ct28), sl28⟩)
    (c28 : PySem.W.codeIn K cd28 "powers_of" = true)
    (k28 : PySem.W.keepIn K (.ref f28) = true)
    (a29 : PySem.W.nsIn K mainGlobals "part_of" = some (some (.ref f29)))
    (l29 : K.lookup f29 = some ⟨oc29, od29, .func (PySem.W.fnOf "part_of" "part_of" (defArgs s_part_of) (defBody s_part_of) (defScope s_part_of) .none kV29 dc29 pm29 an29 cd29 ct29), sl29⟩)
    (c29 : PySem.W.codeIn K cd29 "part_of" = true)
    (k29 : PySem.W.keepIn K (.ref f29) = true)
    (a30 : PySem.W.nsIn K mainGlobals "series_raised" = some (some (.ref f30)))
    (l30 : K.lookup f30 = some ⟨oc30, od30, .func (PySem.W.fnOf "series_raised" "series_raised" (defArgs s_series_raised) (defBody s_series_raised) (defScope s_series_raised) .none kV30 dc30 pm30 an30 cd30 ct30), sl30⟩)
    (c30 : PySem.W.codeIn K cd30 "series_raised" = true)
    (k30 : PySem.W.keepIn K (.ref f30) = true)
    (a31 : PySem.W.nsIn K mainGlobals "series_of_sums" = some (some (.ref f31)))
    (l31 : K.lookup f31 = some ⟨oc31, od31, .func (PySem.W.fnOf "series_of_sums" "series_of_sums" (defArgs s_series_of_sums) (defBody s_series_of_sums) (defScope s_series_of_sums) .none kV31 dc31 pm31 an31 cd31 ct31), sl31⟩)
    (c31 : PySem.W.codeIn K cd31 "series_of_sums" = true)
    (k31 : PySem.W.keepIn K (.ref f31) = true)
    (a32 : PySem.W.nsIn K mainGlobals "sums_repeated" = some (some (.ref f32)))
    (l32 : K.lookup f32 = some ⟨oc32, od32, .func (PySem.W.fnOf "sums_repeated" "sums_repeated" (defArgs s_sums_repeated) (defBody s_sums_repeated) (defScope s_sums_repeated) .none kV32 dc32 pm32 an32 cd32 ct32), sl32⟩)
    (c32 : PySem.W.codeIn K cd32 "sums_repeated" = true)
    (k32 : PySem.W.keepIn K (.ref f32) = true)
    (a33 : PySem.W.nsIn K mainGlobals "_law_number" = some (some (.ref f33)))
    (l33 : K.lookup f33 = some ⟨oc33, od33, .func (PySem.W.fnOf "_law_number" "_law_number" (defArgs s__law_number) (defBody s__law_number) (defScope s__law_number) .none kV33 dc33 pm33 an33 cd33 ct33), sl33⟩)
    (c33 : PySem.W.codeIn K cd33 "_law_number" = true)
    (k33 : PySem.W.keepIn K (.ref f33) = true)
    (a34 : PySem.W.nsIn K mainGlobals "_law_pairs" = some (some (.ref f34)))
    (l34 : K.lookup f34 = some ⟨oc34, od34, .func (PySem.W.fnOf "_law_pairs" "_law_pairs" (defArgs s__law_pairs) (defBody s__law_pairs) (defScope s__law_pairs) .none kV34 dc34 pm34 an34 cd34 ct34), sl34⟩)
    (c34 : PySem.W.codeIn K cd34 "_law_pairs" = true)
    (k34 : PySem.W.keepIn K (.ref f34) = true)
    (a35 : PySem.W.nsIn K mainGlobals "add_longer" = some (some (.ref f35)))
    (l35 : K.lookup f35 = some ⟨oc35, od35, .func (PySem.W.fnOf "add_longer" "add_longer" (defArgs s_add_longer) (defBody s_add_longer) (defScope s_add_longer) .none kV35 dc35 pm35 an35 cd35 ct35), sl35⟩)
    (c35 : PySem.W.codeIn K cd35 "add_longer" = true)
    (k35 : PySem.W.keepIn K (.ref f35) = true)
    (a36 : PySem.W.nsIn K mainGlobals "laid_counts" = some (some (.ref f36)))
    (l36 : K.lookup f36 = some ⟨oc36, od36, .func (PySem.W.fnOf "laid_counts" "laid_counts" (defArgs s_laid_counts) (defBody s_laid_counts) (defScope s_laid_counts) .none kV36 dc36 pm36 an36 cd36 ct36), sl36⟩)
    (c36 : PySem.W.codeIn K cd36 "laid_counts" = true)
    (k36 : PySem.W.keepIn K (.ref f36) = true)
    (a37 : PySem.W.nsIn K mainGlobals "laid_together" = some (some (.ref f37)))
    (l37 : K.lookup f37 = some ⟨oc37, od37, .func (PySem.W.fnOf "laid_together" "laid_together" (defArgs s_laid_together) (defBody s_laid_together) (defScope s_laid_together) .none kV37 dc37 pm37 an37 cd37 ct37), sl37⟩)
    (c37 : PySem.W.codeIn K cd37 "laid_together" = true)
    (k37 : PySem.W.keepIn K (.ref f37) = true)
    (a38 : PySem.W.nsIn K mainGlobals "law" = some (some (.ref f38)))
    (l38 : K.lookup f38 = some ⟨oc38, od38, .func (PySem.W.fnOf "law" "law" (defArgs s_law) (defBody s_law) (defScope s_law) .none kV38 dc38 pm38 an38 cd38 ct38), sl38⟩)
    (c38 : PySem.W.codeIn K cd38 "law" = true)
    (k38 : PySem.W.keepIn K (.ref f38) = true)
    (y0 : PySem.W.nsIn K mainGlobals "turnwords_turning" = some (some (.ref f5)))
    (v0 : PySem.W.nsIn K mainGlobals "MOST_BOTH" = some (some (.int 7 t0)))
    (v1 : PySem.W.nsIn K mainGlobals "MOST_DEPTH" = some (some (.int 5 t1)))
    (v2 : PySem.W.nsIn K mainGlobals "MOST_LETTERS" = some (some (.int 4 t2)))
    (z0 : PySem.W.nsIn K mainGlobals "abs" = some none)
    (z1 : PySem.W.nsIn K mainGlobals "any" = some none)
    (z2 : PySem.W.nsIn K mainGlobals "dict" = some none)
    (z3 : PySem.W.nsIn K mainGlobals "divmod" = some none)
    (z4 : PySem.W.nsIn K mainGlobals "enumerate" = some none)
    (z5 : PySem.W.nsIn K mainGlobals "int" = some none)
    (z6 : PySem.W.nsIn K mainGlobals "len" = some none)
    (z7 : PySem.W.nsIn K mainGlobals "list" = some none)
    (z8 : PySem.W.nsIn K mainGlobals "max" = some none)
    (z9 : PySem.W.nsIn K mainGlobals "min" = some none)
    (z10 : PySem.W.nsIn K mainGlobals "range" = some none)
    (z11 : PySem.W.nsIn K mainGlobals "sorted" = some none)
    (z12 : PySem.W.nsIn K mainGlobals "sum" = some none)
    (z13 : PySem.W.nsIn K mainGlobals "tuple" = some none)
    (z14 : PySem.W.nsIn K mainGlobals "zip" = some none)
    (ltb : PySem.W.tabIn K lamMaker = some (lc0, lP0))
    : ∃ fd : FuncData, (∀ (s : Shared) (v : Value), BindsTo s fd ⟨[v], []⟩ [("_law_script", v)]) ∧ ∀ base : Heap, K.In base → base.Ns mainGlobals mg → HasTB K mg base → FnG l.prog w K mg base 15 fa fd ["_law_script"] D_law := by
  have e := hfa.symm.trans (PySem.W.mg_of X G a38)
  cases e
  have F0 := fun_mk (st := s__law_folded) l0 c0 k0
  have F1 := fun_mk (st := s__law_box) l1 c1 k1
  have F2 := fun_mk (st := s__law_take) l2 c2 k2
  have F3 := fun_mk (st := s__law_sizes) l3 c3 k3
  have F4 := fun_mk (st := s_next_turnword) l4 c4 k4
  have F5 := fun_mk (st := s_turnwords) l5 c5 k5
  have F6 := fun_mk (st := s_Ground_init) l6 c6 k6
  have F7 := fun_mk (st := s__law_word) l7 c7 k7
  have F8 := fun_mk (st := s_longer_words) l8 c8 k8
  have F9 := fun_mk (st := s_Ground_words) l9 c9 k9
  have F10 := fun_mk (st := s_list_of_series) l10 c10 k10
  have F11 := fun_mk (st := s_bare_series) l11 c11 k11
  have F12 := fun_mk (st := s_unit_series) l12 c12 k12
  have F13 := fun_mk (st := s_Ground_depth) l13 c13 k13
  have F14 := fun_mk (st := s_with_letter) l14 c14 k14
  have F15 := fun_mk (st := s_with_back) l15 c15 k15
  have F16 := fun_mk (st := s_series_of_word) l16 c16 k16
  have F17 := fun_mk (st := s_scattered) l17 c17 k17
  have F18 := fun_mk (st := s_without_noughts) l18 c18 k18
  have F19 := fun_mk (st := s_series_added) l19 c19 k19
  have F20 := fun_mk (st := s_chosen) l20 c20 k20
  have F21 := fun_mk (st := s_raised_by_powers) l21 c21 k21
  have F22 := fun_mk (st := s_is_bare) l22 c22 k22
  have F23 := fun_mk (st := s_many_words) l23 c23 k23
  have F24 := fun_mk (st := s_scaled_row) l24 c24 k24
  have F25 := fun_mk (st := s_add_words) l25 c25 k25
  have F26 := fun_mk (st := s_add_joined) l26 c26 k26
  have F27 := fun_mk (st := s_series_joined) l27 c27 k27
  have F28 := fun_mk (st := s_powers_of) l28 c28 k28
  have F29 := fun_mk (st := s_part_of) l29 c29 k29
  have F30 := fun_mk (st := s_series_raised) l30 c30 k30
  have F31 := fun_mk (st := s_series_of_sums) l31 c31 k31
  have F32 := fun_mk (st := s_sums_repeated) l32 c32 k32
  have F33 := fun_mk (st := s__law_number) l33 c33 k33
  have F34 := fun_mk (st := s__law_pairs) l34 c34 k34
  have F35 := fun_mk (st := s_add_longer) l35 c35 k35
  have F36 := fun_mk (st := s_laid_counts) l36 c36 k36
  have F37 := fun_mk (st := s_laid_together) l37 c37 k37
  have F38 := fun_mk (st := s_law) l38 c38 k38
  have b0 := F0.binds (ps := p__law_folded) fun _ _ _ _ _ _ us hl => match us, hl with | [_, _], _ => rfl
  have b1 := F1.binds (ps := p__law_box) fun _ _ _ _ _ _ us hl => match us, hl with | [_, _], _ => rfl
  have b2 := F2.binds (ps := p__law_take) fun _ _ _ _ _ _ us hl => match us, hl with | [_, _], _ => rfl
  have b3 := F3.binds (ps := p__law_sizes) fun _ _ _ _ _ _ us hl => match us, hl with | [_], _ => rfl
  have b4 := F4.binds (ps := p_next_turnword) fun _ _ _ _ _ _ us hl => match us, hl with | [_, _, _], _ => rfl
  have b5 := F5.binds (ps := p_turnwords) fun _ _ _ _ _ _ us hl => match us, hl with | [_, _], _ => rfl
  have b6 := F6.binds (ps := p_Ground_init) fun _ _ _ _ _ _ us hl => match us, hl with | [_, _, _], _ => rfl
  have b7 := F7.binds (ps := p__law_word) fun _ _ _ _ _ _ us hl => match us, hl with | [_, _, _], _ => rfl
  have b8 := F8.binds (ps := p_longer_words) fun _ _ _ _ _ _ us hl => match us, hl with | [_, _], _ => rfl
  have b9 := F9.binds (ps := p_Ground_words) fun _ _ _ _ _ _ us hl => match us, hl with | [_], _ => rfl
  have b10 := F10.binds (ps := p_list_of_series) fun _ _ _ _ _ _ us hl => match us, hl with | [_, _], _ => rfl
  have b11 := F11.binds (ps := p_bare_series) fun _ _ _ _ _ _ us hl => match us, hl with | [_], _ => rfl
  have b12 := F12.binds (ps := p_unit_series) fun _ _ _ _ _ _ us hl => match us, hl with | [_], _ => rfl
  have b13 := F13.binds (ps := p_Ground_depth) fun _ _ _ _ _ _ us hl => match us, hl with | [_], _ => rfl
  have b14 := F14.binds (ps := p_with_letter) fun _ _ _ _ _ _ us hl => match us, hl with | [_, _], _ => rfl
  have b15 := F15.binds (ps := p_with_back) fun _ _ _ _ _ _ us hl => match us, hl with | [_, _], _ => rfl
  have b16 := F16.binds (ps := p_series_of_word) fun _ _ _ _ _ _ us hl => match us, hl with | [_, _], _ => rfl
  have b17 := F17.binds (ps := p_scattered) fun _ _ _ _ _ _ us hl => match us, hl with | [_, _], _ => rfl
  have b18 := F18.binds (ps := p_without_noughts) fun _ _ _ _ _ _ us hl => match us, hl with | [_], _ => rfl
  have b19 := F19.binds (ps := p_series_added) fun _ _ _ _ _ _ us hl => match us, hl with | [_, _, _], _ => rfl
  have b20 := F20.binds (ps := p_chosen) fun _ _ _ _ _ _ us hl => match us, hl with | [_, _], _ => rfl
  have b21 := F21.binds (ps := p_raised_by_powers) fun _ _ _ _ _ _ us hl => match us, hl with | [_, _, _], _ => rfl
  have b22 := F22.binds (ps := p_is_bare) fun _ _ _ _ _ _ us hl => match us, hl with | [_], _ => rfl
  have b23 := F23.binds (ps := p_many_words) fun _ _ _ _ _ _ us hl => match us, hl with | [_], _ => rfl
  have b24 := F24.binds (ps := p_scaled_row) fun _ _ _ _ _ _ us hl => match us, hl with | [_, _], _ => rfl
  have b25 := F25.binds (ps := p_add_words) fun _ _ _ _ _ _ us hl => match us, hl with | [_, _, _], _ => rfl
  have b26 := F26.binds (ps := p_add_joined) fun _ _ _ _ _ _ us hl => match us, hl with | [_, _, _], _ => rfl
  have b27 := F27.binds (ps := p_series_joined) fun _ _ _ _ _ _ us hl => match us, hl with | [_, _], _ => rfl
  have b28 := F28.binds (ps := p_powers_of) fun _ _ _ _ _ _ us hl => match us, hl with | [_], _ => rfl
  have b29 := F29.binds (ps := p_part_of) fun _ _ _ _ _ _ us hl => match us, hl with | [_], _ => rfl
  have b30 := F30.binds (ps := p_series_raised) fun _ _ _ _ _ _ us hl => match us, hl with | [_, _], _ => rfl
  have b31 := F31.binds (ps := p_series_of_sums) fun _ _ _ _ _ _ us hl => match us, hl with | [_, _], _ => rfl
  have b32 := F32.binds (ps := p_sums_repeated) fun _ _ _ _ _ _ us hl => match us, hl with | [_, _, _], _ => rfl
  have b33 := F33.binds (ps := p__law_number) fun _ _ _ _ _ _ us hl => match us, hl with | [_], _ => rfl
  have b34 := F34.binds (ps := p__law_pairs) fun _ _ _ _ _ _ us hl => match us, hl with | [_, _, _], _ => rfl
  have b35 := F35.binds (ps := p_add_longer) fun _ _ _ _ _ _ us hl => match us, hl with | [_, _, _], _ => rfl
  have b36 := F36.binds (ps := p_laid_counts) fun _ _ _ _ _ _ us hl => match us, hl with | [_, _], _ => rfl
  have b37 := F37.binds (ps := p_laid_together) fun _ _ _ _ _ _ us hl => match us, hl with | [_, _], _ => rfl
  have b38 := F38.binds (ps := p_law) fun _ _ _ _ _ _ us hl => match us, hl with | [_], _ => rfl
  let T : Facts K mg := ⟨C0, ca0, ⟨cp0, ch0, co0, cs0⟩, PySem.W.mg_of X G ca0, cn0x0, cn0x1, cn0x2, cn0x3, cn0x4, f0, _, F0, b0, PySem.W.mg_of X G a0, f1, _, F1, b1, PySem.W.mg_of X G a1, f2, _, F2, b2, PySem.W.mg_of X G a2, f3, _, F3, b3, PySem.W.mg_of X G a3, f4, _, F4, b4, PySem.W.mg_of X G a4, f5, _, F5, b5, PySem.W.mg_of X G a5, f6, _, F6, b6, ⟨cm0, a6, i6, ck0⟩, f7, _, F7, b7, PySem.W.mg_of X G a7, f8, _, F8, b8, PySem.W.mg_of X G a8, f9, _, F9, b9, ⟨a9, i9, k9⟩, f10, _, F10, b10, PySem.W.mg_of X G a10, f11, _, F11, b11, PySem.W.mg_of X G a11, f12, _, F12, b12, PySem.W.mg_of X G a12, f13, _, F13, b13, ⟨a13, i13, k13⟩, f14, _, F14, b14, PySem.W.mg_of X G a14, f15, _, F15, b15, PySem.W.mg_of X G a15, f16, _, F16, b16, PySem.W.mg_of X G a16, f17, _, F17, b17, PySem.W.mg_of X G a17, f18, _, F18, b18, PySem.W.mg_of X G a18, f19, _, F19, b19, PySem.W.mg_of X G a19, f20, _, F20, b20, PySem.W.mg_of X G a20, f21, _, F21, b21, PySem.W.mg_of X G a21, f22, _, F22, b22, PySem.W.mg_of X G a22, f23, _, F23, b23, PySem.W.mg_of X G a23, f24, _, F24, b24, PySem.W.mg_of X G a24, f25, _, F25, b25, PySem.W.mg_of X G a25, f26, _, F26, b26, PySem.W.mg_of X G a26, f27, _, F27, b27, PySem.W.mg_of X G a27, f28, _, F28, b28, PySem.W.mg_of X G a28, f29, _, F29, b29, PySem.W.mg_of X G a29, f30, _, F30, b30, PySem.W.mg_of X G a30, f31, _, F31, b31, PySem.W.mg_of X G a31, f32, _, F32, b32, PySem.W.mg_of X G a32, f33, _, F33, b33, PySem.W.mg_of X G a33, f34, _, F34, b34, PySem.W.mg_of X G a34, f35, _, F35, b35, PySem.W.mg_of X G a35, f36, _, F36, b36, PySem.W.mg_of X G a36, f37, _, F37, b37, PySem.W.mg_of X G a37, fa, _, F38, b38, PySem.W.mg_of X G a38, lc0, lP0, ltb, a37, PySem.W.mg_of X G y0, t0, PySem.W.mg_of X G v0, t1, PySem.W.mg_of X G v1, t2, PySem.W.mg_of X G v2, PySem.W.mg_none_of X G z0, PySem.W.mg_none_of X G z1, PySem.W.mg_none_of X G z2, PySem.W.mg_none_of X G z3, PySem.W.mg_none_of X G z4, PySem.W.mg_none_of X G z5, PySem.W.mg_none_of X G z6, PySem.W.mg_none_of X G z7, PySem.W.mg_none_of X G z8, PySem.W.mg_none_of X G z9, PySem.W.mg_none_of X G z10, PySem.W.mg_none_of X G z11, PySem.W.mg_none_of X G z12, PySem.W.mg_none_of X G z13, PySem.W.mg_none_of X G z14⟩
  exact ⟨_, fun s v => .of_eq rfl, fun base _ _ (_ : HasTB K mg base) => ok_law T⟩
end Law

namespace Law
open PySem PySem.Spec PyProof.Rows L2 DL
local macro_rules | `(tactic| walk_at "w") => `(tactic| conv => whnf)
local macro_rules | `(tactic| walk_at "s") => `(tactic| (refine ⟨?_⟩; conv => whnf))
local macro_rules | `(tactic| walk_at "z") => `(tactic| (refine small ?_; simp only [List.length_map, List.length_append, List.length_reverse, List.length_cons, List.length_nil]; omega))
local macro_rules | `(tactic| walk_at "q") => `(tactic| (refine ⟨(okN_tints _).ok, (okN_tints _).ok, ?_⟩; rw [eqD_tints]))
theorem c_box (cells : List Int) (k : Int) (l : LH) (Q : DK) (hk : 0 ≤ k) (hk2 : k < 1000)
    (h : ∀ a l', l a = none → Box l' a 0 → Oth l l' a → Q (.ref a) l') : callD D__law_box_m [.lst (cells.map D.int), .int k] l Q := by
  have key : ∀ c0 c1 : Int, 0 ≤ c0 → 0 ≤ c1 → c1 < 2147483647 → newL (.lst [.int c0, .int c1, .int 0]) l Q := fun c0 c1 h0 h1 h2 a ha => h a _ ha (Box.new h0 h1 h2) Oth.upd
  refine ⟨rfl, ?_⟩
  walk_at "w"
  have rest : ∀ c : Int, T__law_box_m_2 ⟨fun _ l => Q .non l, Q, fun _ _ => False, fun _ _ => False⟩ [some (.lst (cells.map D.int)), some (.int k), some (.int c)] l := by
    intro c
    walk_at "w"
    refine ⟨⟨by decide, by decide, by decide⟩, ?_⟩
    walk_at "w"
    refine ⟨mulR (Int.lt_of_lt_of_le (by decide) (b01 _).1) (Int.lt_of_le_of_lt (b01 _).2 (by decide)), ?_⟩
    walk_at "w"
    refine ⟨by decide, ?_⟩
    walk_at "w"
    refine ⟨mulL (by decide) (by decide), ?_⟩
    walk_at "w"
    refine ⟨mulR (by decide) (by decide), ?_⟩
    walk_at "w"
    refine ⟨by decide, ?_⟩
    walk_at "w"
    refine ⟨by show 3 ≤ sizeLine; decide, ?_⟩
    refine key _ _ ?_ (Int.emod_nonneg _ (by decide)) (Int.emod_lt_of_pos _ (by decide))
    refine Int.mul_nonneg ?_ ?_
    · split <;> omega
    · exact (b01 _).1
  refine ifB_dec (fun hlt => ?_) (fun _ => ?_)
  · obtain ⟨c, hc, _⟩ := atI_ints hk (by simpa using hlt)
    exact ⟨_, hc, ⟨rest c⟩⟩
  · exact ⟨rest 0⟩
theorem c_take {a : Addr} {n : Int} {k : Nat} {l : LH} {Q : DK} (hb : Box l a k) (hn : 0 < n) (hn2 : n < 1073741824) (hk : k < 2 ^ 40)
    (h : ∀ r l', 0 ≤ r → r < n → Box l' a (k + 1) → Oth l l' a → Q (.int r) l') : callD D__law_take [.ref a, .int n] l Q := by
  obtain ⟨o, ho, c0, c1, c2, rfl, h0, h1, h1', h2, h2'⟩ := hb
  refine ⟨rfl, ?_⟩
  walk_at "w"
  refine ⟨_, ho, .int c0, rfl, ?_⟩
  walk_at "w"
  refine ifB_dec (fun hlt => ?_) (fun hlt => ?_)
  · walk_at "w"
    refine ⟨_, ho, .int c0, rfl, ?_⟩
    walk_at "w"
    refine ⟨⟨hn, hn2⟩, ?_⟩
    walk_at "w"
    refine ⟨rfl, ?_⟩
    walk_at "w"
    refine ⟨_, ho, 0, rfl, ?_⟩
    walk_at "w"
    refine h _ _ (Int.emod_nonneg _ (by omega)) (Int.emod_lt_of_pos _ hn) ⟨_, uL_same, c0 / n, c1, c2, rfl, Int.ediv_nonneg h0 (by omega), h1, h1', h2, by omega⟩ Oth.upd
  · walk_at "s"
    refine ⟨_, ho, .int c2, rfl, ?_⟩
    walk_at "w"
    refine ⟨_, ho, 2, rfl, ?_⟩
    generalize hl : uL l a _ = l1
    have ho1 : l1 a = some (.lst [.int c0, .int c1, .int (c2 + 1)]) := by rw [← hl]; exact uL_same
    walk_at "s"
    refine ⟨_, ho1, .int (c2 + 1), rfl, ?_⟩
    walk_at "w"
    refine ⟨_, ho1, .int (c2 + 1), rfl, ?_⟩
    walk_at "w"
    refine ⟨mulL (by omega) (by omega), ?_⟩
    generalize hs : (c2 + 1) * (c2 + 1) = step
    walk_at "w"
    walk_at "s"
    refine ⟨_, ho1, .int c1, rfl, ?_⟩
    walk_at "w"
    refine ⟨_, ho1, .int (c2 + 1), rfl, ?_⟩
    walk_at "w"
    refine ⟨mulL (by decide) (by decide), ?_⟩
    walk_at "w"
    refine ⟨mulL (by omega) (by omega), ?_⟩
    walk_at "w"
    refine ⟨by decide, ?_⟩
    generalize he : (c1 + 39373 * (c2 + 1)) * (69621 + step) % 2147483587 = once
    have e1 : 0 ≤ once := by rw [← he]; exact Int.emod_nonneg _ (by decide)
    have e2 : once < 2147483587 := by rw [← he]; exact Int.emod_lt_of_pos _ (by decide)
    walk_at "w"
    walk_at "s"
    refine ⟨by decide, ?_⟩
    walk_at "w"
    refine ⟨mulL (by omega) (by omega), ?_⟩
    walk_at "w"
    refine ⟨_, ho1, .int (c2 + 1), rfl, ?_⟩
    walk_at "w"
    refine ⟨by decide, ?_⟩
    generalize hf : (once * (once % 30011 + 5) + (c2 + 1)) % 2147483563 = twice
    have f1 : 0 ≤ twice := by rw [← hf]; exact Int.emod_nonneg _ (by decide)
    have f2 : twice < 2147483563 := by rw [← hf]; exact Int.emod_lt_of_pos _ (by decide)
    walk_at "w"
    walk_at "s"
    refine ⟨by decide, ?_⟩
    walk_at "w"
    refine ⟨mulL (by omega) (by omega), ?_⟩
    walk_at "w"
    refine ⟨by decide, ?_⟩
    walk_at "w"
    refine ⟨⟨by decide, by decide⟩, ?_⟩
    walk_at "w"
    refine ⟨hn, ?_⟩
    refine h _ l1 (Int.emod_nonneg _ (by omega)) (Int.emod_lt_of_pos _ hn) ⟨_, ho1, c0, c1, c2 + 1, rfl, h0, h1, h1', by omega, by omega⟩ (by rw [← hl]; exact Oth.upd)
/-- the cells -/
theorem folded_loop (ns : List Int) (n : Int) (hn : 0 < n) (hn2 : n < 1000) (a : Addr) (l0 : LH) (E : DEnds)
    (hE : ∀ (cs : List Int) e3 e4, cs.length = n.toNat → E.nx [some (.scr ns), some (.int n), some (.ref a), e3, e4] (uL l0 a (.lst (cs.map D.int)))) :
    ∀ (xs : List Int) (i : Nat) (cs : List Int) e3 e4, i + xs.length < 1000 → cs.length = n.toNat →
      forL (gTup 2 (gCons (gName 3) (gCons (gName 4) gNil))) (nS B__law_folded_1) (enumD i (xs.map D.int)) E [some (.scr ns), some (.int n), some (.ref a), e3, e4] (uL l0 a (.lst (cs.map D.int)))
  | [], _, cs, e3, e4, _, hc => hE cs e3 e4 hc
  | x :: xs, i, cs, e3, e4, hi, hc => by
    have h0 : 0 ≤ (i : Int) % n := Int.emod_nonneg _ (by omega)
    have h1 : (i : Int) % n < cs.length := by
      have := Int.emod_lt_of_pos (i : Int) hn
      omega
    obtain ⟨c, hc1, _⟩ := atI_ints h0 h1
    refine ⟨rfl, ?_⟩
    walk_at "w"
    walk_at "s"
    refine ⟨hn, ?_⟩
    walk_at "w"
    refine ⟨_, uL_same, _, hc1, ?_⟩
    walk_at "w"
    rw [List.length_cons] at hi
    refine ⟨mulR (by omega) (by omega), ?_⟩
    walk_at "w"
    refine ⟨hn, ?_⟩
    walk_at "w"
    refine ⟨_, uL_same, ((i : Int) % n).toNat, ?_, ?_⟩
    · unfold ixN
      rw [List.length_map, if_pos h0, if_pos h1]
    · rw [uL_uL, ← List.map_set]
      exact folded_loop ns n hn hn2 a l0 E hE xs (i + 1) _ _ _ (by omega) (by rw [List.length_set]; exact hc)
theorem c_folded (ns : List Int) (n : Int) (hn : 0 < n) (hn2 : n < 60) (hl : ns.length ≤ 63) (l : LH) (Q : DK) (h : ∀ cs : List Int, cs.length ≤ 63 → Q (.lst (cs.map D.int)) l) : callD D__law_folded [.scr ns, .int n] l Q := by
  refine ⟨rfl, ?_⟩
  walk_at "w"
  intro a ha
  have fin : ∀ (cs : List Int) e3 e4, cs.length ≤ 63 → T__law_folded_3 ⟨fun _ l => Q .non l, Q, fun _ _ => False, fun _ _ => False⟩ [some (.scr ns), some (.int n), some (.ref a), e3, e4] (uL l a (.lst (cs.map D.int))) := by
    intro cs e3 e4 hc
    refine ⟨_, uL_same, ?_⟩
    have e : dL (uL l a (.lst (cs.map D.int))) a = l := by
      funext b
      unfold dL
      by_cases hb : b = a
      · rw [if_pos hb, hb, ha]
      · rw [if_neg hb, uL_ne hb]
    rw [e]
    exact h cs hc
  rw [cutD_head ns n (by omega)]
  walk_at "w"
  refine ⟨?_⟩
  show forL _ _ (enumD 0 (cutD (ns.map D.int) (some n) (some 63))) _ _ _
  by_cases hs : ns.length ≤ n.toNat
  · have e : cutD (ns.map D.int) (some n) (some 63) = [] := by
      obtain ⟨j, rfl⟩ := Int.eq_ofNat_of_zero_le (show 0 ≤ n by omega)
      have hj : ns.length ≤ j := by simpa using hs
      unfold DL.cutD
      rw [show (some (63 : Int)) = some ((63 : Nat) : Int) from rfl, HT.sIx_nat, HT.sIx_nat, List.length_map, List.drop_of_length_le (by rw [List.length_map]; omega), List.take_nil]
    rw [e]
    exact ⟨fin _ _ _ (by rw [List.length_take]; omega)⟩
  · have e : ∃ xs : List Int, xs.length ≤ 63 ∧ cutD (ns.map D.int) (some n) (some 63) = xs.map D.int := by
      unfold DL.cutD
      rw [List.length_map, ← List.map_drop, ← List.map_take]
      exact ⟨_, by rw [List.length_take, List.length_drop]; omega, rfl⟩
    obtain ⟨xs, hx, e⟩ := e
    rw [e]
    refine folded_loop ns n hn (by omega) a l ⟨nS T__law_folded_3 ⟨fun _ l => Q .non l, Q, fun _ _ => False, fun _ _ => False⟩, Q, fun _ _ => False, fun _ _ => False⟩ (fun cs e3 e4 hc => ⟨fin cs e3 e4 (by omega)⟩) xs 0 _ _ _ (by omega) ?_
    rw [List.length_take]
    omega
/-! turns of plain words -/
def tnL (ws : List Int) : List (List Int) := (List.range ws.length).map fun k => ws.drop k ++ ws.take k
theorem rgD_len (lo : Int) (n : Nat) : (rgD lo n).length = n := by unfold rgD; rw [List.length_map, List.length_range]
def PlainOf (ws : List Int) (n : Int) : Prop := ∀ w ∈ ws, 1 ≤ w ∧ w ≤ n
theorem PlainOf.append {ws us : List Int} {n : Int} (h : PlainOf ws n) (h' : PlainOf us n) : PlainOf (ws ++ us) n := fun w hw => (List.mem_append.mp hw).elim (h w) (h' w)
theorem PlainOf.take {ws : List Int} {n : Int} (h : PlainOf ws n) (k : Nat) : PlainOf (ws.take k) n := fun w hw => h w (List.mem_of_mem_take hw)
theorem PlainOf.drop {ws : List Int} {n : Int} (h : PlainOf ws n) (k : Nat) : PlainOf (ws.drop k) n := fun w hw => h w (List.mem_of_mem_drop hw)
theorem PlainOf.le {ws : List Int} {n m : Int} (h : PlainOf ws n) (hm : n ≤ m) : PlainOf ws m := fun w hw => ⟨(h w hw).1, Int.le_trans (h w hw).2 hm⟩
def isTwL (ws : List Int) : Bool := decide (0 < ws.length) && ((tnL ws).drop 1).all fun t => HT.lexLt ws t
def pw (q : List Int) (n : Nat) : List Int := (List.replicate n q).flatten
theorem rep_map' (m : Nat) (ws : List Int) : (List.replicate m (ws.map D.int)).flatten = (pw ws m).map D.int := by unfold pw; rw [List.map_flatten, List.map_replicate]
theorem rgD_succ (lo : Int) (n : Nat) : rgD lo (n + 1) = .int lo :: rgD (lo + 1) n := by
  unfold rgD
  rw [List.range_succ_eq_map, List.map_cons, List.map_map]
  congr 1
  · simp
  · refine List.map_congr_left fun k _ => ?_
    show D.int (lo + ((k + 1 : Nat) : Int)) = D.int (lo + 1 + (k : Nat))
    congr 1
    omega
/-! the turnwords, one behind the other -/
def dropMaxR (letters : Int) : List Int → List Int
  | [] => []
  | x :: r => if x = letters then dropMaxR letters r else x :: r
def nextL (letters : Int) (size : Nat) (w : List Int) : List Int := match dropMaxR letters ((pw w size).take size).reverse with
  | [] => []
  | x :: r => r.reverse ++ [x + 1]
theorem dropMaxR_len (letters : Int) : ∀ r : List Int, (dropMaxR letters r).length ≤ r.length
  | [] => Nat.le_refl _
  | x :: r => by
    have := dropMaxR_len letters r
    unfold dropMaxR
    split <;> simp only [List.length_cons] <;> omega
theorem nextL_len (letters : Int) (size : Nat) (w : List Int) : (nextL letters size w).length ≤ size := by
  have h := dropMaxR_len letters ((pw w size).take size).reverse
  have h2 : ((pw w size).take size).reverse.length ≤ size := by rw [List.length_reverse, List.length_take]; omega
  unfold nextL
  split
  · exact Nat.zero_le _
  · rename_i x r e
    rw [e, List.length_cons] at h
    rw [List.length_append, List.length_reverse, List.length_singleton]
    omega
theorem cutD_init (xs : List D) (x : D) : DL.cutD (xs ++ [x]) none (some (-1)) = xs := by
  unfold DL.cutD
  have e : HT.sIx (xs ++ [x]).length (xs ++ [x]).length (some (-1)) = xs.length := by
    show (if (-1 : Int) < 0 then ((-1 : Int) + ((xs ++ [x]).length : Int)).toNat else min (-1 : Int).toNat (xs ++ [x]).length) = _
    rw [if_pos (by decide), List.length_append, List.length_singleton]
    omega
  rw [e, HT.sIx_none, List.drop_zero, Nat.sub_zero, List.take_left' rfl]
theorem c_next {letters : Int} {size : Nat} {w : List Int} (hw : w.length ≤ 100) (hs : size ≤ 100) {l : LH} {Q : DK} (h : Q (.tup ((nextL letters size w).map D.int)) l) : callD D_next_turnword [.tup (w.map D.int), .int letters, .int size] l Q := by
  refine ⟨rfl, ?_⟩
  walk_at "w"
  have hm : w.length * size ≤ 100 * 100 := Nat.mul_le_mul hw hs
  refine ⟨⟨by omega, by omega, ?_⟩, ?_⟩
  · rw [List.length_map, Int.toNat_natCast]
    exact small (by omega)
  rw [Int.toNat_natCast, rep_map']
  walk_at "w"
  rw [cutD_to, ← List.map_take]
  walk_at "s"
  have main : ∀ r : List Int, dropMaxR letters r = dropMaxR letters ((pw w size).take size).reverse → (∀ x r', r = x :: r' → x ≠ letters) → T_next_turnword_3 (E0 Q) [some (.tup (w.map D.int)), some (.int letters), some (.int size), some (.tup (r.reverse.map D.int))] l := by
    intro r hr hx
    walk_at "w"
    rw [List.length_map, List.length_reverse]
    refine ⟨(okN_int _).ok, (okN_int _).ok, ?_⟩
    rw [eqD_int]
    cases r with
    | nil =>
      refine ifB_true ?_
      walk_at "w"
      refine ⟨Nat.zero_le _, ?_⟩
      unfold nextL at h
      rw [← hr] at h
      exact h
    | cons x r =>
      refine ifB_by (fun e => absurd (of_decide_eq_true e) (by simp; omega)) (fun _ => ?_)
      walk_at "w"
      walk_at "s"
      have e1 : (x :: r).reverse.map D.int = r.reverse.map D.int ++ [.int x] := by rw [List.reverse_cons, List.map_append]; rfl
      rw [e1, cutD_init]
      refine ⟨_, atI_last _ _, ?_⟩
      walk_at "w"
      refine ⟨by show 1 ≤ sizeLine; decide, ?_⟩
      walk_at "w"
      refine ⟨?_, ?_⟩
      · have := dropMaxR_len letters ((pw w size).take size).reverse
        rw [← hr] at this
        have e2 : dropMaxR letters (x :: r) = x :: r := by unfold dropMaxR; rw [if_neg (hx x r rfl)]
        rw [e2, List.length_cons, List.length_reverse, List.length_take] at this
        refine small ?_
        rw [List.length_map, List.length_reverse, List.length_singleton]
        omega
      · have e2 : dropMaxR letters (x :: r) = x :: r := by unfold dropMaxR; rw [if_neg (hx x r rfl)]
        unfold nextL at h
        rw [← hr, e2] at h
        replace h : Q (.tup ((r.reverse ++ [x + 1]).map D.int)) l := h
        rw [List.map_append] at h
        exact h
  refine ⟨fun m env l' => l' = l ∧ ∃ r : List Int, env = [some (.tup (w.map D.int)), some (.int letters), some (.int size), some (.tup (r.reverse.map D.int))] ∧ m = r.length ∧ dropMaxR letters r = dropMaxR letters ((pw w size).take size).reverse, ⟨_, rfl, ((pw w size).take size).reverse, by rw [List.reverse_reverse]; rfl, rfl, rfl⟩, ?_⟩
  rintro m env l' ⟨rfl, r, rfl, rfl, hr⟩
  walk_at "w"
  rw [List.length_map, List.length_reverse]
  cases r with
  | nil =>
    refine ifB_false ?_
    walk_at "w"
    refine ifB_false ?_
    exact ⟨main [] hr fun x r' e => by cases e⟩
  | cons x r =>
    refine ifB_dec (fun _ => ?_) (fun hn => absurd hn (by simp))
    walk_at "w"
    have e1 : (x :: r).reverse.map D.int = r.reverse.map D.int ++ [.int x] := by rw [List.reverse_cons, List.map_append]; rfl
    refine ⟨_, by rw [e1]; exact atI_last _ _, ?_⟩
    refine ⟨(okN_int _).ok, (okN_int _).ok, ?_⟩
    rw [eqD_int]
    refine ifB_dec (fun e => ?_) (fun e => ?_)
    · refine ⟨?_⟩
      walk_at "w"
      rw [e1, cutD_init]
      refine ⟨r.length, Nat.lt_succ_self _, rfl, r, rfl, rfl, ?_⟩
      rw [← hr]
      conv => rhs; unfold dropMaxR
      rw [if_pos e]
    · exact ⟨main (x :: r) hr fun y r' q => by cases q; exact e⟩
/-- turnwords, by so many steps at most -/
def twR (letters : Int) (size : Nat) : Nat → List Int → List (List Int) → Option (List (List Int))
  | 0, _, _ => none
  | n + 1, w, acc => match w with
    | [] => some acc
    | x :: r => twR letters size n (nextL letters size (x :: r)) (if (x :: r).length = size then acc ++ [x :: r] else acc)
theorem tw_while {letters : Int} {size : Nat} (hs : size ≤ 100) {b : Addr} {E : DEnds} {l0 : LH} {ws : List (List Int)} {n : Nat} (hn : twR letters size n [1] [] = some ws) (hn2 : n ≤ 10000) (s1 : 1 ≤ size)
    (hE : E.nx [some (.int letters), some (.int size), some (.ref b), some (.tup [])] (uL l0 b (.lst (ws.map wordD)))) :
    sWhile (dTV (dGt (dCall kLen (aCons (dVar 3) aNil)) (dC (.int 0)))) (nS B_turnwords_1) E [some (.int letters), some (.int size), some (.ref b), some (.tup [.int 1])] (uL l0 b (.lst [])) := by
  refine ⟨fun m env l => m ≤ n ∧ ∃ w acc, w.length ≤ 100 ∧ acc.length + m ≤ n ∧ env = [some (.int letters), some (.int size), some (.ref b), some (.tup (w.map D.int))] ∧ l = uL l0 b (.lst (acc.map wordD)) ∧ twR letters size m w acc = some ws, ⟨n, Nat.le_refl _, [1], [], by decide, by simp, rfl, rfl, hn⟩, ?_⟩
  rintro m env l ⟨hm, w, acc, hw, hacc, rfl, rfl, he⟩
  walk_at "w"
  cases m with
  | zero => cases he
  | succ m =>
    cases w with
    | nil =>
      refine ifB_false ?_
      rw [twR] at he
      cases he
      exact hE
    | cons x r =>
      refine ifB_dec (fun _ => ?_) (fun hn => absurd hn (by simp))
      refine ⟨?_⟩
      walk_at "w"
      rw [List.length_map]
      refine ⟨(okN_int _).ok, (okN_int _).ok, ?_⟩
      rw [eqD_int]
      rw [twR] at he
      have nx := nextL_len letters size (x :: r)
      refine ifB_dec (fun e => ?_) (fun e => ?_)
      · walk_at "w"
        refine ⟨_, uL_same, _, uL_same, Nat.lt_of_le_of_lt (show _ ≤ 10000 by rw [List.length_map]; omega) (by decide), ?_⟩
        rw [uL_uL]
        walk_at "w"
        refine c_next hw hs ?_
        walk_at "w"
        rw [if_pos (by omega)] at he
        refine ⟨m, Nat.lt_succ_self _, by omega, _, acc ++ [x :: r], by omega, by rw [List.length_append, List.length_singleton]; omega, rfl, ?_, he⟩
        rw [List.map_append]
        rfl
      · walk_at "w"
        refine c_next hw hs ?_
        walk_at "w"
        rw [if_neg (by omega)] at he
        exact ⟨m, Nat.lt_succ_self _, by omega, _, acc, by omega, by omega, rfl, rfl, he⟩
/-! all words, all turnwords of a ground -/
theorem c_turnwords {letters : Int} {size : Nat} (hs : size ≤ 100) (s1 : 1 ≤ size) {ws : List (List Int)} {n : Nat} (hn : twR letters size n [1] [] = some ws) (hn2 : n ≤ 10000) {l : LH} {Q : DK} (h : Q (.lst (ws.map wordD)) l) : callD D_turnwords [.int letters, .int size] l Q := by
  refine ⟨rfl, ?_⟩
  walk_at "w"
  refine ⟨Nat.zero_le _, fun b nb => ?_⟩
  walk_at "w"
  walk_at "s"
  refine ⟨by show 1 ≤ sizeLine; decide, ⟨?_⟩⟩
  refine (show sWhile (dTV (dGt (dCall kLen (aCons (dVar 3) aNil)) (dC (.int 0)))) (nS B_turnwords_1) ⟨nS T_turnwords_4 (E0 Q), Q, fun _ _ => False, fun _ _ => False⟩ [some (.int letters), some (.int size), some (.ref b), some (.tup [.int 1])] (uL l b (.lst [])) from tw_while hs hn hn2 s1 ⟨?_⟩)
  walk_at "w"
  refine ⟨_, uL_same, ?_⟩
  rw [dL_uL' nb]
  exact h
/-- all words of so many letters -/
def expandL (letters : Nat) (ws : List (List Int)) : List (List Int) := (ws.map fun w => (List.range letters).map fun k => w ++ [((1 + k : Nat) : Int)]).flatten
def allL (letters : Nat) : Nat → List (List Int)
  | 0 => [[]]
  | n + 1 => expandL letters (allL letters n)
def dueL (letters size : Nat) : List (List Int) := (allL letters size).filter isTwL
theorem allL_word (a : Nat) : ∀ n, ∀ w ∈ allL a n, w.length = n
  | 0, w, h => by
    rw [allL, List.mem_singleton] at h
    subst h; rfl
  | n + 1, w, h => by
    rw [allL] at h
    unfold expandL at h
    obtain ⟨ws, hws, hw⟩ := List.mem_flatten.mp h
    obtain ⟨u, hu, rfl⟩ := List.mem_map.mp hws
    obtain ⟨k, _, rfl⟩ := List.mem_map.mp hw
    rw [List.length_append, List.length_singleton, allL_word a n u hu]
theorem allL_plain (a : Nat) : ∀ n, ∀ w ∈ allL a n, PlainOf w a
  | 0, w, h => by
    rw [allL, List.mem_singleton] at h
    subst h
    exact fun x hx => by cases hx
  | n + 1, w, h => by
    rw [allL] at h
    unfold expandL at h
    obtain ⟨ws, hws, hw⟩ := List.mem_flatten.mp h
    obtain ⟨u, hu, rfl⟩ := List.mem_map.mp hws
    obtain ⟨k, hk, rfl⟩ := List.mem_map.mp hw
    have hk := List.mem_range.mp hk
    refine (allL_plain a n u hu).append fun x hx => ?_
    rw [List.mem_singleton] at hx
    subst hx
    omega
theorem allL_len (a : Nat) : ∀ n, (allL a n).length = a ^ n
  | 0 => rfl
  | n + 1 => by
    rw [allL]
    unfold expandL
    rw [List.length_flatten, List.map_map]
    have e : ((fun x : List (List Int) => x.length) ∘ fun w => (List.range a).map fun k => w ++ [((1 + k : Nat) : Int)]) = fun _ => a := by
      funext w
      simp
    rw [show (List.length ∘ fun w => (List.range a).map fun k => w ++ [((1 + k : Nat) : Int)]) = fun _ => a from e, List.map_const', List.sum_replicate_nat, allL_len a n, Nat.pow_succ]
/-- by sizes from m on, so many -/
def wordsF (a : Nat) : Nat → Nat → List (List Int)
  | _, 0 => []
  | m, n + 1 => allL a m ++ wordsF a (m + 1) n
def wordsG (a d : Nat) : List (List Int) := wordsF a 0 (d + 1)
def turnsF (a : Nat) : Nat → Nat → List (List Int)
  | _, 0 => []
  | m, n + 1 => dueL a m ++ turnsF a (m + 1) n
def turnsG (a d : Nat) : List (List Int) := turnsF a 1 d
def gds : List (Nat × Nat) := [(1, 1), (1, 2), (1, 3), (1, 4), (1, 5), (2, 1), (2, 2), (2, 3), (2, 4), (2, 5), (3, 1), (3, 2), (3, 3), (3, 4), (4, 1), (4, 2), (4, 3)]
def OkG (a d : Nat) : Prop := (a, d) ∈ gds
theorem OkG.num {a d : Nat} (h : OkG a d) : 1 ≤ a ∧ a ≤ 4 ∧ 1 ≤ d ∧ d ≤ 5 ∧ a + d ≤ 7 :=
  (by decide : ∀ p ∈ gds, 1 ≤ p.1 ∧ p.1 ≤ 4 ∧ 1 ≤ p.2 ∧ p.2 ≤ 5 ∧ p.1 + p.2 ≤ 7) (a, d) h
theorem gds_all {p : Nat × Nat → Bool} (h : gds.all p = true) {a d : Nat} (g : OkG a d) : p (a, d) = true := List.all_eq_true.mp h _ g
theorem fineT_all : (gds.all fun p => (List.range p.2).all fun s => decide (twR (p.1 : Int) (s + 1) 3000 [1] [] = some (dueL p.1 (s + 1)))) = true := by decide +kernel
theorem twR_due {a d s : Nat} (g : OkG a d) (s1 : 1 ≤ s) (s2 : s ≤ d) : twR (a : Int) s 3000 [1] [] = some (dueL a s) := by
  have h := gds_all fineT_all g
  have h := of_decide_eq_true (List.all_eq_true.mp h (s - 1) (List.mem_range.mpr (by show s - 1 < d; omega)))
  rw [show s - 1 + 1 = s by omega] at h
  exact h
theorem turnsG_fine : (gds.all fun p => decide (turnsG p.1 p.2).Nodup && decide ((turnsG p.1 p.2).length ≤ 100) && decide ((wordsG p.1 p.2).length ≤ 200)) = true := by decide +kernel
theorem turnsG_nd {a d : Nat} (g : OkG a d) : (turnsG a d).Nodup := by
  have h := gds_all turnsG_fine g
  rw [Bool.and_eq_true, Bool.and_eq_true] at h
  exact of_decide_eq_true h.1.1
theorem turnsG_len {a d : Nat} (g : OkG a d) : (turnsG a d).length ≤ 100 := by
  have h := gds_all turnsG_fine g
  rw [Bool.and_eq_true, Bool.and_eq_true] at h
  exact of_decide_eq_true h.1.2
theorem wordsG_len {a d : Nat} (g : OkG a d) : (wordsG a d).length ≤ 200 := by
  have h := gds_all turnsG_fine g
  rw [Bool.and_eq_true] at h
  exact of_decide_eq_true h.2
theorem wordsF_mem {a : Nat} {w : List Int} : ∀ {n m : Nat}, w ∈ wordsF a m n → m ≤ w.length ∧ w.length < m + n ∧ w ∈ allL a w.length
  | 0, m, h => by cases h
  | n + 1, m, h => by
    rw [wordsF, List.mem_append] at h
    rcases h with h | h
    · have e := allL_word a m w h
      exact ⟨by omega, by omega, by rw [e]; exact h⟩
    · obtain ⟨h1, h2, h3⟩ := wordsF_mem h
      exact ⟨by omega, by omega, h3⟩
theorem dueL_len_le {a s : Nat} : (dueL a s).length ≤ a ^ s := by
  unfold dueL
  refine Nat.le_trans (List.length_filter_le _ _) ?_
  rw [allL_len]
  exact Nat.le_refl _
/-! a Ground -/
structure GndAt (l : LH) (g b c : Addr) (a d : Nat) (ck : List Key) (cd : List D) : Prop where
  g : l g = some (.ins cl_Ground [.int a, .int d, .lst ((turnsG a d).map wordD), .ref b, .ref c])
  b : l b = some (.dT ((turnsG a d).map wkey) ((List.range (turnsG a d).length).map fun (i : Nat) => D.int (i : Int)))
  c : l c = some (.dK ck cd)
theorem fzList0 : ∀ {ds : List D} {l : LH} {k : List D → LH → Prop}, k ds l → fzList (fzN 0) ds l k
  | [], _, _, h => h
  | d :: ds, l, k, h => fzList0 (ds := ds) (k := fun ds' l2 => k (d :: ds') l2) h
theorem init_loop1 {a d : Nat} (gd : OkG a d) {g b : Addr} {e5 e4 : Option D} {E : DEnds} (hgb : g ≠ b) : ∀ (n m : Nat) {l : LH} {acc : List (List Int)} {e3 : Option D}, m + n ≤ d + 1 → 1 ≤ m → l g = some (.ins cl_Ground [.int a, .int d, .ref b]) → l b = some (.lst (acc.map wordD)) → acc.length + n * 1024 ≤ 100000 →
    (∀ l' e3, l' = uL l b (.lst ((acc ++ turnsF a m n).map wordD)) → E.nx [some (.ref g), some (.int a), some (.int d), e3, e4, e5] l') →
    forL (gName 3) (nS B_Ground_init_1) (rgD (m : Int) n) E [some (.ref g), some (.int a), some (.int d), e3, e4, e5] l
  | 0, m, l, acc, e3, _, _, hg, hb, _, h => by
    refine h l e3 ?_
    funext x
    by_cases hx : x = b
    · subst hx; rw [uL_same, hb, turnsF, List.append_nil]
    · rw [uL_ne hx]
  | n + 1, m, l, acc, e3, hz, hm, hg, hb, hl, h => by
    rw [rgD_succ]
    refine ⟨?_⟩
    walk_at "w"
    refine ⟨_, hg, rfl, ?_⟩
    walk_at "w"
    refine ⟨_, hb, ?_⟩
    walk_at "w"
    refine c_turnwords (size := m) (by have := gd.num; omega) hm (twR_due gd hm (by omega)) (by decide) ?_
    have dl := dueL_len_le (a := a) (s := m)
    have dl2 : a ^ m ≤ 1024 := Nat.le_trans (Nat.pow_le_pow_left gd.num.2.1 m) (Nat.pow_le_pow_right (by decide) (show m ≤ 5 by have := gd.num; omega))
    walk_at "w"
    refine ⟨_, hb, by refine small ?_; rw [List.length_map, List.length_map]; omega, ?_⟩
    rw [← List.map_append]
    refine init_loop1 gd hgb n (m + 1) (acc := acc ++ dueL a m) (by omega) (by omega) (by rw [uL_ne hgb]; exact hg) uL_same (by rw [List.length_append]; omega) fun l' e3 e => ?_
    refine h l' e3 ?_
    rw [e, uL_uL, turnsF, List.append_assoc]
theorem putKs_new {ks : List (List Key)} {q : List Key} (h : q ∉ ks) : putKs ks q = ks ++ [q] := by unfold putKs; rw [if_neg h]
theorem putDs_new {ks : List (List Key)} {ds : List D} {q : List Key} {x : D} (h : q ∉ ks) : putDs ks ds q x = ds ++ [x] := by unfold putDs; rw [if_neg h]
theorem wkey_mem {w : List Int} {ws : List (List Int)} : wkey w ∈ ws.map wkey ↔ w ∈ ws := by
  rw [List.mem_map]
  constructor
  · rintro ⟨u, hu, e⟩
    rw [← wkey_inj.mp e]
    exact hu
  · exact fun h => ⟨w, h, rfl⟩
theorem init_loop2 {g p : Addr} {x y z : D} {e1 e2 e3 : Option D} {E : DEnds} (hgp : g ≠ p) : ∀ (ws : List (List Int)) {done : List (List Int)} {l : LH} {e4 e5 : Option D}, (done ++ ws).Nodup → (done ++ ws).length ≤ 1000 → l g = some (.ins cl_Ground [x, y, z, .ref p]) →
    l p = some (.dT (done.map wkey) ((List.range done.length).map fun (i : Nat) => D.int (i : Int))) →
    (∀ l' e4 e5, l' = uL l p (.dT ((done ++ ws).map wkey) ((List.range (done ++ ws).length).map fun (i : Nat) => D.int (i : Int))) → E.nx [some (.ref g), e1, e2, e3, e4, e5] l') →
    forL (gTup 2 (gCons (gName 4) (gCons (gName 5) gNil))) (nS B_Ground_init_2) (enumD done.length (ws.map wordD)) E [some (.ref g), e1, e2, e3, e4, e5] l
  | [], done, l, e4, e5, _, _, hg, hp, h => by
    refine h l e4 e5 ?_
    rw [List.append_nil]
    funext b
    by_cases hb : b = p
    · subst hb; rw [uL_same, hp]
    · rw [uL_ne hb]
  | w :: ws, done, l, e4, e5, nd, hz, hg, hp, h => by
    refine ⟨rfl, ?_⟩
    walk_at "w"
    walk_at "s"
    refine ⟨_, hg, rfl, ?_⟩
    walk_at "w"
    have hw : w ∉ done := by
      rw [List.nodup_append] at nd
      exact fun q => nd.2.2 w q w List.mem_cons_self rfl
    have hw' : wkey w ∉ done.map wkey := fun q => hw (wkey_mem.mp q)
    rw [List.length_append, List.length_cons] at hz
    refine ⟨_, hp, _, keyT_word w, Nat.lt_of_le_of_lt (show _ ≤ 10000 by rw [List.length_map]; omega) (by decide), ?_⟩
    rw [putKs_new hw', putDs_new hw']
    have e1 : (done.map wkey) ++ [wkey w] = (done ++ [w]).map wkey := by rw [List.map_append]; rfl
    have e2 : ((List.range done.length).map fun (i : Nat) => D.int (i : Int)) ++ [D.int (done.length : Nat)] = (List.range (done ++ [w]).length).map fun (i : Nat) => D.int (i : Int) := by
      rw [List.length_append, List.length_singleton, List.range_succ, List.map_append]
      rfl
    rw [e1, e2]
    have el : done.length + 1 = (done ++ [w]).length := by rw [List.length_append]; rfl
    rw [el]
    refine init_loop2 hgp ws (x := x) (y := y) (z := z) (by rw [List.append_assoc]; exact nd) (by rw [List.append_assoc, List.length_append]; rw [List.singleton_append, List.length_cons]; omega) (by rw [uL_ne hgp]; exact hg) uL_same fun l' e4 e5 e => ?_
    refine h l' e4 e5 ?_
    rw [e, uL_uL, List.append_assoc]
    rfl
theorem c_Ground_init {a d : Nat} (gd : OkG a d) {g : Addr} {l : LH} {Q : DK} (ng : l g = none) (h : ∀ b c l', GndAt l' g b c a d [] [] → Sub l l' → l' b ≠ none → Q .non l') : callD D_Ground_init [.ref g, .int a, .int d] (uL l g (.ins cl_Ground [])) Q := by
  obtain ⟨a1, a4, d1, d5, ad⟩ := gd.num
  refine ⟨rfl, ?_⟩
  walk_at "w"
  rw [decide_eq_true (show (1 : Int) ≤ (a : Nat) by omega)]
  walk_at "w"
  rw [decide_eq_true (show ((a : Nat) : Int) ≤ 4 by omega)]
  refine ifB_false ?_
  walk_at "w"
  rw [decide_eq_true (show (1 : Int) ≤ (d : Nat) by omega)]
  walk_at "w"
  rw [decide_eq_true (show ((d : Nat) : Int) ≤ 5 by omega)]
  refine ifB_false ?_
  walk_at "w"
  rw [decide_eq_false (show ¬ (7 : Int) < (a : Nat) + (d : Nat) by omega)]
  refine ifB_false ?_
  walk_at "w"
  walk_at "s"
  refine ⟨_, uL_same, rfl, ?_⟩
  walk_at "w"
  rw [uL_uL]
  walk_at "s"
  refine ⟨_, uL_same, rfl, ?_⟩
  walk_at "w"
  rw [uL_uL]
  walk_at "s"
  refine ⟨Nat.zero_le _, fun b nb => ?_⟩
  have hgb : g ≠ b := fun e => by subst e; rw [uL_same] at nb; cases nb
  have nb' : l b = none := by rw [uL_ne (Ne.symm hgb)] at nb; exact nb
  walk_at "w"
  refine ⟨_, (uL_ne hgb).trans uL_same, rfl, ?_⟩
  walk_at "w"
  walk_at "s"
  refine ⟨⟨by decide, by decide, by omega, by omega⟩, ?_⟩
  rw [show (((d : Nat) : Int) + 1 - 1).toNat = d by omega]
  refine init_loop1 gd hgb d 1 (acc := []) (by omega) (by omega) uL_same (by rw [uL_ne (Ne.symm hgb)]; exact uL_same) (by simp; omega) fun l1 e3 el1 => ⟨?_⟩
  have g1 : l1 g = some (.ins cl_Ground [.int a, .int d, .ref b]) := by rw [el1, uL_ne hgb]; exact uL_same
  have b1 : l1 b = some (.lst ((turnsG a d).map wordD)) := by rw [el1, uL_same]; rfl
  have o1 : ∀ x, x ≠ g → x ≠ b → l1 x = l x := fun x hg hb => by
    rw [el1, uL_ne hb, uL_ne hg, uL_ne hb, uL_ne hg]
  clear el1
  walk_at "w"
  intro p np
  have hgp : g ≠ p := fun e => by subst e; rw [g1] at np; cases np
  have hbp : b ≠ p := fun e => by subst e; rw [b1] at np; cases np
  have np' : l p = none := by rw [o1 p (Ne.symm hgp) (Ne.symm hbp)] at np; exact np
  walk_at "w"
  refine ⟨_, (uL_ne hgp).trans g1, rfl, ?_⟩
  walk_at "w"
  walk_at "s"
  refine ⟨_, uL_same, rfl, ?_⟩
  walk_at "w"
  refine ⟨_, (uL_ne (Ne.symm hgb)).trans ((uL_ne hbp).trans b1), ?_⟩
  refine fzList0 ?_
  walk_at "w"
  generalize hl2 : dL (uL (uL l1 p (.dT [] [])) g (.ins cl_Ground [.int a, .int d, .ref b, .ref p])) b = l2
  have g2 : l2 g = some (.ins cl_Ground [.int a, .int d, .ref b, .ref p]) := by
    rw [← hl2]; unfold dL; rw [if_neg hgb]; exact uL_same
  have p2 : l2 p = some (.dT [] []) := by
    rw [← hl2]; unfold dL; rw [if_neg (Ne.symm hbp), uL_ne (Ne.symm hgp)]; exact uL_same
  have o2 : ∀ x, x ≠ g → x ≠ b → x ≠ p → l2 x = l x := fun x h1 h2 h3 => by
    rw [← hl2]; unfold dL; rw [if_neg h2, uL_ne h1, uL_ne h3, o1 x h1 h2]
  refine ⟨g2, ?_⟩
  refine init_loop2 hgp (turnsG a d) (done := []) (turnsG_nd gd) (by have := turnsG_len gd; rw [List.nil_append]; omega) uL_same (by rw [uL_ne (Ne.symm hgp)]; exact p2) fun l3 e4 e5 el3 => ⟨?_⟩
  have g3 : l3 g = some (.ins cl_Ground [.int a, .int d, .lst ((turnsG a d).map wordD), .ref p]) := by rw [el3, uL_ne hgp]; exact uL_same
  have p3 : l3 p = some (.dT ((turnsG a d).map wkey) ((List.range (turnsG a d).length).map fun (i : Nat) => D.int (i : Int))) := by rw [el3, uL_same]; rfl
  have o3 : ∀ x, x ≠ g → x ≠ b → x ≠ p → l3 x = l x := fun x h1 h2 h3 => by rw [el3, uL_ne h3, uL_ne h1, o2 x h1 h2 h3]
  clear el3
  walk_at "w"
  intro c nc
  have hgc : g ≠ c := fun e => by subst e; rw [g3] at nc; cases nc
  have hpc : p ≠ c := fun e => by subst e; rw [p3] at nc; cases nc
  walk_at "w"
  refine ⟨_, (uL_ne hgc).trans g3, rfl, ?_⟩
  refine h p c _ ⟨uL_same, by rw [uL_ne (Ne.symm hgp), uL_ne hpc]; exact p3, by rw [uL_ne (Ne.symm hgc)]; exact uL_same⟩ (fun x o ho => ?_) (by rw [uL_ne (Ne.symm hgp), uL_ne hpc, p3]; exact fun z => by cases z)
  have x1 : x ≠ g := fun e => by subst e; rw [ng] at ho; cases ho
  have x2 : x ≠ b := fun e => by subst e; rw [nb'] at ho; cases ho
  have x3 : x ≠ p := fun e => by subst e; rw [np'] at ho; cases ho
  have x4 : x ≠ c := fun e => by subst e; rw [o3 x x1 x2 x3, ho] at nc; cases nc
  rw [uL_ne x1, uL_ne x4, o3 x x1 x2 x3]
  exact ho
theorem c_sizes {b : Addr} {k : Nat} {l : LH} {Q : DK} (hb : Box l b k) (hk : k < 2 ^ 30) (h : ∀ a d l', OkG a d → Box l' b (k + 4) → Oth l l' b → Q (.tup [.int (a : Nat), .int (d : Nat)]) l') : callD D__law_sizes [.ref b] l Q := by
  have gd : ∀ {a d : Nat}, (a, d) ∈ gds → OkG a d := fun h => h
  refine ⟨rfl, ?_⟩
  walk_at "w"
  refine c_take hb (by decide) (by decide) (by omega) fun x l1 x0 x1 hb1 o1 => ?_
  refine ⟨(okN_int _).ok, (okN_int _).ok, ?_⟩
  refine ifB_by (fun _ => ?_) (fun _ => ?_)
  · walk_at "w"
    refine c_take hb1 (by decide) (by decide) (by omega) fun t l2 t0 t1 hb2 o2 => ?_
    have cs : t = 0 ∨ t = 1 ∨ t = 2 := by omega
    rcases cs with rfl | rfl | rfl
    · exact ⟨_, rfl, h 2 5 l2 (gd (by decide)) (hb2.le (by omega)) (o1.trans o2)⟩
    · exact ⟨_, rfl, h 3 4 l2 (gd (by decide)) (hb2.le (by omega)) (o1.trans o2)⟩
    · exact ⟨_, rfl, h 4 3 l2 (gd (by decide)) (hb2.le (by omega)) (o1.trans o2)⟩
  walk_at "w"
  walk_at "s"
  walk_at "s"
  refine c_take hb1 (by decide) (by decide) (by omega) fun y l2 y0 y1 hb2 o2 => ?_
  refine ⟨(okN_int _).ok, (okN_int _).ok, ?_⟩
  refine ifB_by (fun _ => ⟨?_⟩) (fun _ => ⟨?_⟩)
  · walk_at "w"
    refine c_take hb2 (by decide) (by decide) (by omega) fun t l3 t0 t1 hb3 o3 => ?_
    have t1 : t < 8 := t1
    have O := (o1.trans o2).trans o3
    have cs : t = 0 ∨ t = 1 ∨ t = 2 ∨ t = 3 ∨ t = 4 ∨ t = 5 ∨ t = 6 ∨ t = 7 := by omega
    rcases cs with rfl | rfl | rfl | rfl | rfl | rfl | rfl | rfl
    · exact ⟨_, rfl, h 1 1 l3 (gd (by decide)) (hb3.le (by omega)) O⟩
    · exact ⟨_, rfl, h 1 2 l3 (gd (by decide)) (hb3.le (by omega)) O⟩
    · exact ⟨_, rfl, h 1 3 l3 (gd (by decide)) (hb3.le (by omega)) O⟩
    · exact ⟨_, rfl, h 1 4 l3 (gd (by decide)) (hb3.le (by omega)) O⟩
    · exact ⟨_, rfl, h 1 5 l3 (gd (by decide)) (hb3.le (by omega)) O⟩
    · exact ⟨_, rfl, h 2 1 l3 (gd (by decide)) (hb3.le (by omega)) O⟩
    · exact ⟨_, rfl, h 3 1 l3 (gd (by decide)) (hb3.le (by omega)) O⟩
    · exact ⟨_, rfl, h 4 1 l3 (gd (by decide)) (hb3.le (by omega)) O⟩
  · walk_at "w"
    refine c_take hb2 (by decide) (by decide) (by omega) fun t l3 t0 t1 hb3 o3 => ?_
    have t1 : t < 6 := t1
    have O := (o1.trans o2).trans o3
    have cs : t = 0 ∨ t = 1 ∨ t = 2 ∨ t = 3 ∨ t = 4 ∨ t = 5 := by omega
    rcases cs with rfl | rfl | rfl | rfl | rfl | rfl
    · exact ⟨_, rfl, h 2 2 l3 (gd (by decide)) (hb3.le (by omega)) O⟩
    · exact ⟨_, rfl, h 2 3 l3 (gd (by decide)) (hb3.le (by omega)) O⟩
    · exact ⟨_, rfl, h 2 4 l3 (gd (by decide)) (hb3.le (by omega)) O⟩
    · exact ⟨_, rfl, h 3 2 l3 (gd (by decide)) (hb3.le (by omega)) O⟩
    · exact ⟨_, rfl, h 3 3 l3 (gd (by decide)) (hb3.le (by omega)) O⟩
    · exact ⟨_, rfl, h 4 2 l3 (gd (by decide)) (hb3.le (by omega)) O⟩
theorem word_loop {a : Addr} {letters most many : Int} (h0 : 0 < letters) (h1 : letters < 1000) : ∀ (ds : List D) {e4 : Option D} {k : Nat} {l : LH} {Q : List D → LH → Prop}, Box l a k → k + 2 * ds.length < 2 ^ 40 →
    (∀ ws l', ws.length = ds.length → WordOf ws letters → Box l' a (k + 2 * ds.length) → Oth l l' a → Q (ws.map D.int) l') →
    compL (gName 4) tYes (nE C__law_word_1) [4] ds [some (.ref a), some (.int letters), some (.int most), some (.int many), e4] l Q
  | [], e4, k, l, Q, hb, _, hq => hq [] l rfl (fun w hw => by simp at hw) hb Oth.refl
  | d :: ds, e4, k, l, Q, hb, hk, hq => by
    rw [List.length_cons] at hk hq
    walk_at "w"
    refine ifB_true ?_
    walk_at "w"
    walk_at "s"
    refine c_take hb h0 (by omega) (by omega) fun r l1 r0 r1 hb1 o1 => ?_
    walk_at "w"
    refine c_take hb1 (by decide) (by decide) (by omega) fun s l2 s0 s1 hb2 o2 => ?_
    walk_at "w"
    refine ⟨mulL (by decide) (by decide), ?_⟩
    walk_at "w"
    refine ⟨mulR (by omega) (by omega), ?_⟩
    refine word_loop h0 h1 ds hb2 (by omega) fun ws l3 hl hw hb3 o3 => ?_
    refine hq (((1 + r) * (1 - 2 * s)) :: ws) l3 (by rw [List.length_cons, hl]) ?_ (by rw [show k + 2 * (ds.length + 1) = k + 1 + 1 + 2 * ds.length by omega]; exact hb3) ((o1.trans o2).trans o3)
    intro w hw'
    rcases List.mem_cons.mp hw' with e | e
    · subst e
      have : s = 0 ∨ s = 1 := by omega
      rcases this with rfl | rfl
      · have e : (1 + r) * (1 - 2 * 0) = 1 + r := by omega
        rw [e]
        omega
      · have e : (1 + r) * (1 - 2 * 1) = -(1 + r) := by omega
        rw [e]
        omega
    · exact hw w e
theorem c_word {a : Addr} {letters most : Int} {k : Nat} {l : LH} {Q : DK} (hb : Box l a k) (h0 : 0 < letters) (h1 : letters < 1000) (m0 : 0 ≤ most) (m1 : most < 1000) (hk : k < 2 ^ 39)
    (h : ∀ (ws : List Int) l', (ws.length : Int) ≤ most → WordOf ws letters → Box l' a (k + 2002) → Oth l l' a → Q (.tup (ws.map D.int)) l') : callD D__law_word [.ref a, .int letters, .int most] l Q := by
  have tail : ∀ many l1, 0 ≤ many → many ≤ most → Box l1 a (k + 2) → Oth l l1 a → T__law_word_2
      ⟨fun _ l => Q .non l, Q, fun _ _ => False, fun _ _ => False⟩ [some (.ref a), some (.int letters), some (.int most), some (.int many), none] l1 := by
    intro many l1 n0 n1 hb1 o1
    have hl : (rgD 0 many.toNat).length = many.toNat := by unfold rgD; rw [List.length_map, List.length_range]
    refine ⟨⟨by omega, by omega⟩, by rw [hl]; exact small (by omega), ?_⟩
    refine word_loop h0 h1 _ hb1 (by omega) fun ws l2 hw w hb2 o2 => ?_
    obtain ⟨o, ho, c0, c1, c2, ho2, p1, p2, p3, p4, p5⟩ := hb2
    exact h ws l2 (by omega) w ⟨o, ho, c0, c1, c2, ho2, p1, p2, p3, p4, by omega⟩ (o1.trans o2)
  refine ⟨rfl, ?_⟩
  walk_at "w"
  refine c_take hb (by decide) (by decide) (by omega) fun r l1 r0 r1 hb1 o1 => ?_
  refine ⟨(okN_int r).ok, (okN_int 0).ok, ?_⟩
  refine ifB_by (fun _ => ?_) (fun _ => ?_)
  · walk_at "w"
    refine c_take hb1 ?_ ?_ (by omega) fun r l2 r0 r1 hb2 o2 => ?_
    · split <;> omega
    · split <;> omega
    refine ⟨tail r l2 r0 ?_ hb2 (o1.trans o2)⟩
    revert r1
    split <;> omega
  · walk_at "w"
    refine c_take hb1 (by omega) (by omega) (by omega) fun r l2 r0 r1 hb2 o2 => ?_
    exact ⟨tail r l2 r0 (by omega) hb2 (o1.trans o2)⟩

end Law

namespace Law
open PySem PySem.Spec PyProof.Rows L2 DL
local macro_rules | `(tactic| walk_at "w") => `(tactic| conv => whnf)
local macro_rules | `(tactic| walk_at "s") => `(tactic| (refine ⟨?_⟩; conv => whnf))
local macro_rules | `(tactic| walk_at "z") => `(tactic| (refine small ?_; simp only [List.length_map, List.length_append, List.length_reverse, List.length_cons, List.length_nil]; omega))
local macro_rules | `(tactic| walk_at "q") => `(tactic| (refine ⟨(okN_tints _).ok, (okN_tints _).ok, ?_⟩; rw [eqD_tints]))
/-! rows: words with their numbers; series -/
abbrev Row := List (List Int × Int)
def rowKs (r : Row) : List (List Key) := r.map fun p => wkey p.1
def rowDs (r : Row) : List D := r.map fun p => D.int p.2
def rowD (r : Row) : D := .dT (rowKs r) (rowDs r)
def rowO (r : Row) : DO := .dT (rowKs r) (rowDs r)
def keysR (r : Row) : List (List Int) := r.map (·.1)
def getR : Row → List Int → Int
  | [], _ => 0
  | p :: r, w => if p.1 = w then p.2 else getR r w
def putR (r : Row) (w : List Int) (x : Int) : Row := if w ∈ keysR r then r.map (fun p => if p.1 = w then (p.1, x) else p) else r ++ [(w, x)]
theorem rowKs_keys (r : Row) : rowKs r = (keysR r).map wkey := by unfold rowKs keysR; rw [List.map_map]; rfl
theorem getA_row : ∀ (r : Row) (w : List Int), (getA (rowKs r) (rowDs r) (wkey w)).getD (.int 0) = .int (getR r w)
  | [], w => rfl
  | p :: r, w => by
    show (if wkey p.1 = wkey w then some (D.int p.2) else getA (rowKs r) (rowDs r) (wkey w)).getD (.int 0) = .int (if p.1 = w then p.2 else getR r w)
    by_cases e : p.1 = w
    · rw [if_pos (by rw [e]), if_pos e]; rfl
    · rw [if_neg fun q => e (wkey_inj.mp q), if_neg e]
      exact getA_row r w
theorem repA_row (w : List Int) (x : Int) : ∀ (r : Row), repA (rowKs r) (rowDs r) (wkey w) (.int x) = rowDs (r.map fun p => if p.1 = w then (p.1, x) else p)
  | [] => rfl
  | p :: r => by
    show (if wkey p.1 = wkey w then D.int x else D.int p.2) :: repA (rowKs r) (rowDs r) (wkey w) (.int x) = D.int (if p.1 = w then (p.1, x) else p).2 :: rowDs (r.map fun p => if p.1 = w then (p.1, x) else p)
    rw [repA_row w x r]
    by_cases e : p.1 = w
    · rw [if_pos (by rw [e]), if_pos e]
    · rw [if_neg fun q => e (wkey_inj.mp q), if_neg e]
theorem mem_rowKs {r : Row} {w : List Int} : wkey w ∈ rowKs r ↔ w ∈ keysR r := by rw [rowKs_keys]; exact wkey_mem
theorem keysR_rep (w : List Int) (x : Int) (r : Row) : keysR (r.map fun p => if p.1 = w then (p.1, x) else p) = keysR r := by
  unfold keysR
  rw [List.map_map]
  refine List.map_congr_left fun p _ => ?_
  show (if p.1 = w then (p.1, x) else p).1 = p.1
  split <;> rfl
theorem putKs_row (r : Row) (w : List Int) (x : Int) : putKs (rowKs r) (wkey w) = rowKs (putR r w x) := by
  unfold putKs putR
  by_cases e : w ∈ keysR r
  · rw [if_pos (mem_rowKs.mpr e), if_pos e, rowKs_keys, rowKs_keys, keysR_rep]
  · rw [if_neg fun q => e (mem_rowKs.mp q), if_neg e]
    unfold rowKs
    rw [List.map_append]
    rfl
theorem putDs_row (r : Row) (w : List Int) (x : Int) : putDs (rowKs r) (rowDs r) (wkey w) (.int x) = rowDs (putR r w x) := by
  unfold putDs putR
  by_cases e : w ∈ keysR r
  · rw [if_pos (mem_rowKs.mpr e), if_pos e, repA_row]
  · rw [if_neg fun q => e (mem_rowKs.mp q), if_neg e]
    unfold rowDs
    rw [List.map_append]
    rfl
theorem getR_out : ∀ {r : Row} {w : List Int}, w ∉ keysR r → getR r w = 0
  | [], _, _ => rfl
  | p :: r, w, h => by
    rw [getR, if_neg fun e => h (by rw [← e]; exact List.mem_cons_self)]
    exact getR_out fun q => h (List.mem_cons_of_mem _ q)
theorem getR_rep {w : List Int} {x : Int} : ∀ {r : Row} {u : List Int}, w ∈ keysR r → getR (r.map fun p => if p.1 = w then (p.1, x) else p) u = if u = w then x else getR r u
  | [], u, h => by cases h
  | p :: r, u, h => by
    show (if (if p.1 = w then (p.1, x) else p).1 = u then (if p.1 = w then (p.1, x) else p).2 else getR (r.map fun p => if p.1 = w then (p.1, x) else p) u) = if u = w then x else (if p.1 = u then p.2 else getR r u)
    by_cases e : p.1 = w
    · rw [if_pos e]
      by_cases q : p.1 = u
      · rw [if_pos q, if_pos (q.symm.trans e)]
      · rw [if_neg q, if_neg (fun z => q (e.trans z.symm)), if_neg q]
        by_cases hm : w ∈ keysR r
        · rw [getR_rep hm, if_neg (fun z => q (e.trans z.symm))]
        · congr 1
          conv => rhs; rw [← List.map_id r]
          refine List.map_congr_left fun z hz => ?_
          rw [if_neg fun y => hm (by rw [← y]; exact List.mem_map.mpr ⟨z, hz, rfl⟩)]
          rfl
    · rw [if_neg e]
      have hm : w ∈ keysR r := by
        rcases List.mem_cons.mp h with z | z
        · exact absurd z.symm e
        · exact z
      by_cases q : p.1 = u
      · rw [if_pos q, if_pos q, if_neg fun z => e (q.trans z)]
      · rw [if_neg q, if_neg q, getR_rep hm]
theorem getR_app {w : List Int} {x : Int} : ∀ {r : Row} {u : List Int}, w ∉ keysR r → getR (r ++ [(w, x)]) u = if u = w then x else getR r u
  | [], u, _ => by
    show (if w = u then x else 0) = if u = w then x else 0
    by_cases e : w = u
    · rw [if_pos e, if_pos e.symm]
    · rw [if_neg e, if_neg fun q => e q.symm]
  | p :: r, u, h => by
    show (if p.1 = u then p.2 else getR (r ++ [(w, x)]) u) = if u = w then x else (if p.1 = u then p.2 else getR r u)
    have hp : p.1 ≠ w := fun e => h (by rw [← e]; exact List.mem_cons_self)
    by_cases q : p.1 = u
    · rw [if_pos q, if_pos q, if_neg fun z => hp (q.trans z)]
    · rw [if_neg q, if_neg q, getR_app fun z => h (List.mem_cons_of_mem _ z)]
theorem getR_put (r : Row) (w : List Int) (x : Int) (u : List Int) : getR (putR r w x) u = if u = w then x else getR r u := by
  unfold putR
  by_cases e : w ∈ keysR r
  · rw [if_pos e, getR_rep e]
  · rw [if_neg e, getR_app e]
theorem keysR_put (r : Row) (w : List Int) (x : Int) : keysR (putR r w x) = if w ∈ keysR r then keysR r else keysR r ++ [w] := by
  unfold putR
  by_cases e : w ∈ keysR r
  · rw [if_pos e, if_pos e, keysR_rep]
  · rw [if_neg e, if_neg e]
    unfold keysR
    rw [List.map_append]
    rfl
theorem put_nodup {r : Row} (w : List Int) (x : Int) (h : (keysR r).Nodup) : (keysR (putR r w x)).Nodup := by
  rw [keysR_put]
  by_cases e : w ∈ keysR r
  · rw [if_pos e]; exact h
  · rw [if_neg e]
    refine List.nodup_append.mpr ⟨h, by simp, fun a ha b hb q => ?_⟩
    rw [List.mem_singleton] at hb
    exact e (by rw [← hb, ← q]; exact ha)
theorem put_keys {r : Row} {w : List Int} {x : Int} {u : List Int} (h : u ∈ keysR (putR r w x)) : u ∈ keysR r ∨ u = w := by
  rw [keysR_put] at h
  by_cases e : w ∈ keysR r
  · rw [if_pos e] at h; exact .inl h
  · rw [if_neg e] at h
    rcases List.mem_append.mp h with h | h
    · exact .inl h
    · exact .inr (List.mem_singleton.mp h)
theorem put_len (r : Row) (w : List Int) (x : Int) : (putR r w x).length ≤ r.length + 1 := by
  unfold putR
  split
  · rw [List.length_map]; omega
  · rw [List.length_append]; exact Nat.le_refl _
theorem itemsD_row : ∀ (r : Row), itemsD (rowKs r) (rowDs r) = r.map fun p => D.tup [wordD p.1, .int p.2]
  | [] => rfl
  | p :: r => by
    show D.tup [.tup ((wkey p.1).map keyV), .int p.2] :: itemsD (rowKs r) (rowDs r) = D.tup [wordD p.1, .int p.2] :: _
    rw [itemsD_row r]
    unfold wkey
    rw [List.map_map]
    rfl
/-! a letter behind -/
def opS (b : Bool) (x v : Int) : Int := if b then x - v else x + v
def addAll (L : Int) (b : Bool) : Row → Row → Row
  | [], to => to
  | p :: ps, to => addAll L b ps (putR to (p.1 ++ [L]) (opS b (getR to (p.1 ++ [L])) p.2))
def extR (r : Row) (L : Int) (w : List Int) : Int := match w.reverse with
  | [] => 0
  | q :: qs => if q = L then getR r qs.reverse else 0
theorem extR_snoc (r : Row) (L q : Int) (u : List Int) : extR r L (u ++ [q]) = if q = L then getR r u else 0 := by
  unfold extR
  rw [List.reverse_append]
  show (if q = L then getR r u.reverse.reverse else 0) = _
  rw [List.reverse_reverse]
theorem snoc_cases (w : List Int) : w = [] ∨ ∃ u q, w = u ++ [q] := by
  rcases h : w.reverse with _ | ⟨q, qs⟩
  · exact .inl (List.reverse_eq_nil_iff.mp h)
  · exact .inr ⟨qs.reverse, q, by rw [← List.reverse_reverse w, h, List.reverse_cons]⟩
theorem opS_zero (b : Bool) (x : Int) : opS b x 0 = x := by unfold opS; cases b <;> simp
theorem getR_addAll (L : Int) (b : Bool) : ∀ (ps to : Row) (w : List Int), (keysR ps).Nodup → getR (addAll L b ps to) w = opS b (getR to w) (extR ps L w)
  | [], to, w, _ => by
    have e : extR [] L w = 0 := by
      rcases snoc_cases w with rfl | ⟨u, q, rfl⟩
      · rfl
      · rw [extR_snoc]; split <;> rfl
    rw [addAll, e, opS_zero]
  | p :: ps, to, w, nd => by
    have nd' : p.1 ∉ keysR ps ∧ (keysR ps).Nodup := List.nodup_cons.mp nd
    rw [addAll, getR_addAll L b ps _ w nd'.2, getR_put]
    rcases snoc_cases w with rfl | ⟨u, q, rfl⟩
    · rw [if_neg (fun e => by have := congrArg List.length e; simp at this)]
      rfl
    · rw [extR_snoc, extR_snoc]
      by_cases e : u ++ [q] = p.1 ++ [L]
      · obtain ⟨e1, e2⟩ := List.append_inj' e rfl
        have e2 : q = L := by simpa using e2
        subst e1 e2
        rw [if_pos rfl, if_pos rfl, if_pos rfl, getR_out nd'.1, opS_zero]
        show opS b _ p.2 = opS b _ (if p.1 = p.1 then p.2 else _)
        rw [if_pos rfl]
      · rw [if_neg e]
        congr 1
        by_cases e2 : q = L
        · rw [if_pos e2, if_pos e2]
          show getR ps u = if p.1 = u then p.2 else getR ps u
          rw [if_neg fun z => e (by rw [z, e2])]
        · rw [if_neg e2, if_neg e2]
theorem addAll_nodup (L : Int) (b : Bool) : ∀ (ps to : Row), (keysR to).Nodup → (keysR (addAll L b ps to)).Nodup
  | [], _, h => h
  | p :: ps, to, h => addAll_nodup L b ps _ (put_nodup _ _ h)
theorem addAll_keys (L : Int) (b : Bool) : ∀ (ps to : Row) {w : List Int}, w ∈ keysR (addAll L b ps to) → w ∈ keysR to ∨ ∃ u ∈ keysR ps, w = u ++ [L]
  | [], _, _, h => .inl h
  | p :: ps, to, w, h => by
    rcases addAll_keys L b ps _ h with h | ⟨u, hu, e⟩
    · rcases put_keys h with h | h
      · exact .inl h
      · exact .inr ⟨p.1, List.mem_cons_self, h⟩
    · exact .inr ⟨u, List.mem_cons_of_mem _ hu, e⟩
theorem addAll_len (L : Int) (b : Bool) : ∀ (ps to : Row), (addAll L b ps to).length ≤ to.length + ps.length
  | [], to => Nat.le_refl _
  | p :: ps, to => by
    refine Nat.le_trans (addAll_len L b ps _) ?_
    have := put_len to (p.1 ++ [L]) (opS b (getR to (p.1 ++ [L])) p.2)
    rw [List.length_cons]
    omega
/-- a step behind a series: the rows from one size on, the row ahead being used -/
def stepS (L : Int) (b : Bool) : Row → List Row → List Row
  | _, [] => []
  | p, r :: rs => addAll L b p r :: stepS L b (if b then addAll L b p r else r) rs
theorem stepS_len (L : Int) (b : Bool) : ∀ (rs : List Row) (p : Row), (stepS L b p rs).length = rs.length
  | [], _ => rfl
  | r :: rs, p => by rw [stepS, List.length_cons, stepS_len L b rs, List.length_cons]
def stepSer (L : Int) (b : Bool) : List Row → List Row
  | [] => []
  | r :: rs => r :: stepS L b r rs
def stepF (L : Int) (b : Bool) (f : List Int → Int) : List Int → Int
  | [] => f []
  | q :: qs => if q = L then opS b (f (q :: qs)) (if b then stepF L b f qs else f qs) else f (q :: qs)
/-- one row of a series: words of size s over letters, with f's numbers -/
structure RowOk (a s : Nat) (f : List Int → Int) (r : Row) : Prop where
  nd : (keysR r).Nodup
  ws : ∀ u ∈ keysR r, u ∈ allL a s
  at_ : ∀ w : List Int, w.length = s → getR r w = f w.reverse
def RowsOk (a : Nat) (f : List Int → Int) : Nat → List Row → Prop
  | _, [] => True
  | s, r :: rs => RowOk a s f r ∧ RowsOk a f (s + 1) rs
theorem allL_snoc {a s : Nat} {u : List Int} (h : u ∈ allL a s) {L : Int} (h1 : 1 ≤ L) (h2 : L ≤ a) : u ++ [L] ∈ allL a (s + 1) := by
  obtain ⟨j, rfl⟩ := Int.eq_ofNat_of_zero_le (show 0 ≤ L - 1 by omega) |>.imp fun j hj => (by omega : L = 1 + (j : Nat))
  rw [allL]
  unfold expandL
  refine List.mem_flatten.mpr ⟨_, List.mem_map.mpr ⟨u, h, rfl⟩, List.mem_map.mpr ⟨j, List.mem_range.mpr (by omega), ?_⟩⟩
  rw [show ((1 + j : Nat) : Int) = 1 + (j : Int) by omega]
theorem stepF_letter {L : Int} {f : List Int → Int} (q : Int) (qs : List Int) : stepF L false f (q :: qs) = if q = L then f (q :: qs) + f qs else f (q :: qs) := rfl
theorem addAll_ok {a s : Nat} {L : Int} (h1 : 1 ≤ L) (h2 : L ≤ a) {b : Bool} {f g : List Int → Int} {p r : Row} (hp : RowOk a s g p) (hr : RowOk a (s + 1) f r) (hg : ∀ qs : List Int, g qs = if b then stepF L b f qs else f qs) : RowOk a (s + 1) (stepF L b f) (addAll L b p r) := by
  refine ⟨addAll_nodup L b p r hr.nd, fun u hu => ?_, fun w hw => ?_⟩
  · rcases addAll_keys L b p r hu with h | ⟨v, hv, rfl⟩
    · exact hr.ws u h
    · exact allL_snoc (hp.ws v hv) h1 h2
  · rw [getR_addAll L b p r w hp.nd]
    rcases snoc_cases w with rfl | ⟨u, q, rfl⟩
    · simp at hw
    · rw [List.length_append, List.length_singleton] at hw
      rw [extR_snoc, hr.at_ _ (by rw [List.length_append, List.length_singleton]; omega), hp.at_ u (by omega), List.reverse_append]
      show opS b (f (q :: u.reverse)) (if q = L then g u.reverse else 0) = stepF L b f (q :: u.reverse)
      rw [stepF, hg]
      by_cases e : q = L
      · rw [if_pos e, if_pos e]
      · rw [if_neg e, if_neg e, opS_zero]
theorem stepS_ok {a : Nat} {L : Int} (h1 : 1 ≤ L) (h2 : L ≤ a) {b : Bool} {f g : List Int → Int} (hg : ∀ qs : List Int, g qs = if b then stepF L b f qs else f qs) : ∀ (rs : List Row) {s : Nat} {p : Row}, RowOk a s g p → RowsOk a f (s + 1) rs → RowsOk a (stepF L b f) (s + 1) (stepS L b p rs)
  | [], _, _, _, _ => trivial
  | r :: rs, s, p, hp, hr => by
    have h := addAll_ok h1 h2 hp hr.1 hg
    refine ⟨h, stepS_ok h1 h2 hg rs ?_ hr.2⟩
    cases b with
    | true => exact ⟨h.nd, h.ws, fun w hw => by
        show getR (addAll L true p r) w = _
        rw [h.at_ w hw, hg]
        rfl⟩
    | false => exact ⟨hr.1.nd, hr.1.ws, fun w hw => by
        show getR r w = _
        rw [hr.1.at_ w hw, hg]
        rfl⟩
theorem stepSer_ok {a : Nat} {L : Int} (h1 : 1 ≤ L) (h2 : L ≤ a) {b : Bool} {f : List Int → Int} {S : List Row} (h : RowsOk a f 0 S) : RowsOk a (stepF L b f) 0 (stepSer L b S) := by
  cases S with
  | nil => trivial
  | cons r rs =>
    have e0 : ∀ w : List Int, w.length = 0 → getR r w = stepF L b f w.reverse := fun w hw => by
      rw [h.1.at_ w hw, List.eq_nil_of_length_eq_zero hw]
      rfl
    refine ⟨⟨h.1.nd, h.1.ws, e0⟩, ?_⟩
    refine stepS_ok (g := fun qs => if b then stepF L b f qs else f qs) h1 h2 (fun _ => rfl) rs ⟨h.1.nd, h.1.ws, fun w hw => ?_⟩ h.2
    rw [h.1.at_ w hw, List.eq_nil_of_length_eq_zero hw]
    cases b <;> rfl
def baseF : List Int → Int
  | [] => 1
  | _ => 0
def wordF (w : List Int) : List Int → Int := w.foldl (fun f st => if 0 < st then stepF st false f else stepF (-st) true f) baseF
/-! rows as objects -/
/-- the objects of some rows, the first k frozen already -/
structure Cells (l : LH) (as : List Addr) (rs : List Row) (k : Nat) : Prop where
  len : as.length = rs.length
  nd : as.Nodup
  at_ : ∀ (i : Nat) (a : Addr) (r : Row), as[i]? = some a → rs[i]? = some r → l a = some (if i < k then .fz (rowD r) else rowO r)
theorem comp_newrows {g : DTG} {tt : DTT} {te : DTE} {vs : List Nat} {env : DSt} : ∀ (zs : List (D × Row)) {l : LH} {Q : List D → LH → Prop}
    (_ : ∀ z ∈ zs, ∀ (K1 : DK) (K2 : LH → Prop) (l1 : LH), newL (rowO z.2) l1 K1 → wipeK vs env fun env0 => g z.1 env0 l1 fun env1 l2 => tt env1 l2 fun c l3 => ifB c (te env1 l3 K1) (K2 l3))
    (_ : ∀ (as : List Addr) (l' : LH), Cells l' as (zs.map (·.2)) 0 → (∀ a ∈ as, l a = none) → (∀ x, x ∉ as → l' x = l x) → Q (as.map D.ref) l'), compL g tt te vs (zs.map (·.1)) env l Q
  | [], l, Q, _, hq => hq [] l ⟨rfl, List.nodup_nil, fun i a r h => by simp at h⟩ (fun a h => by cases h) fun x _ => rfl
  | z :: zs, l, Q, hs, hq => by
    refine hs z List.mem_cons_self (fun r l3 => compL g tt te vs (zs.map (·.1)) env l3 fun rs l4 => Q (r :: rs) l4) (fun l2 => compL g tt te vs (zs.map (·.1)) env l2 Q) l ?_
    intro a na
    refine comp_newrows zs (fun y hy => hs y (List.mem_cons_of_mem _ hy)) fun as l' C fr o => ?_
    have ha : a ∉ as := fun h => by
      have := fr a h
      rw [uL_same] at this
      cases this
    refine hq (a :: as) l' ⟨by rw [List.length_cons, List.map_cons, List.length_cons, C.len], List.nodup_cons.mpr ⟨ha, C.nd⟩, fun i b r hb hr => ?_⟩ (fun b hb => ?_) fun x hx => ?_
    · cases i with
      | zero =>
        have e1 : a = b := by simpa using hb
        have e2 : z.2 = r := by simpa using hr
        rw [← e1, ← e2, o a ha, uL_same, if_neg (Nat.not_lt_zero _)]
      | succ i =>
        have hb : as[i]? = some b := by simpa using hb
        have hr : (zs.map (·.2))[i]? = some r := by simpa using hr
        rw [C.at_ i b r hb hr, if_neg (Nat.not_lt_zero _), if_neg (Nat.not_lt_zero _)]
    · rcases List.mem_cons.mp hb with e | hb
      · rw [e]; exact na
      · have hba : b ≠ a := fun e => ha (by rw [← e]; exact hb)
        have q := fr b hb
        rwa [uL_ne hba] at q
    · rw [List.mem_cons, not_or] at hx
      rw [o x hx.2, uL_ne hx.1]
theorem fz_cells : ∀ (as : List Addr) (rs : List Row) {k : Nat} {l : LH} {Q : List D → LH → Prop}, Cells l as rs k → (∀ l', (∀ a ∈ as, l' a = none) → (∀ x, x ∉ as → l' x = l x) → Q (rs.map rowD) l') → fzList (fzN 2) (as.map D.ref) l Q
  | [], rs, k, l, Q, C, h => by
    have e : rs = [] := List.eq_nil_of_length_eq_zero C.len.symm
    subst e
    exact h l (fun a ha => by cases ha) fun x _ => rfl
  | a :: as, [], k, l, Q, C, h => by
    have := C.len
    simp at this
  | a :: as, r :: rs, k, l, Q, C, h => by
    have ha := C.at_ 0 a r rfl rfl
    obtain ⟨na, nd⟩ := List.nodup_cons.mp C.nd
    have C' : Cells (dL l a) as rs (k - 1) := ⟨by have := C.len; simpa using this, nd, fun i b q hb hq => by
      have hba : b ≠ a := fun e => na (by rw [← e]; exact List.mem_of_getElem? hb)
      unfold dL
      rw [if_neg hba, C.at_ (i + 1) b q (by simpa using hb) (by simpa using hq)]
      by_cases e : i + 1 < k
      · rw [if_pos e, if_pos (by omega)]
      · rw [if_neg e, if_neg (by omega)]⟩
    have fin : fzList (fzN 2) (as.map D.ref) (dL l a) fun ds' l2 => Q (rowD r :: ds') l2 := by
      refine fz_cells as rs C' fun l' h1 h2 => ?_
      refine h l' (fun b hb => ?_) fun x hx => ?_
      · by_cases e : b ∈ as
        · exact h1 b e
        · rcases List.mem_cons.mp hb with e2 | e2
          · rw [h2 b e, e2]; unfold dL; rw [if_pos rfl]
          · exact absurd e2 e
      · rw [List.mem_cons, not_or] at hx
        rw [h2 x hx.2]
        unfold dL
        rw [if_neg hx.1]
    by_cases e : 0 < k
    · rw [if_pos e] at ha
      exact ⟨_, ha, fin⟩
    · rw [if_neg e] at ha
      exact ⟨_, ha, fin⟩
theorem fz_all {as : List Addr} {rs : List Row} {k : Nat} {l l0 : LH} {Q : DK} (C : Cells l as rs k) (fr : ∀ a ∈ as, l0 a = none) (o : ∀ x, x ∉ as → l x = l0 x) (h : Q (.lst (rs.map rowD)) l0) : fzN 3 (.lst (as.map D.ref)) l Q := by
  show fzList (fzN 2) (as.map D.ref) l fun ds' l' => Q (.lst ds') l'
  refine fz_cells as rs C fun l' h1 h2 => ?_
  have e : l' = l0 := by
    funext x
    by_cases hx : x ∈ as
    · rw [h1 x hx, fr x hx]
    · rw [h2 x hx, o x hx]
  rw [e]
  exact h
theorem nodup_at {α : Type} : ∀ {as : List α} {i j : Nat} {a : α}, as.Nodup → as[i]? = some a → as[j]? = some a → i = j
  | [], i, _, _, _, h, _ => by simp at h
  | b :: as, 0, 0, _, _, _, _ => rfl
  | b :: as, 0, j + 1, a, nd, h, h' => by
    have e : b = a := by simpa using h
    have h' : as[j]? = some a := by simpa using h'
    exact absurd (List.mem_of_getElem? h') (e ▸ (List.nodup_cons.mp nd).1)
  | b :: as, i + 1, 0, a, nd, h', h => by
    have e : b = a := by simpa using h
    have h' : as[i]? = some a := by simpa using h'
    exact absurd (List.mem_of_getElem? h') (e ▸ (List.nodup_cons.mp nd).1)
  | b :: as, i + 1, j + 1, a, nd, h, h' => by
    rw [nodup_at (i := i) (j := j) (List.nodup_cons.mp nd).2 (by simpa using h) (by simpa using h')]
theorem Cells.put {l l' : LH} {as : List Addr} {done rs : List Row} {r r' : Row} {k : Nat} {a : Addr} (C : Cells l as (done ++ r :: rs) k) (ha : as[done.length]? = some a) (hk : k ≤ done.length) (h1 : l' a = some (rowO r')) (h2 : ∀ x, x ≠ a → l' x = l x) : Cells l' as (done ++ r' :: rs) k := by
  refine ⟨by have := C.len; simpa using this, C.nd, fun i b q hb hq => ?_⟩
  rcases Nat.lt_trichotomy i done.length with hi | hi | hi
  · have hba : b ≠ a := fun e => by
      have := nodup_at C.nd hb (e ▸ ha)
      omega
    rw [h2 b hba]
    rw [List.getElem?_append_left hi] at hq
    exact C.at_ i b q hb (by rw [List.getElem?_append_left hi]; exact hq)
  · subst hi
    rw [List.getElem?_append_right (Nat.le_refl _), Nat.sub_self] at hq
    have e1 : r' = q := by simpa using hq
    rw [ha] at hb
    have e2 : a = b := Option.some.inj hb
    rw [← e2, h1, e1, if_neg (by omega)]
  · have hba : b ≠ a := fun e => by
      have := nodup_at C.nd hb (e ▸ ha)
      omega
    rw [h2 b hba]
    obtain ⟨m, rfl⟩ : ∃ m, i = done.length + (m + 1) := ⟨i - done.length - 1, by omega⟩
    rw [List.getElem?_append_right (by omega), show done.length + (m + 1) - done.length = m + 1 by omega] at hq
    refine C.at_ _ b q hb ?_
    rw [List.getElem?_append_right (by omega), show done.length + (m + 1) - done.length = m + 1 by omega]
    exact hq
theorem Cells.get {l : LH} {as : List Addr} {rs : List Row} {k i : Nat} {r : Row} (C : Cells l as rs k) (h : rs[i]? = some r) : ∃ a, as[i]? = some a ∧ l a = some (if i < k then .fz (rowD r) else rowO r) := by
  have hi : i < as.length := by rw [C.len]; exact (List.getElem?_eq_some_iff.mp h).1
  exact ⟨as[i], List.getElem?_eq_getElem hi, C.at_ i _ r (List.getElem?_eq_getElem hi) h⟩
/-- a row frozen -/
theorem Cells.frz {l : LH} {as : List Addr} {rs : List Row} {k : Nat} {r : Row} {a : Addr} (C : Cells l as rs k) (ha : as[k]? = some a) (hr : rs[k]? = some r) : Cells (uL l a (.fz (rowD r))) as rs (k + 1) := by
  refine ⟨C.len, C.nd, fun i b q hb hq => ?_⟩
  by_cases e : b = a
  · subst e
    have := nodup_at C.nd hb ha
    subst this
    rw [hr] at hq
    cases hq
    rw [uL_same, if_pos (by omega)]
  · have hik : i ≠ k := fun z => e (by subst z; rw [ha] at hb; exact (Option.some.inj hb).symm)
    rw [uL_ne e, C.at_ i b q hb hq]
    by_cases z : i < k
    · rw [if_pos z, if_pos (by omega)]
    · rw [if_neg z, if_neg (by omega)]
def RowSz (r : Row) : Prop := r.length ≤ 1024 ∧ ∀ q ∈ r, q.1.length ≤ 40
theorem with_letter_in {L : Int} {s : Nat} {as : List Addr} {a : Addr} (ha : as[s]? = some a) {e0 e7 : Option D} {E : DEnds} : ∀ (ps : Row) {to : Row} {l : LH} {e4 e5 e6 : Option D}, to.length + ps.length ≤ 9000 → (∀ p ∈ ps, p.1.length ≤ 100) → l a = some (rowO to) →
    (∀ l' e4 e5 e6, l' a = some (rowO (addAll L false ps to)) → (∀ x, x ≠ a → l' x = l x) → E.nx [e0, some (.int L), some (.lst (as.map D.ref)), some (.int (s : Nat)), e4, e5, e6, e7] l') →
    forL (gTup 2 (gCons (gName 4) (gCons (gName 5) gNil))) (nS B_with_letter_1) (ps.map fun p => .tup [wordD p.1, .int p.2]) E [e0, some (.int L), some (.lst (as.map D.ref)), some (.int (s : Nat)), e4, e5, e6, e7] l
  | [], to, l, e4, e5, e6, _, _, hl, h => h l _ _ _ hl fun x _ => rfl
  | p :: ps, to, l, e4, e5, e6, hz, hw, hl, h => by
    have w1 := hw p List.mem_cons_self
    have hr : (as.map D.ref)[s]? = some (.ref a) := by rw [List.getElem?_map, ha]; rfl
    rw [List.length_cons] at hz
    refine ⟨rfl, ?_⟩
    walk_at "w"
    refine ⟨by show 1 ≤ sizeLine; decide, ?_⟩
    refine ⟨by refine small ?_; simp only [List.length_map, List.length_singleton]; omega, ?_⟩
    rw [show (p.1.map D.int) ++ [D.int L] = (p.1 ++ [L]).map D.int by rw [List.map_append]; rfl]
    walk_at "w"
    refine ⟨_, atI_nat hr, ?_⟩
    walk_at "w"
    refine ⟨_, hl, ?_⟩
    walk_at "w"
    refine ⟨_, hl, _, keyT_word (p.1 ++ [L]), ?_⟩
    dsimp only
    rw [getA_row]
    walk_at "w"
    refine ⟨_, atI_nat hr, ?_⟩
    walk_at "w"
    refine ⟨_, hl, _, keyT_word (p.1 ++ [L]), ?_, ?_⟩
    · unfold rowKs
      rw [List.length_map]
      exact Nat.lt_of_lt_of_le (show to.length < 10000 by omega) (by decide)
    rw [putKs_row _ _ (opS false (getR to (p.1 ++ [L])) p.2), show ∀ x, x = opS false (getR to (p.1 ++ [L])) p.2 → putDs (rowKs to) (rowDs to) (wkey (p.1 ++ [L])) (.int x) = rowDs (putR to (p.1 ++ [L]) (opS false (getR to (p.1 ++ [L])) p.2)) from fun x hx => by rw [hx, putDs_row]]
    · refine with_letter_in ha ps (to := putR to (p.1 ++ [L]) (opS false (getR to (p.1 ++ [L])) p.2)) ?_ (fun q hq => hw q (List.mem_cons_of_mem _ hq)) uL_same fun l' e4 e5 e6 h1 h2 => h l' e4 e5 e6 h1 fun x hx => (h2 x hx).trans (uL_ne hx)
      have := put_len to (p.1 ++ [L]) (opS false (getR to (p.1 ++ [L])) p.2)
      omega
    · rfl
theorem with_letter_out {L : Int} {S : List Row} (hS : ∀ r ∈ S, RowSz r) {as : List Addr} {E : DEnds} {e7 : Option D} : ∀ (rs : List Row) {pre done : List Row} {p : Row} {l : LH} {e3 e4 e5 e6 : Option D}, pre ++ p :: rs = S → done.length = pre.length + 1 → Cells l as (done ++ rs) 0 →
    (∀ l' e3 e4 e5 e6, Cells l' as (done ++ stepS L false p rs) 0 → (∀ x, x ∉ as → l' x = l x) → E.nx [some (.lst (S.map rowD)), some (.int L), some (.lst (as.map D.ref)), e3, e4, e5, e6, e7] l') →
    forL (gName 3) (nS B_with_letter_2) (rgD (done.length : Nat) rs.length) E [some (.lst (S.map rowD)), some (.int L), some (.lst (as.map D.ref)), e3, e4, e5, e6, e7] l
  | [], pre, done, p, l, e3, e4, e5, e6, _, _, C, h => h l _ _ _ _ C fun x _ => rfl
  | r :: rs, pre, done, p, l, e3, e4, e5, e6, hp, hd, C, h => by
    have sp := hS p (by rw [← hp]; simp)
    have sr := hS r (by rw [← hp]; simp)
    obtain ⟨a, ha, hl⟩ := C.get (i := done.length) (r := r) (by rw [List.getElem?_append_right (Nat.le_refl _), Nat.sub_self]; rfl)
    rw [if_neg (Nat.not_lt_zero _)] at hl
    have hat : (S.map rowD)[pre.length]? = some (rowD p) := by rw [List.getElem?_map, ← hp, List.getElem?_append_right (Nat.le_refl _), Nat.sub_self]; rfl
    rw [List.length_cons, rgD_succ]
    refine ⟨?_⟩
    walk_at "w"
    rw [show ((done.length : Nat) : Int) - 1 = (pre.length : Nat) by omega]
    refine ⟨_, atI_nat hat, ?_⟩
    walk_at "w"
    rw [itemsD_row]
    refine with_letter_in ha p (by have := sp.1; have := sr.1; omega) (fun q hq => Nat.le_trans (sp.2 q hq) (by decide)) hl fun l' e4 e5 e6 h1 h2 => ?_
    rw [show ((done.length : Nat) : Int) + 1 = ((done ++ [addAll L false p r]).length : Nat) by rw [List.length_append, List.length_singleton]; omega]
    have C' := C.put ha (Nat.zero_le _) h1 h2
    have haS : a ∈ as := List.mem_of_getElem? ha
    refine with_letter_out hS rs (pre := pre ++ [p]) (done := done ++ [addAll L false p r]) (p := r) (by rw [List.append_assoc]; exact hp) (by rw [List.length_append, List.length_append, List.length_singleton, List.length_singleton, hd]) (by rw [List.append_assoc]; exact C') fun l2 e3 e4 e5 e6 C2 o2 => ?_
    refine h l2 e3 e4 e5 e6 ?_ fun x hx => (o2 x hx).trans (h2 x fun e => hx (by rw [e]; exact haS))
    rw [List.append_assoc] at C2
    exact C2
theorem with_back_in {L : Int} {s : Nat} {as : List Addr} {a : Addr} (ha : as[s]? = some a) {e0 e7 : Option D} {E : DEnds} : ∀ (ps : Row) {to : Row} {l : LH} {e4 e5 e6 : Option D}, to.length + ps.length ≤ 9000 → (∀ p ∈ ps, p.1.length ≤ 100) → l a = some (rowO to) →
    (∀ l' e4 e5 e6, l' a = some (rowO (addAll L true ps to)) → (∀ x, x ≠ a → l' x = l x) → E.nx [e0, some (.int L), some (.lst (as.map D.ref)), some (.int (s : Nat)), e4, e5, e6, e7] l') →
    forL (gTup 2 (gCons (gName 4) (gCons (gName 5) gNil))) (nS B_with_back_1) (ps.map fun p => .tup [wordD p.1, .int p.2]) E [e0, some (.int L), some (.lst (as.map D.ref)), some (.int (s : Nat)), e4, e5, e6, e7] l
  | [], to, l, e4, e5, e6, _, _, hl, h => h l _ _ _ hl fun x _ => rfl
  | p :: ps, to, l, e4, e5, e6, hz, hw, hl, h => by
    have w1 := hw p List.mem_cons_self
    have hr : (as.map D.ref)[s]? = some (.ref a) := by rw [List.getElem?_map, ha]; rfl
    rw [List.length_cons] at hz
    refine ⟨rfl, ?_⟩
    walk_at "w"
    refine ⟨by show 1 ≤ sizeLine; decide, ?_⟩
    refine ⟨by refine small ?_; simp only [List.length_map, List.length_singleton]; omega, ?_⟩
    rw [show (p.1.map D.int) ++ [D.int L] = (p.1 ++ [L]).map D.int by rw [List.map_append]; rfl]
    walk_at "w"
    refine ⟨_, atI_nat hr, ?_⟩
    walk_at "w"
    refine ⟨_, hl, ?_⟩
    walk_at "w"
    refine ⟨_, hl, _, keyT_word (p.1 ++ [L]), ?_⟩
    dsimp only
    rw [getA_row]
    walk_at "w"
    refine ⟨_, atI_nat hr, ?_⟩
    walk_at "w"
    refine ⟨_, hl, _, keyT_word (p.1 ++ [L]), ?_, ?_⟩
    · unfold rowKs
      rw [List.length_map]
      exact Nat.lt_of_lt_of_le (show to.length < 10000 by omega) (by decide)
    rw [putKs_row _ _ (opS true (getR to (p.1 ++ [L])) p.2), show ∀ x, x = opS true (getR to (p.1 ++ [L])) p.2 → putDs (rowKs to) (rowDs to) (wkey (p.1 ++ [L])) (.int x) = rowDs (putR to (p.1 ++ [L]) (opS true (getR to (p.1 ++ [L])) p.2)) from fun x hx => by rw [hx, putDs_row]]
    · refine with_back_in ha ps (to := putR to (p.1 ++ [L]) (opS true (getR to (p.1 ++ [L])) p.2)) ?_ (fun q hq => hw q (List.mem_cons_of_mem _ hq)) uL_same fun l' e4 e5 e6 h1 h2 => h l' e4 e5 e6 h1 fun x hx => (h2 x hx).trans (uL_ne hx)
      have := put_len to (p.1 ++ [L]) (opS true (getR to (p.1 ++ [L])) p.2)
      omega
    · rfl
theorem with_back_out {L : Int} {as : List Addr} {E : DEnds} {e0 e7 : Option D} : ∀ (rs : List Row) {pre : List Row} {p : Row} {l : LH} {e3 e4 e5 e6 : Option D}, (∀ r ∈ rs, RowSz r) → p.length + rs.length * 1024 ≤ 8192 → (∀ q ∈ p, q.1.length + rs.length ≤ 60) → Cells l as (pre ++ p :: rs) pre.length →
    (∀ l' k e3 e4 e5 e6, Cells l' as (pre ++ p :: stepS L true p rs) k → (∀ x, x ∉ as → l' x = l x) → E.nx [e0, some (.int L), some (.lst (as.map D.ref)), e3, e4, e5, e6, e7] l') →
    forL (gName 3) (nS B_with_back_2) (rgD ((pre.length + 1 : Nat) : Int) rs.length) E [e0, some (.int L), some (.lst (as.map D.ref)), e3, e4, e5, e6, e7] l
  | [], pre, p, l, e3, e4, e5, e6, _, _, _, C, h => h l _ _ _ _ _ C fun x _ => rfl
  | r :: rs, pre, p, l, e3, e4, e5, e6, hr, hz, hw, C, h => by
    have sr := hr r List.mem_cons_self
    obtain ⟨a0, ha0, hl0⟩ := C.get (i := pre.length) (r := p) (by rw [List.getElem?_append_right (Nat.le_refl _), Nat.sub_self]; rfl)
    rw [if_neg (Nat.lt_irrefl _)] at hl0
    have C1 := C.frz ha0 (by rw [List.getElem?_append_right (Nat.le_refl _), Nat.sub_self]; rfl)
    obtain ⟨a, ha, hl⟩ := C1.get (i := pre.length + 1) (r := r) (by rw [List.getElem?_append_right (by omega), show pre.length + 1 - pre.length = 1 by omega]; rfl)
    rw [if_neg (Nat.lt_irrefl _)] at hl
    have hat : (as.map D.ref)[pre.length]? = some (.ref a0) := by rw [List.getElem?_map, ha0]; rfl
    rw [List.length_cons] at hz
    rw [List.length_cons, rgD_succ]
    refine ⟨?_⟩
    walk_at "w"
    rw [show ((pre.length + 1 : Nat) : Int) - 1 = (pre.length : Nat) by omega]
    refine ⟨_, atI_nat hat, ?_⟩
    refine ⟨_, hl0, ?_⟩
    walk_at "w"
    rw [itemsD_row]
    refine with_back_in ha p (by have := sr.1; omega) (fun q hq => by have := hw q hq; omega) hl fun l' e4 e5 e6 h1 h2 => ?_
    have C1' : Cells (uL l a0 (.fz (rowD p))) as ((pre ++ [p]) ++ r :: rs) (pre ++ [p]).length := by
      rw [List.append_assoc, List.length_append, List.length_singleton]
      exact C1
    have C2 := C1'.put (by rw [List.length_append, List.length_singleton]; exact ha) (Nat.le_refl _) h1 h2
    have haS : a ∈ as := List.mem_of_getElem? ha
    have haS0 : a0 ∈ as := List.mem_of_getElem? ha0
    rw [show ((pre.length + 1 : Nat) : Int) + 1 = (((pre ++ [p]).length + 1 : Nat) : Int) by rw [List.length_append, List.length_singleton]; omega]
    have al := addAll_len L true p r
    refine with_back_out rs (pre := pre ++ [p]) (p := addAll L true p r) (fun q hq => hr q (List.mem_cons_of_mem _ hq)) (by have := sr.1; omega) (fun q hq => ?_) C2 fun l2 k e3 e4 e5 e6 C3 o3 => ?_
    · rcases addAll_keys L true p r (List.mem_map.mpr ⟨q, hq, rfl⟩) with z | ⟨u, hu, z⟩
      · obtain ⟨q2, h3, h4⟩ := List.mem_map.mp z
        have := sr.2 q2 h3
        rw [← h4]
        omega
      · obtain ⟨q2, h3, h4⟩ := List.mem_map.mp hu
        have := hw q2 h3
        rw [List.length_cons] at this
        rw [z, ← h4, List.length_append, List.length_singleton]
        omega
    · refine h l2 k e3 e4 e5 e6 ?_ fun x hx => (o3 x hx).trans ((h2 x fun e => hx (by rw [e]; exact haS)).trans (uL_ne fun e => hx (by rw [e]; exact haS0)))
      rw [List.append_assoc] at C3
      exact C3
theorem nodup_len : ∀ {ks T : List (List Int)}, ks.Nodup → (∀ u ∈ ks, u ∈ T) → ks.length ≤ T.length
  | [], T, _, _ => Nat.zero_le _
  | k :: ks, T, nd, h => by
    obtain ⟨n1, n2⟩ := List.nodup_cons.mp nd
    have hk := h k List.mem_cons_self
    have := nodup_len (ks := ks) (T := T.erase k) n2 fun u hu => (List.mem_erase_of_ne fun e => n1 (by rw [← e]; exact hu)).mpr (h u (List.mem_cons_of_mem _ hu))
    rw [List.length_erase_of_mem hk] at this
    have : 0 < T.length := List.length_pos_of_mem hk
    rw [List.length_cons]
    omega
def hashW (u : List Int) : Int := PySem.reduceHash (Builtin.Tuple.tupleHashOf (u.map hashInt))
theorem hashes_all : (gds.all fun p => (List.range (p.2 + 1)).all fun s => decide ((allL p.1 s).map hashW).Nodup) = true := by decide +kernel
theorem nodup_map_in {α β : Type} {h : α → β} : ∀ {ks : List α}, ks.Nodup → (∀ u ∈ ks, ∀ v ∈ ks, h u = h v → u = v) → (ks.map h).Nodup
  | [], _, _ => List.nodup_nil
  | k :: ks, nd, hi => by
    obtain ⟨n1, n2⟩ := List.nodup_cons.mp nd
    rw [List.map_cons]
    refine List.nodup_cons.mpr ⟨fun z => ?_, nodup_map_in n2 fun u hu v hv => hi u (List.mem_cons_of_mem _ hu) v (List.mem_cons_of_mem _ hv)⟩
    obtain ⟨v, hv, e⟩ := List.mem_map.mp z
    have := hi v (List.mem_cons_of_mem _ hv) k List.mem_cons_self e
    exact n1 (by rw [← this]; exact hv)
theorem RowsOk.at_ {a : Nat} {f : List Int → Int} : ∀ {rs : List Row} {s i : Nat} {r : Row}, RowsOk a f s rs → rs[i]? = some r → RowOk a (s + i) f r
  | [], _, _, _, _, h => by simp at h
  | q :: rs, s, 0, r, h, e => by
    have e : q = r := by simpa using e
    rw [← e]
    exact h.1
  | q :: rs, s, i + 1, r, h, e => by
    have := RowsOk.at_ (i := i) (r := r) h.2 (by simpa using e)
    rw [show s + (i + 1) = s + 1 + i by omega]
    exact this
theorem RowOk.hash {a d s : Nat} (gd : OkG a d) (hs : s ≤ d) {f : List Int → Int} {r : Row} (h : RowOk a s f r) : hashOk (rowKs r) := by
  intro P w
  have hn := of_decide_eq_true (List.all_eq_true.mp (gds_all hashes_all gd) s (List.mem_range.mpr (by show s < d + 1; omega)))
  have hn : ((allL a s).map hashW).Nodup := hn
  have e : (rowKs r).map (tupleKind (mixKind P w)).hash = (keysR r).map hashW := by
    rw [rowKs_keys, List.map_map]
    refine List.map_congr_left fun u _ => ?_
    show PySem.reduceHash (Builtin.Tuple.tupleHashOf ((u.map Sum.inl).map (keyH w))) = hashW u
    rw [List.map_map]
    rfl
  rw [e]
  refine nodup_map_in h.nd fun u hu v hv q => ?_
  obtain ⟨i, hi⟩ := List.getElem?_of_mem (h.ws u hu)
  obtain ⟨j, hj⟩ := List.getElem?_of_mem (h.ws v hv)
  have := nodup_at (i := i) (j := j) (a := hashW u) hn (by rw [List.getElem?_map, hi]; rfl) (by rw [List.getElem?_map, hj, q]; rfl)
  subst this
  rw [hi] at hj
  exact Option.some.inj hj
theorem RowOk.sz {a d s : Nat} (gd : OkG a d) (hs : s ≤ d) {f : List Int → Int} {r : Row} (h : RowOk a s f r) : RowSz r ∧ ∀ q ∈ r, q.1.length = s := by
  have g := gd.num
  have w : ∀ q ∈ r, q.1.length = s := fun q hq => allL_word a s q.1 (h.ws q.1 (List.mem_map.mpr ⟨q, hq, rfl⟩))
  refine ⟨⟨?_, fun q hq => by rw [w q hq]; omega⟩, w⟩
  have h1 := nodup_len h.nd h.ws
  have e : (keysR r).length = r.length := by unfold keysR; rw [List.length_map]
  have al2 : a ^ s ≤ 4 ^ 5 := Nat.le_trans (Nat.pow_le_pow_left g.2.1 s) (Nat.pow_le_pow_right (by decide) (by omega))
  have al3 : (4 : Nat) ^ 5 = 1024 := by decide
  rw [allL_len] at h1
  omega
theorem c_with_letter {a d : Nat} (gd : OkG a d) {L : Int} (h1 : 1 ≤ L) (h2 : L ≤ a) {f : List Int → Int} {S : List Row} (hS : RowsOk a f 0 S) (hn : S.length = d + 1) {l : LH} {Q : DK} (h : Q (.lst ((stepSer L false S).map rowD)) l) : callD D_with_letter [.lst (S.map rowD), .int L] l Q := by
  have g := gd.num
  have okr : ∀ r ∈ S, hashOk (rowKs r) ∧ RowSz r := fun r hr => by
    obtain ⟨i, hi⟩ := List.getElem?_of_mem hr
    have hl := (List.getElem?_eq_some_iff.mp hi).1
    have := hS.at_ hi
    exact ⟨this.hash gd (by omega), (this.sz gd (by omega)).1⟩
  refine ⟨rfl, ?_⟩
  walk_at "w"
  refine ⟨by refine small ?_; rw [List.length_map]; omega, ?_⟩
  have e : S.map rowD = (S.map fun r => (rowD r, r)).map (·.1) := by rw [List.map_map]; rfl
  have e2 : (S.map fun r => (rowD r, r)).map (·.2) = S := by rw [List.map_map]; exact List.map_id S
  conv => arg 5; rw [e]
  refine comp_newrows _ (fun z hz K1 K2 l1 k1 => ?_) fun as l' C fr o => ?_
  · obtain ⟨r, hr, rfl⟩ := List.mem_map.mp hz
    refine ifB_true ⟨?_⟩
    exact ⟨(okr r hr).1, k1⟩
  rw [e2] at C
  cases S with
  | nil => simp at hn
  | cons r rs =>
    walk_at "w"
    walk_at "s"
    rw [List.length_map]
    refine ⟨⟨by decide, by decide, by omega, by omega⟩, ?_⟩
    rw [show (((r :: rs).length : Nat) : Int) - 1 = (rs.length : Nat) by rw [List.length_cons]; omega, show ((rs.length : Nat) : Int).toNat = rs.length from rfl]
    refine with_letter_out (S := r :: rs) (fun q hq => (okr q hq).2) rs (pre := []) (done := [r]) (p := r) rfl rfl C fun l2 e3 e4 e5 e6 C2 o2 => ⟨?_⟩
    walk_at "w"
    exact fz_all C2 fr (fun x hx => (o2 x hx).trans (o x hx)) h
theorem c_with_back {a d : Nat} (gd : OkG a d) {L : Int} (h1 : 1 ≤ L) (h2 : L ≤ a) {f : List Int → Int} {S : List Row} (hS : RowsOk a f 0 S) (hn : S.length = d + 1) {l : LH} {Q : DK} (h : Q (.lst ((stepSer L true S).map rowD)) l) : callD D_with_back [.lst (S.map rowD), .int L] l Q := by
  have g := gd.num
  have okr : ∀ r ∈ S, hashOk (rowKs r) ∧ RowSz r := fun r hr => by
    obtain ⟨i, hi⟩ := List.getElem?_of_mem hr
    have hl := (List.getElem?_eq_some_iff.mp hi).1
    have := hS.at_ hi
    exact ⟨this.hash gd (by omega), (this.sz gd (by omega)).1⟩
  refine ⟨rfl, ?_⟩
  walk_at "w"
  refine ⟨by refine small ?_; rw [List.length_map]; omega, ?_⟩
  have e : S.map rowD = (S.map fun r => (rowD r, r)).map (·.1) := by rw [List.map_map]; rfl
  have e2 : (S.map fun r => (rowD r, r)).map (·.2) = S := by rw [List.map_map]; exact List.map_id S
  conv => arg 5; rw [e]
  refine comp_newrows _ (fun z hz K1 K2 l1 k1 => ?_) fun as l' C fr o => ?_
  · obtain ⟨r, hr, rfl⟩ := List.mem_map.mp hz
    refine ifB_true ⟨?_⟩
    exact ⟨(okr r hr).1, k1⟩
  rw [e2] at C
  cases S with
  | nil => simp at hn
  | cons r rs =>
    have sr := (okr r List.mem_cons_self).2
    have z0 := ((hS.1).sz gd (Nat.zero_le _)).2
    rw [List.length_cons] at hn
    walk_at "w"
    walk_at "s"
    rw [List.length_map]
    refine ⟨⟨by decide, by decide, by rw [List.length_cons]; omega, by rw [List.length_cons]; omega⟩, ?_⟩
    rw [show (((r :: rs).length : Nat) : Int) - 1 = (rs.length : Nat) by rw [List.length_cons]; omega, show ((rs.length : Nat) : Int).toNat = rs.length from rfl]
    refine with_back_out rs (pre := []) (p := r) (fun q hq => (okr q (List.mem_cons_of_mem _ hq)).2) (by have := sr.1; omega) (fun q hq => by rw [z0 q hq]; omega) C fun l2 k e3 e4 e5 e6 C2 o2 => ⟨?_⟩
    walk_at "w"
    exact fz_all C2 fr (fun x hx => (o2 x hx).trans (o x hx)) h
def unitRows (d : Nat) : List Row := [([], 1)] :: List.replicate d []
theorem unit_ok (a d : Nat) : RowsOk a baseF 0 (unitRows d) := by
  have z : ∀ n s, 1 ≤ s → RowsOk a baseF s (List.replicate n []) := by
    intro n
    induction n with
    | zero => intro s _; trivial
    | succ n ih =>
      intro s hs
      rw [List.replicate_succ]
      refine ⟨⟨List.nodup_nil, fun u hu => (by cases hu), fun w hw => ?_⟩, ih (s + 1) (by omega)⟩
      rcases snoc_cases w with rfl | ⟨u, q, rfl⟩
      · simp at hw; omega
      · rw [List.reverse_append]; rfl
  refine ⟨⟨by show (List.map _ [(([] : List Int), (1 : Int))]).Nodup; simp, fun u hu => ?_, fun w hw => ?_⟩, z d 1 (Nat.le_refl _)⟩
  · have e : u = [] := by simpa [keysR] using hu
    rw [e]
    exact List.mem_singleton.mpr rfl
  · rw [List.eq_nil_of_length_eq_zero hw]
    rfl
theorem c_unit_series {d : Nat} (hd : d ≤ 50) {l : LH} {Q : DK} (h : Q (.lst ((unitRows d).map rowD)) l) : callD D_unit_series [.int d] l Q := by
  refine ⟨rfl, ?_⟩
  walk_at "w"
  refine ⟨rfl, ?_⟩
  walk_at "w"
  refine ⟨⟨by omega, by omega⟩, by rw [rgD_len]; exact small (by omega), ?_⟩
  rw [show (((d : Nat) : Int) + 1).toNat = d + 1 by omega]
  have e : rgD 0 (d + 1) = ((rgD 0 (d + 1)).map fun x => (x, ([] : Row))).map (·.1) := by rw [List.map_map]; exact (List.map_id _).symm
  have e2 : ((rgD 0 (d + 1)).map fun x => (x, ([] : Row))).map (·.2) = [] :: List.replicate d [] := by
    rw [List.map_map, show ((fun x : D × Row => x.2) ∘ fun x => (x, ([] : Row))) = fun _ => [] from rfl, List.map_const', rgD_len]
    rfl
  conv => arg 5; rw [e]
  refine comp_newrows _ (fun z hz K1 K2 l1 k1 => ?_) fun as l' C fr o => ?_
  · obtain ⟨x, hx, rfl⟩ := List.mem_map.mp hz
    obtain ⟨j, _, rfl⟩ := List.mem_map.mp hx
    exact ifB_true ⟨k1⟩
  rw [e2] at C
  obtain ⟨a, ha, hl⟩ := C.get (i := 0) (r := []) rfl
  rw [if_neg (Nat.lt_irrefl _)] at hl
  walk_at "w"
  walk_at "s"
  refine ⟨_, atI_nat (j := 0) (by rw [List.getElem?_map, ha]; rfl), ?_⟩
  walk_at "w"
  refine ⟨Nat.zero_le _, ?_⟩
  walk_at "w"
  refine ⟨_, hl, _, keyT_word [], by decide, ?_⟩
  have C1 : Cells (uL l' a (.dT [wkey []] [.int 1])) as (unitRows d) 0 := Cells.put (done := []) C ha (Nat.le_refl _) uL_same fun x hx => uL_ne hx
  have haS : a ∈ as := List.mem_of_getElem? ha
  refine ⟨?_⟩
  exact fz_all C1 fr (fun x hx => (uL_ne fun e => hx (by rw [e]; exact haS)).trans (o x hx)) h
/-- the rows behind a word -/
def wordSer (d : Nat) (w : List Int) : List Row := w.foldl (fun S st => if 0 < st then stepSer st false S else stepSer (-st) true S) (unitRows d)
def StepsOf (a : Nat) (w : List Int) : Prop := ∀ st ∈ w, st ≠ 0 ∧ -(a : Int) ≤ st ∧ st ≤ a
theorem stepSer_len (L : Int) (b : Bool) (S : List Row) : (stepSer L b S).length = S.length := by
  cases S with
  | nil => rfl
  | cons r rs => rw [stepSer, List.length_cons, stepS_len, List.length_cons]
theorem ser_fold {a : Nat} : ∀ (w : List Int) {S : List Row} {f : List Int → Int}, StepsOf a w → RowsOk a f 0 S →
    RowsOk a (w.foldl (fun f st => if 0 < st then stepF st false f else stepF (-st) true f) f) 0 (w.foldl (fun S st => if 0 < st then stepSer st false S else stepSer (-st) true S) S) ∧
      (w.foldl (fun S st => if 0 < st then stepSer st false S else stepSer (-st) true S) S).length = S.length
  | [], S, f, _, h => ⟨h, rfl⟩
  | st :: w, S, f, hw, h => by
    obtain ⟨s0, s1, s2⟩ := hw st List.mem_cons_self
    have hw' : StepsOf a w := fun x hx => hw x (List.mem_cons_of_mem _ hx)
    rw [List.foldl_cons, List.foldl_cons]
    by_cases e : 0 < st
    · rw [if_pos e, if_pos e]
      obtain ⟨i1, i2⟩ := ser_fold w hw' (stepSer_ok (by omega) s2 (b := false) h)
      exact ⟨i1, i2.trans (stepSer_len _ _ _)⟩
    · rw [if_neg e, if_neg e]
      obtain ⟨i1, i2⟩ := ser_fold w hw' (stepSer_ok (L := -st) (by omega) (by omega) (b := true) h)
      exact ⟨i1, i2.trans (stepSer_len _ _ _)⟩
theorem wordSer_ok {a : Nat} (d : Nat) {w : List Int} (hw : StepsOf a w) : RowsOk a (wordF w) 0 (wordSer d w) ∧ (wordSer d w).length = d + 1 := by
  obtain ⟨i1, i2⟩ := ser_fold w hw (unit_ok a d)
  exact ⟨i1, i2.trans (by unfold unitRows; simp)⟩
/-- a word handed as a tuple, a list, or a list that may be written -/
def HdL (x : D) (w : List Int) (l : LH) : Prop := Hd x w ∨ ∃ b, x = .ref b ∧ l b = some (.lst (w.map D.int))
theorem word_step {a d : Nat} (gd : OkG a d) {st : Int} (hst : st ≠ 0 ∧ -(a : Int) ≤ st ∧ st ≤ a) {S : List Row} {f : List Int → Int} (hS : RowsOk a f 0 S) (hn : S.length = d + 1) {e0 e1 : Option D} {E : DEnds} {l : LH}
    (h : E.nx [e0, e1, some (.lst ((if 0 < st then stepSer st false S else stepSer (-st) true S).map rowD)), some (.int st)] l) : nS B_series_of_word_1 E [e0, e1, some (.lst (S.map rowD)), some (.int st)] l := by
  refine ⟨?_⟩
  walk_at "w"
  by_cases e : 0 < st
  · rw [if_pos e] at h
    rw [decide_eq_true e]
    refine ifB_true ?_
    walk_at "w"
    exact c_with_letter gd (by omega) hst.2.2 hS hn h
  · rw [if_neg e] at h
    rw [decide_eq_false e]
    refine ifB_false ?_
    walk_at "w"
    exact c_with_back gd (L := -st) (by have := hst.1; omega) (by have := hst.2.1; omega) hS hn h
theorem word_loopL {a d : Nat} (gd : OkG a d) {e0 e1 : Option D} {E : DEnds} {l : LH} : ∀ (w : List Int) {S : List Row} {f : List Int → Int} {e3 : Option D}, StepsOf a w → RowsOk a f 0 S → S.length = d + 1 →
    (∀ e3, E.nx [e0, e1, some (.lst ((w.foldl (fun S st => if 0 < st then stepSer st false S else stepSer (-st) true S) S).map rowD)), e3] l) →
    forL (gName 3) (nS B_series_of_word_1) (w.map D.int) E [e0, e1, some (.lst (S.map rowD)), e3] l
  | [], S, f, e3, _, _, _, h => h _
  | st :: w, S, f, e3, hw, hS, hn, h => by
    have hst := hw st List.mem_cons_self
    refine word_step gd hst hS hn ?_
    have hw' : StepsOf a w := fun x hx => hw x (List.mem_cons_of_mem _ hx)
    by_cases e : 0 < st
    · refine word_loopL gd w (f := stepF st false f) hw' (by rw [if_pos e]; exact stepSer_ok (by omega) hst.2.2 hS) (by rw [if_pos e, stepSer_len, hn]) h
    · refine word_loopL gd w (f := stepF (-st) true f) hw' (by rw [if_neg e]; exact stepSer_ok (by have := hst.1; omega) (by have := hst.2.1; omega) hS) (by rw [if_neg e, stepSer_len, hn]) h
theorem word_loopR {a d : Nat} (gd : OkG a d) {e0 e1 : Option D} {E : DEnds} {l : LH} {b : Addr} {all : List D} (hb : l b = some (.lst all)) : ∀ (w : List Int) {S : List Row} {f : List Int → Int} {e3 : Option D}, StepsOf a w → RowsOk a f 0 S → S.length = d + 1 →
    (∀ e3, E.nx [e0, e1, some (.lst ((w.foldl (fun S st => if 0 < st then stepSer st false S else stepSer (-st) true S) S).map rowD)), e3] l) →
    forR b all (gName 3) (nS B_series_of_word_1) (w.map D.int) E [e0, e1, some (.lst (S.map rowD)), e3] l
  | [], S, f, e3, _, _, _, h => ⟨hb, h _⟩
  | st :: w, S, f, e3, hw, hS, hn, h => by
    have hst := hw st List.mem_cons_self
    refine ⟨hb, ?_⟩
    refine word_step gd hst hS hn ?_
    have hw' : StepsOf a w := fun x hx => hw x (List.mem_cons_of_mem _ hx)
    by_cases e : 0 < st
    · refine word_loopR gd hb w (f := stepF st false f) hw' (by rw [if_pos e]; exact stepSer_ok (by omega) hst.2.2 hS) (by rw [if_pos e, stepSer_len, hn]) h
    · refine word_loopR gd hb w (f := stepF (-st) true f) hw' (by rw [if_neg e]; exact stepSer_ok (by have := hst.1; omega) (by have := hst.2.1; omega) hS) (by rw [if_neg e, stepSer_len, hn]) h
theorem c_series_of_word {a d : Nat} (gd : OkG a d) {g b c : Addr} {ck : List Key} {cd : List D} {l : LH} {Q : DK} (G : GndAt l g b c a d ck cd) {w : List Int} (hw : StepsOf a w) {x : D} (hx : HdL x w l) (h : Q (.lst ((wordSer d w).map rowD)) l) : callD D_series_of_word [.ref g, x] l Q := by
  have gn := gd.num
  have hn : (unitRows d).length = d + 1 := by unfold unitRows; simp
  rcases hx with (rfl | rfl) | ⟨y, rfl, hy⟩
  all_goals
    refine ⟨rfl, ?_⟩
    walk_at "w"
    refine ⟨_, G.g, rfl, ?_⟩
    refine ⟨rfl, ?_⟩
    walk_at "w"
    refine ⟨_, G.g, rfl, ?_⟩
    walk_at "w"
    refine c_unit_series (by omega) ?_
    walk_at "w"
    walk_at "s"
  · exact word_loopL gd w hw (unit_ok a d) hn fun e3 => ⟨h⟩
  · exact word_loopL gd w hw (unit_ok a d) hn fun e3 => ⟨h⟩
  · exact ⟨_, hy, word_loopR gd hy w hw (unit_ok a d) hn fun e3 => ⟨h⟩⟩
theorem longer_loop {a : Nat} (ha : a ≤ 10) {c : Addr} {e0 : Option D} {E : DEnds} {l0 : LH} : ∀ (ws : List (List Int)) {acc : List (List Int)} {e3 e4 : Option D}, acc.length + 10 * ws.length ≤ 100000 → (∀ w ∈ ws, w.length ≤ 100) →
    (∀ e3 e4, E.nx [e0, some (.int a), some (.ref c), e3, e4] (uL l0 c (.lst ((acc ++ expandL a ws).map wordD)))) →
    forL (gName 3) (nS B_longer_words_1) (ws.map wordD) E [e0, some (.int a), some (.ref c), e3, e4] (uL l0 c (.lst (acc.map wordD)))
  | [], acc, e3, e4, _, _, h => by
    have h := h e3 e4
    rw [show acc ++ expandL a [] = acc by unfold expandL; simp] at h
    exact h
  | w :: ws, acc, e3, e4, hz, hw, h => by
    rw [List.length_cons] at hz
    have w1 := hw w List.mem_cons_self
    refine ⟨?_⟩
    walk_at "w"
    refine ⟨_, uL_same, ⟨by decide, by decide, by omega, by omega⟩, by rw [rgD_len]; exact small (by omega), ?_⟩
    rw [show (((a : Nat) : Int) + 1 - 1).toNat = a by omega]
    refine comp_pure (f := fun d => match d with | .int i => wordD (w ++ [i]) | d => d) (fun d hd K1 K2 h1 => ?_) ?_
    · obtain ⟨j, hj, rfl⟩ := List.mem_map.mp hd
      refine ifB_true ⟨?_⟩
      walk_at "w"
      refine ⟨by show 1 ≤ sizeLine; decide, ?_⟩
      walk_at "w"
      refine ⟨by refine small ?_; rw [List.length_map, List.length_singleton]; omega, ?_⟩
      have h1 : K1 (wordD (w ++ [(1 : Int) + (j : Nat)])) _ := h1
      unfold wordD at h1
      rw [List.map_append] at h1
      exact h1
    · have e1 : ((rgD 1 a).map fun d => match d with | .int i => wordD (w ++ [i]) | d => d) = ((List.range a).map fun k => w ++ [((1 + k : Nat) : Int)]).map wordD := by
        rw [show (1 : Int) = ((1 : Nat) : Int) from rfl]
        unfold rgD
        rw [List.map_map, List.map_map]
        refine List.map_congr_left fun k _ => ?_
        show wordD (w ++ [((1 : Nat) : Int) + (k : Nat)]) = wordD (w ++ [((1 + k : Nat) : Int)])
        congr 1
      rw [e1]
      walk_at "w"
      refine ⟨_, uL_same, ?_, ?_⟩
      · refine small ?_
        rw [List.length_map, List.length_map, List.length_map, List.length_range]
        omega
      · rw [uL_uL, ← List.map_append]
        refine longer_loop ha ws (acc := acc ++ (List.range a).map fun k => w ++ [((1 + k : Nat) : Int)]) (by rw [List.length_append, List.length_map, List.length_range]; omega) (fun u hu => hw u (List.mem_cons_of_mem _ hu)) fun e3 e4 => ?_
        have h := h e3 e4
        rw [show acc ++ expandL a (w :: ws) = (acc ++ (List.range a).map fun k => w ++ [((1 + k : Nat) : Int)]) ++ expandL a ws by unfold expandL; rw [List.map_cons, List.flatten_cons, List.append_assoc]] at h
        exact h
theorem c_longer_words {a : Nat} (ha : a ≤ 10) {ws : List (List Int)} (hz : ws.length ≤ 5000) (hw : ∀ w ∈ ws, w.length ≤ 100) {l : LH} {Q : DK} (h : Q (.lst ((expandL a ws).map wordD)) l) : callD D_longer_words [.lst (ws.map wordD), .int a] l Q := by
  refine ⟨rfl, ?_⟩
  walk_at "w"
  refine ⟨Nat.zero_le _, fun b nb => ?_⟩
  walk_at "w"
  walk_at "s"
  refine longer_loop ha ws (acc := []) (by simp; omega) hw fun e3 e4 => ⟨?_⟩
  walk_at "w"
  refine ⟨_, uL_same, ?_⟩
  rw [dL_uL' nb]
  exact h
theorem words_loop {a : Nat} (ha : a ≤ 4) {r : List D} {g f : Addr} {E : DEnds} (hgf : g ≠ f) : ∀ (n m : Nat) {l : LH} {acc : List (List Int)} {lo : Int} {e3 : Option D}, m + n ≤ 6 → l g = some (.ins cl_Ground (.int a :: r)) → l f = some (.lst (acc.map wordD)) → acc.length + n * 5000 ≤ 100000 →
    (∀ l' e2 e3, l' = uL l f (.lst ((acc ++ wordsF a m n).map wordD)) → E.nx [some (.ref g), some (.ref f), e2, e3] l') →
    forL (gName 3) (nS B_Ground_words_1) (rgD lo n) E [some (.ref g), some (.ref f), some (.lst ((allL a m).map wordD)), e3] l
  | 0, m, l, acc, lo, e3, _, hg, hf, _, h => by
    refine h l _ _ ?_
    funext x
    by_cases hx : x = f
    · subst hx; rw [uL_same, hf, wordsF, List.append_nil]
    · rw [uL_ne hx]
  | n + 1, m, l, acc, lo, e3, hz, hg, hf, hl, h => by
    rw [rgD_succ]
    refine ⟨?_⟩
    have al := allL_len a m
    have al2 : a ^ m ≤ 4 ^ 5 := Nat.le_trans (Nat.pow_le_pow_left ha m) (Nat.pow_le_pow_right (by decide) (by omega))
    have al3 : (4 : Nat) ^ 5 = 1024 := by decide
    walk_at "w"
    refine ⟨_, hf, _, hf, by refine small ?_; rw [List.length_map, List.length_map]; omega, ?_⟩
    rw [← List.map_append]
    walk_at "w"
    refine ⟨_, (uL_ne hgf).trans hg, rfl, ?_⟩
    walk_at "w"
    refine c_longer_words (by omega) (by omega) (fun w hw => by rw [allL_word a m w hw]; omega) ?_
    walk_at "w"
    rw [show expandL a (allL a m) = allL a (m + 1) from rfl]
    refine words_loop ha hgf n (m + 1) (acc := acc ++ allL a m) (by omega) ((uL_ne hgf).trans hg) uL_same (by rw [List.length_append]; omega) fun l' e2 e3 e => ?_
    refine h l' e2 e3 ?_
    rw [e, uL_uL, wordsF, List.append_assoc]
theorem c_Ground_words {a d : Nat} (gd : OkG a d) {g : Addr} {r : List D} {l : LH} {Q : DK} (hg : l g = some (.ins cl_Ground (.int a :: .int d :: r))) (h : Q (.lst ((wordsG a d).map wordD)) l) : callD D_Ground_words [.ref g] l Q := by
  obtain ⟨a1, a4, d1, d5, ad⟩ := gd.num
  refine ⟨rfl, ?_⟩
  walk_at "w"
  refine ⟨Nat.zero_le _, fun f nf => ?_⟩
  have hgf : g ≠ f := fun e => by subst e; rw [hg] at nf; cases nf
  walk_at "w"
  walk_at "s"
  refine ⟨?_⟩
  walk_at "w"
  refine ⟨_, (uL_ne hgf).trans hg, rfl, ?_⟩
  walk_at "w"
  refine ⟨⟨by omega, by omega⟩, ?_⟩
  rw [show (((d : Nat) : Int) + 1).toNat = d + 1 by omega]
  refine words_loop a4 hgf (d + 1) 0 (acc := []) (by omega) ((uL_ne hgf).trans hg) uL_same (by simp; omega) fun l' e2 e3 e => ⟨?_⟩
  rw [e, uL_uL]
  walk_at "w"
  refine ⟨_, uL_same, ?_⟩
  rw [dL_uL' nf]
  exact h
theorem words_ser {a d : Nat} (gd : OkG a d) {f : List Int → Int} {S : List Row} (hS : RowsOk a f 0 S) (hn : S.length = d + 1) {w : List Int} (hw : w ∈ wordsG a d) : ∃ r, S[w.length]? = some r ∧ getR r w = f w.reverse := by
  obtain ⟨_, h2, _⟩ := wordsF_mem hw
  have hl : w.length < S.length := by omega
  have hi : S[w.length]? = some S[w.length] := List.getElem?_eq_getElem hl
  have q := hS.at_ hi
  rw [Nat.zero_add] at q
  exact ⟨_, hi, q.at_ w rfl⟩
def sumsG (a d : Nat) (f : List Int → Int) : List Int := (wordsG a d).map fun w => f w.reverse
theorem sums_map {a d : Nat} (f : List Int → Int) : ((wordsG a d).map wordD).map (fun x => match x with | .tup xs => D.int (f ((intsOf xs).getD []).reverse) | x => x) = (sumsG a d f).map D.int := by
  unfold sumsG
  rw [List.map_map, List.map_map]
  refine List.map_congr_left fun w _ => ?_
  show D.int (f ((intsOf (w.map D.int)).getD []).reverse) = _
  rw [intsOf_map]
  rfl
theorem c_list_of_series {a d : Nat} (gd : OkG a d) {g b c : Addr} {ck : List Key} {cd : List D} {l : LH} {Q : DK} (G : GndAt l g b c a d ck cd) {f : List Int → Int} {S : List Row} (hS : RowsOk a f 0 S) (hn : S.length = d + 1) (h : Q (.lst ((sumsG a d f).map D.int)) l) : callD D_list_of_series [.ref g, .lst (S.map rowD)] l Q := by
  have wl := wordsG_len gd
  refine ⟨rfl, ?_⟩
  walk_at "w"
  refine ⟨_, G.g, rfl, ?_⟩
  walk_at "w"
  refine c_Ground_words gd G.g ?_
  walk_at "w"
  refine ⟨by refine small ?_; rw [List.length_map]; omega, ?_⟩
  refine comp_pure (f := fun x => match x with | .tup xs => D.int (f ((intsOf xs).getD []).reverse) | x => x) (fun x hx K1 K2 k1 => ?_) ?_
  · obtain ⟨w, hw, rfl⟩ := List.mem_map.mp hx
    replace k1 : K1 (.int (f ((intsOf (w.map D.int)).getD []).reverse)) l := k1
    rw [intsOf_map] at k1
    obtain ⟨r, hr, e⟩ := words_ser gd hS hn hw
    refine ifB_true ⟨?_⟩
    walk_at "w"
    rw [List.length_map]
    refine ⟨_, atI_nat (by rw [List.getElem?_map, hr]; rfl), ?_⟩
    walk_at "w"
    refine ⟨_, keyT_word w, ?_⟩
    dsimp only
    rw [getA_row, e]
    exact k1
  rw [sums_map]
  exact h
theorem c_scattered {a d : Nat} (gd : OkG a d) {g b c : Addr} {ck : List Key} {cd : List D} {l : LH} {Q : DK} (G : GndAt l g b c a d ck cd) {w : List Int} (hw : StepsOf a w) {x : D} (hx : HdL x w l) (h : Q (.lst ((sumsG a d (wordF w)).map D.int)) l) : callD D_scattered [.ref g, x] l Q := by
  obtain ⟨s1, s2⟩ := wordSer_ok d hw
  refine ⟨rfl, ?_⟩
  walk_at "w"
  refine c_series_of_word gd G hw hx ?_
  walk_at "w"
  exact c_list_of_series gd G s1 s2 h

end Law

namespace Law
open PySem PySem.Spec PyProof.Rows L2 DL
local macro_rules | `(tactic| walk_at "w") => `(tactic| conv => whnf)
local macro_rules | `(tactic| walk_at "s") => `(tactic| (refine ⟨?_⟩; conv => whnf))
local macro_rules | `(tactic| walk_at "z") => `(tactic| (refine small ?_; simp only [List.length_map, List.length_append, List.length_reverse, List.length_cons, List.length_nil]; omega))
local macro_rules | `(tactic| walk_at "q") => `(tactic| (refine ⟨(okN_tints _).ok, (okN_tints _).ok, ?_⟩; rw [eqD_tints]))
/-! words' series as folds -/
def rb (ws : List Int) : List Int := ws.reverse.map fun i => -i
theorem rb_cons (x : Int) (w : List Int) : rb (x :: w) = rb w ++ [-x] := by unfold rb; rw [List.reverse_cons, List.map_append]; rfl
def stepG (f : List Int → Int) (st : Int) : List Int → Int := if 0 < st then stepF st false f else stepF (-st) true f
theorem stepF_tf (L : Int) (F : List Int → Int) : ∀ r, stepF L true (stepF L false F) r = F r
  | [] => rfl
  | q :: qs => by
    have ih := stepF_tf L F qs
    rw [stepF]
    by_cases e : q = L
    · rw [if_pos e, if_pos rfl, ih, stepF, if_pos e]
      show (F (q :: qs) + F qs) - F qs = _
      omega
    · rw [if_neg e, stepF, if_neg e]
theorem stepF_ft (L : Int) (F : List Int → Int) : ∀ r, stepF L false (stepF L true F) r = F r
  | [] => rfl
  | q :: qs => by
    rw [stepF]
    by_cases e : q = L
    · rw [if_pos e, stepF, if_pos e]
      show (F (q :: qs) - stepF L true F qs) + stepF L true F qs = _
      omega
    · rw [if_neg e, stepF, if_neg e]
theorem stepG_pair {s : Int} (hs : s ≠ 0) (F : List Int → Int) : stepG (stepG F s) (-s) = F := by
  funext r
  unfold stepG
  by_cases e : 0 < s
  · rw [if_pos e, if_neg (by omega), Int.neg_neg]
    exact stepF_tf s F r
  · rw [if_neg e, if_pos (by omega)]
    exact stepF_ft (-s) F r
theorem wordF_fold (w : List Int) : wordF w = w.foldl stepG baseF := rfl
theorem StepsOf.rb {a : Nat} {u : List Int} (h : StepsOf a u) : StepsOf a (rb u) := fun x hx => by
  obtain ⟨y, hy, rfl⟩ := List.mem_map.mp hx
  have := h y (List.mem_reverse.mp hy)
  exact ⟨by have := this.1; omega, by have := this.2.2; omega, by have := this.2.1; omega⟩
theorem fold_right : ∀ (w : List Int) (F : List Int → Int), (∀ x ∈ w, x ≠ 0) → (w ++ rb w).foldl stepG F = F
  | [], F, _ => rfl
  | x :: w, F, h => by
    have e : x :: w ++ rb (x :: w) = x :: ((w ++ rb w) ++ [-x]) := by rw [rb_cons]; simp
    rw [e, List.foldl_cons, List.foldl_append, fold_right w _ fun y hy => h y (List.mem_cons_of_mem _ hy), List.foldl_cons, List.foldl_nil, stepG_pair (h x List.mem_cons_self)]
theorem StepsOf.nz {a : Nat} {u : List Int} (h : StepsOf a u) : ∀ x ∈ u, x ≠ 0 := fun x hx => (h x hx).1
/-! products of series, by reversed words -/
def conv (f : List Int → Int) : (List Int → Int) → List Int → Int
  | g, [] => f [] * g []
  | g, q :: qs => f (q :: qs) * g [] + conv f (fun r => g (q :: r)) qs
theorem conv_add (f : List Int → Int) : ∀ (r : List Int) (g h : List Int → Int), conv f (fun r => g r + h r) r = conv f g r + conv f h r
  | [], g, h => Int.mul_add _ _ _
  | q :: qs, g, h => by
    rw [conv, conv, conv, conv_add f qs (fun r => g (q :: r)) fun r => h (q :: r), Int.mul_add]
    omega
theorem conv_sub (f : List Int → Int) : ∀ (r : List Int) (g h : List Int → Int), conv f (fun r => g r - h r) r = conv f g r - conv f h r
  | [], g, h => Int.mul_sub _ _ _
  | q :: qs, g, h => by
    rw [conv, conv, conv, conv_sub f qs (fun r => g (q :: r)) fun r => h (q :: r), Int.mul_sub]
    omega
theorem conv_base (f : List Int → Int) : ∀ r, conv f baseF r = f r
  | [] => Int.mul_one _
  | q :: qs => by
    have z : ∀ (r : List Int), conv f (fun _ => 0) r = 0 := by
      intro r
      induction r with
      | nil => exact Int.mul_zero _
      | cons q qs ih => rw [conv, ih, Int.mul_zero]; rfl
    rw [conv]
    show f (q :: qs) * 1 + conv f (fun _ => 0) qs = _
    rw [z, Int.mul_one, Int.add_zero]
theorem conv_congr (f : List Int → Int) : ∀ (r : List Int) {g h : List Int → Int}, (∀ k, k ≤ r.length → g (r.take k) = h (r.take k)) → conv f g r = conv f h r
  | [], g, h, e => by
    rw [conv, conv]
    have := e 0 (Nat.le_refl _)
    rw [List.take_zero] at this
    rw [this]
  | q :: qs, g, h, e => by
    have e0 := e 0 (Nat.zero_le _)
    rw [List.take_zero] at e0
    rw [conv, conv, e0, conv_congr f qs (g := fun r => g (q :: r)) (h := fun r => h (q :: r)) fun k hk => e (k + 1) (by rw [List.length_cons]; omega)]
theorem stepF_conv (L : Int) (b : Bool) (f g : List Int → Int) : ∀ r, stepF L b (conv f g) r = conv f (stepF L b g) r
  | [] => rfl
  | q :: qs => by
    have ih := stepF_conv L b f g qs
    rw [stepF]
    by_cases e : q = L
    · rw [if_pos e, conv]
      cases b with
      | true =>
        have e2 : (fun r => stepF L true g (q :: r)) = fun r => g (q :: r) - stepF L true g r := by
          funext r
          rw [stepF, if_pos e]
          rfl
        rw [conv, e2, conv_sub, ← ih]
        show f (q :: qs) * g [] + conv f (fun r => g (q :: r)) qs - stepF L true (conv f g) qs = f (q :: qs) * g [] + (conv f (fun r => g (q :: r)) qs - stepF L true (conv f g) qs)
        omega
      | false =>
        have e2 : (fun r => stepF L false g (q :: r)) = fun r => g (q :: r) + g r := by
          funext r
          rw [stepF, if_pos e]
          rfl
        rw [conv, e2, conv_add]
        show f (q :: qs) * g [] + conv f (fun r => g (q :: r)) qs + conv f g qs = f (q :: qs) * g [] + (conv f (fun r => g (q :: r)) qs + conv f g qs)
        omega
    · rw [if_neg e, conv, conv]
      have e2 : (fun r => stepF L b g (q :: r)) = fun r => g (q :: r) := by
        funext r
        rw [stepF, if_neg e]
      rw [e2]
      rfl
theorem stepG_conv (f g : List Int → Int) (s : Int) : stepG (conv f g) s = conv f (stepG g s) := by
  funext r
  unfold stepG
  split
  · exact stepF_conv _ _ _ _ r
  · exact stepF_conv _ _ _ _ r
theorem fold_conv (f : List Int → Int) : ∀ (v : List Int) (g : List Int → Int), v.foldl stepG (conv f g) = conv f (v.foldl stepG g)
  | [], _ => rfl
  | s :: v, g => by rw [List.foldl_cons, List.foldl_cons, stepG_conv, fold_conv f v]
theorem wordF_app (u v : List Int) : wordF (u ++ v) = conv (wordF u) (wordF v) := by
  rw [wordF_fold, List.foldl_append, wordF_fold v, ← fold_conv, show conv (wordF u) baseF = wordF u from funext fun r => conv_base _ r]
  rfl
/-- 1, and nothing below k letters -/
structure Low (k : Nat) (f : List Int → Int) : Prop where
  one : f [] = 1
  low : ∀ r : List Int, 0 < r.length → r.length < k → f r = 0
theorem low_word {a : Nat} {u : List Int} (hu : StepsOf a u) : Low 1 (wordF u) := by
  refine ⟨?_, fun r r0 r1 => by omega⟩
  have z : ∀ (w : List Int) (f : List Int → Int), w.foldl stepG f [] = f [] := by
    intro w
    induction w with
    | nil => intro f; rfl
    | cons s w ih =>
      intro f
      rw [List.foldl_cons, ih]
      unfold stepG
      split <;> rfl
  exact z u baseF
/-! products: linear in the one ahead, sums over cuts -/
theorem conv_addL (f g : List Int → Int) : ∀ (r : List Int) (h : List Int → Int), conv (fun r => f r + g r) h r = conv f h r + conv g h r
  | [], h => Int.add_mul _ _ _
  | q :: qs, h => by
    rw [conv, conv, conv, conv_addL f g qs fun r => h (q :: r), Int.add_mul]
    omega
theorem conv_mulL (c : Int) (f : List Int → Int) : ∀ (r : List Int) (h : List Int → Int), conv (fun r => c * f r) h r = c * conv f h r
  | [], h => Int.mul_assoc _ _ _
  | q :: qs, h => by
    rw [conv, conv, conv_mulL c f qs fun r => h (q :: r), Int.mul_add, Int.mul_assoc]
theorem conv_baseL : ∀ (r : List Int) (g : List Int → Int), conv baseF g r = g r
  | [], g => Int.one_mul _
  | q :: qs, g => by
    rw [conv, conv_baseL qs]
    show 0 * g [] + g (q :: qs) = _
    rw [Int.zero_mul, Int.zero_add]
theorem conv_congrL : ∀ (r : List Int) {f f' g : List Int → Int}, (∀ k, k ≤ r.length → f (r.drop k) = f' (r.drop k)) → conv f g r = conv f' g r
  | [], f, f', g, e => by
    have := e 0 (Nat.le_refl _)
    rw [conv, conv, show f [] = f' [] from this]
  | q :: qs, f, f', g, e => by
    have e0 := e 0 (Nat.zero_le _)
    rw [conv, conv, show f (q :: qs) = f' (q :: qs) from e0, conv_congrL qs (f := f) (f' := f') fun k hk => e (k + 1) (by rw [List.length_cons]; omega)]
/-- alike on words of at most so many letters -/
def Eqd (d : Nat) (f g : List Int → Int) : Prop := ∀ r : List Int, r.length ≤ d → f r = g r
theorem Eqd.refl {d : Nat} (f : List Int → Int) : Eqd d f f := fun _ _ => rfl
theorem Eqd.symm {d : Nat} {f g : List Int → Int} (h : Eqd d f g) : Eqd d g f := fun r hr => (h r hr).symm
theorem Eqd.trans {d : Nat} {f g h : List Int → Int} (x : Eqd d f g) (y : Eqd d g h) : Eqd d f h := fun r hr => (x r hr).trans (y r hr)
theorem Eqd.conv {d : Nat} {f f' g g' : List Int → Int} (x : Eqd d f f') (y : Eqd d g g') : Eqd d (conv f g) (conv f' g') := fun r hr => by
  rw [conv_congrL r (f := f) (f' := f') fun k hk => x _ (by rw [List.length_drop]; omega)]
  exact conv_congr f' r fun k hk => y _ (by rw [List.length_take]; omega)
theorem conv_wordF (f : List Int → Int) (v : List Int) : conv f (wordF v) = v.foldl stepG f := by
  rw [wordF_fold, ← fold_conv, show conv f baseF = f from funext fun r => conv_base _ r]
theorem conv_nil (f g : List Int → Int) : conv f g [] = f [] * g [] := rfl
/-- f 0 + f 1 + .. -/
def sumN (F : Nat → Int) : Nat → Int
  | 0 => 0
  | n + 1 => sumN F n + F n
theorem sumN_front (F : Nat → Int) : ∀ n, sumN F (n + 1) = F 0 + sumN (fun k => F (k + 1)) n
  | 0 => by show 0 + F 0 = F 0 + 0; omega
  | n + 1 => by
    rw [sumN, sumN_front F n, sumN, Int.add_assoc]
theorem sumN_congr {F G : Nat → Int} : ∀ {n : Nat}, (∀ k, k < n → F k = G k) → sumN F n = sumN G n
  | 0, _ => rfl
  | n + 1, h => by rw [sumN, sumN, sumN_congr fun k hk => h k (by omega), h n (by omega)]
theorem sumN_turn (F : Nat → Int) : ∀ n, sumN F n = sumN (fun k => F (n - 1 - k)) n
  | 0 => rfl
  | n + 1 => by
    have e := sumN_turn (fun k => F (k + 1)) n
    rw [sumN_front, e, sumN, Int.add_comm]
    congr 1
    · exact sumN_congr fun k hk => by
        show F (n - 1 - k + 1) = F (n + 1 - 1 - k)
        rw [show n - 1 - k + 1 = n + 1 - 1 - k by omega]
    · show F 0 = F (n + 1 - 1 - n)
      rw [show n + 1 - 1 - n = 0 by omega]
theorem conv_sumN (f : List Int → Int) : ∀ (r : List Int) (g : List Int → Int), conv f g r = sumN (fun k => f (r.drop k) * g (r.take k)) (r.length + 1)
  | [], g => by show f [] * g [] = 0 + f [] * g []; omega
  | q :: qs, g => by
    rw [conv, conv_sumN f qs, List.length_cons]
    exact (sumN_front (fun k => f ((q :: qs).drop k) * g ((q :: qs).take k)) (qs.length + 1)).symm
theorem rev_take (w : List Int) (k : Nat) (h : k ≤ w.length) : (w.take k).reverse = w.reverse.drop (w.length - k) := by
  rw [List.reverse_take]
theorem rev_drop (w : List Int) (k : Nat) (h : k ≤ w.length) : (w.drop k).reverse = w.reverse.take (w.length - k) := by
  rw [List.reverse_drop]
theorem conv_cuts (f g : List Int → Int) (w : List Int) : conv f g w.reverse = sumN (fun i => f (w.take i).reverse * g (w.drop i).reverse) (w.length + 1) := by
  rw [conv_sumN, List.length_reverse, sumN_turn]
  refine sumN_congr fun k hk => ?_
  rw [rev_take w k (by omega), rev_drop w k (by omega), show w.length + 1 - 1 - k = w.length - k by omega]
theorem conv_ahead (f g : List Int → Int) (w : List Int) (h : 0 < w.length) : conv f g w.reverse = f w.reverse * g [] + f [] * g w.reverse + sumN (fun i => f (w.take (i + 1)).reverse * g (w.drop (i + 1)).reverse) (w.length - 1) := by
  obtain ⟨m, hm⟩ : ∃ m, w.length = m + 1 := ⟨w.length - 1, by omega⟩
  rw [conv_cuts, sumN_front, hm, sumN]
  have e1 : w.take 0 = [] := List.take_zero
  have e2 : w.drop 0 = w := List.drop_zero
  have e3 : w.take (m + 1) = w := by rw [← hm]; exact List.take_length
  have e4 : w.drop (m + 1) = [] := by rw [← hm]; exact List.drop_length
  show f (w.take 0).reverse * g (w.drop 0).reverse + (sumN (fun i => f (w.take (i + 1)).reverse * g (w.drop (i + 1)).reverse) m + f (w.take (m + 1)).reverse * g (w.drop (m + 1)).reverse) = _
  rw [e1, e2, e3, e4, Nat.add_sub_cancel, List.reverse_nil]
  omega
/-! letters of two words laid together: products of numbers -/
def infGo (a : Int) (u : List Int) (F : List Int → List (List Int)) : List Int → List (List Int)
  | [] => [a :: u]
  | b :: v => (F (b :: v)).map (a :: ·) ++ ((infGo a u F v).map (b :: ·) ++ (if a = b then (F v).map (a :: ·) else []))
def infil : List Int → List Int → List (List Int)
  | [] => fun v => [v]
  | a :: u => infGo a u (infil u)
def sumW (f : List Int → Int) : List (List Int) → Int
  | [] => 0
  | x :: xs => f x + sumW f xs
theorem sumW_app (f : List Int → Int) : ∀ xs ys, sumW f (xs ++ ys) = sumW f xs + sumW f ys
  | [], ys => by rw [List.nil_append, sumW, Int.zero_add]
  | x :: xs, ys => by rw [List.cons_append, sumW, sumW, sumW_app f xs, Int.add_assoc]
structure Grp (f : List Int → Int) : Prop where
  one : f [] = 1
  mul : ∀ u v, f u * f v = sumW f (infil u v)
theorem infil_two (a b : Int) (u v : List Int) (f : List Int → Int) : sumW f (infil (a :: u) (b :: v)) = sumW f ((infil u (b :: v)).map (a :: ·)) + sumW f ((infil (a :: u) v).map (b :: ·)) + (if a = b then sumW f ((infil u v).map (a :: ·)) else 0) := by
  show sumW f ((infil u (b :: v)).map (a :: ·) ++ ((infGo a u (infil u) v).map (b :: ·) ++ (if a = b then (infil u v).map (a :: ·) else []))) = _
  rw [sumW_app, sumW_app]
  show _ + (sumW f ((infil (a :: u) v).map (b :: ·)) + _) = _
  by_cases e : a = b
  · rw [if_pos e, if_pos e, Int.add_assoc]
  · rw [if_neg e, if_neg e]
    show _ + (_ + 0) = _ + _ + 0
    omega
theorem sumW_up (L : Int) (f : List Int → Int) (a : Int) : ∀ xs, sumW (stepF L false f) (xs.map (a :: ·)) = sumW f (xs.map (a :: ·)) + (if a = L then sumW f xs else 0)
  | [] => by by_cases e : a = L <;> simp [sumW, e]
  | x :: xs => by
    rw [List.map_cons, sumW, sumW, sumW_up L f a xs, stepF_letter]
    by_cases e : a = L
    · rw [if_pos e, if_pos e, if_pos e, sumW]; omega
    · rw [if_neg e, if_neg e, if_neg e]; omega
theorem sumW_dn (L : Int) (f : List Int → Int) (a : Int) : ∀ xs, sumW (stepF L true f) (xs.map (a :: ·)) = sumW f (xs.map (a :: ·)) - (if a = L then sumW (stepF L true f) xs else 0)
  | [] => by by_cases e : a = L <;> simp [sumW, e]
  | x :: xs => by
    rw [List.map_cons, sumW, sumW, sumW_dn L f a xs, show stepF L true f (a :: x) = if a = L then opS true (f (a :: x)) (stepF L true f x) else f (a :: x) from rfl]
    by_cases e : a = L
    · rw [if_pos e, if_pos e, if_pos e, sumW]
      show f (a :: x) - stepF L true f x + _ = _
      omega
    · rw [if_neg e, if_neg e, if_neg e]; omega
theorem infil_nil (f : List Int → Int) : ∀ u : List Int, sumW f (infil u []) = f u
  | [] => by show f [] + 0 = f []; omega
  | a :: u => by show f (a :: u) + 0 = f (a :: u); omega
theorem infil_nilL (f : List Int → Int) (v : List Int) : sumW f (infil [] v) = f v := by show f v + 0 = f v; omega
theorem grp_up (L : Int) {f : List Int → Int} (h : Grp f) : Grp (stepF L false f) := by
  have one : stepF L false f [] = 1 := h.one
  refine ⟨one, fun u v => ?_⟩
  cases u with
  | nil => rw [one, infil_nilL, Int.one_mul]
  | cons a u =>
    cases v with
    | nil => rw [one, infil_nil, Int.mul_one]
    | cons b v =>
      have m0 := h.mul (a :: u) (b :: v)
      have m1 := h.mul u (b :: v)
      have m2 := h.mul (a :: u) v
      have m3 := h.mul u v
      rw [infil_two] at m0 ⊢
      rw [sumW_up, sumW_up, sumW_up, stepF_letter, stepF_letter]
      by_cases e1 : a = L
      · by_cases e2 : b = L
        · have e3 : a = b := e1.trans e2.symm
          rw [if_pos e3] at m0 ⊢
          rw [if_pos e1, if_pos e2, if_pos e1, if_pos e2, if_pos e1]
          grind
        · have e3 : a ≠ b := fun e => e2 (e ▸ e1)
          rw [if_neg e3] at m0 ⊢
          rw [if_pos e1, if_neg e2, if_pos e1, if_neg e2]
          grind
      · rw [if_neg e1, if_neg e1, if_neg e1]
        by_cases e2 : b = L
        · have e3 : a ≠ b := fun e => e1 (e.trans e2)
          rw [if_neg e3] at m0 ⊢
          rw [if_pos e2, if_pos e2]
          grind
        · rw [if_neg e2, if_neg e2]
          by_cases e3 : a = b
          · rw [if_pos e3] at m0 ⊢
            grind
          · rw [if_neg e3] at m0 ⊢
            grind
theorem grp_dn (L : Int) {f : List Int → Int} (h : Grp f) : Grp (stepF L true f) := by
  have one : stepF L true f [] = 1 := h.one
  have st : ∀ (q : Int) (qs : List Int), stepF L true f (q :: qs) = if q = L then f (q :: qs) - stepF L true f qs else f (q :: qs) := fun _ _ => rfl
  have key : ∀ (n : Nat) (u v : List Int), u.length + v.length ≤ n → stepF L true f u * stepF L true f v = sumW (stepF L true f) (infil u v) := by
    intro n
    induction n with
    | zero =>
      intro u v hn
      have e1 : u = [] := List.eq_nil_of_length_eq_zero (by omega)
      subst e1
      rw [one, infil_nilL, Int.one_mul]
    | succ n ih =>
      intro u v hn
      cases u with
      | nil => rw [one, infil_nilL, Int.one_mul]
      | cons a u =>
        cases v with
        | nil => rw [one, infil_nil, Int.mul_one]
        | cons b v =>
          rw [List.length_cons, List.length_cons] at hn
          have m0 := h.mul (a :: u) (b :: v)
          have i1 := ih u (b :: v) (by rw [List.length_cons]; omega)
          have i2 := ih (a :: u) v (by rw [List.length_cons]; omega)
          have i3 := ih u v (by omega)
          have s1 := st a u
          have s2 := st b v
          rw [infil_two] at m0 ⊢
          rw [sumW_dn, sumW_dn, sumW_dn]
          generalize hga : stepF L true f (a :: u) = ga at *
          generalize hgb : stepF L true f (b :: v) = gb at *
          generalize hgu : stepF L true f u = gu at *
          generalize hgv : stepF L true f v = gv at *
          rw [← i1, ← i2, ← i3]
          by_cases e1 : a = L
          · rw [if_pos e1] at s1 ⊢
            by_cases e2 : b = L
            · have e3 : a = b := e1.trans e2.symm
              rw [if_pos e3] at m0 ⊢
              rw [if_pos e2] at s2 ⊢
              grind
            · have e3 : a ≠ b := fun e => e2 (e ▸ e1)
              rw [if_neg e3] at m0 ⊢
              rw [if_neg e2] at s2 ⊢
              grind
          · rw [if_neg e1] at s1 ⊢
            by_cases e2 : b = L
            · have e3 : a ≠ b := fun e => e1 (e.trans e2)
              rw [if_neg e3] at m0 ⊢
              rw [if_pos e2] at s2 ⊢
              grind
            · rw [if_neg e2] at s2 ⊢
              by_cases e3 : a = b
              · rw [if_pos e3] at m0 ⊢
                grind
              · rw [if_neg e3] at m0 ⊢
                grind
  exact ⟨one, fun u v => key _ u v (Nat.le_refl _)⟩
theorem sumW_zero {f : List Int → Int} : ∀ {xs : List (List Int)}, (∀ x ∈ xs, f x = 0) → sumW f xs = 0
  | [], _ => rfl
  | x :: xs, h => by rw [sumW, h x List.mem_cons_self, sumW_zero fun y hy => h y (List.mem_cons_of_mem _ hy)]; rfl
theorem grp_base : Grp baseF := by
  refine ⟨rfl, fun u v => ?_⟩
  cases u with
  | nil => rw [infil_nilL]; exact Int.one_mul _
  | cons a u =>
    cases v with
    | nil => rw [infil_nil]; exact Int.mul_one _
    | cons b v =>
      rw [infil_two]
      have z : ∀ (c : Int) (xs : List (List Int)), sumW baseF (xs.map (c :: ·)) = 0 := fun c xs => sumW_zero fun x hx => by
        obtain ⟨y, _, rfl⟩ := List.mem_map.mp hx
        rfl
      rw [z, z, z]
      show (0 : Int) * 0 = _
      split <;> rfl
theorem grp_fold : ∀ (w : List Int) {f : List Int → Int}, Grp f → Grp (w.foldl stepG f)
  | [], _, h => h
  | s :: w, f, h => by
    rw [List.foldl_cons]
    refine grp_fold w ?_
    unfold stepG
    split
    · exact grp_up _ h
    · exact grp_dn _ h
theorem grp_word (w : List Int) : Grp (wordF w) := grp_fold w grp_base
/-! words whose number hangs on those of lesser ones -/
theorem allL_in {a : Nat} : ∀ (n : Nat) {w : List Int}, w.length = n → (∀ x ∈ w, 1 ≤ x ∧ x ≤ (a : Int)) → w ∈ allL a n
  | 0, w, h, _ => by rw [List.eq_nil_of_length_eq_zero h]; exact List.mem_singleton.mpr rfl
  | n + 1, w, h, p => by
    rcases snoc_cases w with rfl | ⟨u, q, rfl⟩
    · simp at h
    · rw [List.length_append, List.length_singleton] at h
      have hq := p q (List.mem_append_right _ List.mem_cons_self)
      exact allL_snoc (allL_in n (by omega) fun x hx => p x (List.mem_append_left _ hx)) hq.1 hq.2
/-! choices -/
def ffI (n : Int) : Nat → Int
  | 0 => 1
  | j + 1 => ffI n j * (n - (j : Nat))
def fcN : Nat → Int
  | 0 => 1
  | j + 1 => fcN j * ((j : Nat) + 1)
def cho (n : Int) : Nat → Int
  | 0 => 1
  | j + 1 => cho n j * (n - (j : Nat)) / ((j : Nat) + 1)
theorem fc_pos : ∀ k, 0 < fcN k
  | 0 => by decide
  | k + 1 => Int.mul_pos (fc_pos k) (by omega)
theorem ff_rise (n : Int) : ∀ k, ffI (n + 1) (k + 1) = (n + 1) * ffI n k
  | 0 => by simp [ffI]
  | k + 1 => by
    have h := ff_rise n k
    rw [show ffI (n + 1) (k + 1 + 1) = ffI (n + 1) (k + 1) * (n + 1 - ((k + 1 : Nat) : Int)) from rfl, h, show ffI n (k + 1) = ffI n k * (n - (k : Nat)) from rfl]
    have e : n + 1 - ((k + 1 : Nat) : Int) = n - (k : Nat) := by omega
    rw [e, Int.mul_assoc]
theorem ff_up (n : Int) (k : Nat) : ffI (n + 1) (k + 1) = ffI n (k + 1) + ((k : Nat) + 1) * ffI n k := by
  rw [ff_rise, show ffI n (k + 1) = ffI n k * (n - (k : Nat)) from rfl]
  grind
theorem fc_dvd : ∀ (k : Nat) (n : Int), fcN k ∣ ffI n k
  | 0, n => ⟨1, rfl⟩
  | k + 1, n => by
    have st : ∀ m : Int, fcN (k + 1) ∣ ((k : Nat) + 1) * ffI m k := fun m => by
      obtain ⟨q, hq⟩ := fc_dvd k m
      exact ⟨q, by rw [hq, show fcN (k + 1) = fcN k * ((k : Nat) + 1) from rfl]; grind⟩
    have up : ∀ m : Int, fcN (k + 1) ∣ ffI m (k + 1) → fcN (k + 1) ∣ ffI (m + 1) (k + 1) := fun m h => by
      rw [ff_up]
      exact Int.dvd_add h (st m)
    have dn : ∀ m : Int, fcN (k + 1) ∣ ffI (m + 1) (k + 1) → fcN (k + 1) ∣ ffI m (k + 1) := fun m h => by
      have e : ffI m (k + 1) = ffI (m + 1) (k + 1) - ((k : Nat) + 1) * ffI m k := by rw [ff_up]; omega
      rw [e]
      exact Int.dvd_sub h (st m)
    have z : fcN (k + 1) ∣ ffI 0 (k + 1) := by
      have e : ∀ j, ffI 0 (j + 1) = 0 := fun j => by
        induction j with
        | zero => rfl
        | succ j ih => rw [show ffI 0 (j + 1 + 1) = ffI 0 (j + 1) * (0 - ((j + 1 : Nat) : Int)) from rfl, ih, Int.zero_mul]
      rw [e]
      exact ⟨0, by simp⟩
    have pos : ∀ m : Nat, fcN (k + 1) ∣ ffI (m : Int) (k + 1) := fun m => by
      induction m with
      | zero => exact z
      | succ m ih => exact up _ ih
    have neg : ∀ m : Nat, fcN (k + 1) ∣ ffI (-(m : Int)) (k + 1) := fun m => by
      induction m with
      | zero => exact z
      | succ m ih =>
        refine dn _ ?_
        rw [show -((m + 1 : Nat) : Int) + 1 = -(m : Int) by omega]
        exact ih
    rcases Int.natAbs_eq n with e | e
    · rw [e]; exact pos _
    · rw [e]; exact neg _
theorem cho_ff (n : Int) : ∀ k, cho n k * fcN k = ffI n k
  | 0 => rfl
  | k + 1 => by
    have ih := cho_ff n k
    obtain ⟨q, hq⟩ := fc_dvd (k + 1) n
    have p1 := fc_pos k
    have e1 : cho n k * (n - (k : Nat)) = q * ((k : Nat) + 1) := by
      have : fcN k * (cho n k * (n - (k : Nat))) = fcN k * (q * ((k : Nat) + 1)) := by
        rw [show ffI n (k + 1) = ffI n k * (n - (k : Nat)) from rfl, ← ih, show fcN (k + 1) = fcN k * ((k : Nat) + 1) from rfl] at hq
        grind
      exact Int.eq_of_mul_eq_mul_left (by omega) this
    have e2 : cho n (k + 1) = q := by
      show cho n k * (n - (k : Nat)) / ((k : Nat) + 1) = q
      rw [e1]
      exact Int.mul_ediv_cancel _ (by omega)
    rw [e2, hq, Int.mul_comm]
theorem cho_of {n x : Int} {k : Nat} (h : x * fcN k = ffI n k) : cho n k = x := by
  have p := fc_pos k
  exact Int.eq_of_mul_eq_mul_right (by omega) ((cho_ff n k).trans h.symm)
theorem cho_up (n : Int) (k : Nat) : cho (n + 1) (k + 1) = cho n (k + 1) + cho n k := by
  refine cho_of ?_
  rw [ff_up, ← cho_ff n (k + 1), ← cho_ff n k, show fcN (k + 1) = fcN k * ((k : Nat) + 1) from rfl]
  grind
theorem ff_size {n : Int} {b k0 : Nat} (h : n.natAbs + k0 < 2 ^ b) : ∀ k, k ≤ k0 → (ffI n k).natAbs < 2 ^ (b * k + 1)
  | 0, _ => by show (1 : Int).natAbs < _; rw [Nat.mul_zero]; decide
  | k + 1, hk => by
    have ih := ff_size h k (by omega)
    rw [show ffI n (k + 1) = ffI n k * (n - (k : Nat)) from rfl, show b * (k + 1) + 1 = (b * k + 1) + b by rw [Nat.mul_succ]; omega]
    exact wide_lt ih (by omega)
theorem cho_size {n : Int} {b k0 k : Nat} (h : n.natAbs + k0 < 2 ^ b) (hk : k ≤ k0) : (cho n k).natAbs < 2 ^ (b * k + 1) := by
  have h1 := ff_size h k hk
  rw [← cho_ff, Int.natAbs_mul] at h1
  have h2 := fc_pos k
  refine Nat.lt_of_le_of_lt ?_ h1
  exact Nat.le_mul_of_pos_right _ (by omega)
/-! powers of a part, and of what it belongs to -/
def pwF (f : List Int → Int) : Nat → List Int → Int
  | 0 => f
  | k + 1 => conv (pwF f k) f
theorem pwF_low {f : List Int → Int} {s : Nat} (h0 : ∀ r : List Int, r.length < s → f r = 0) : ∀ (k : Nat) (r : List Int), r.length < (k + 1) * s → pwF f k r = 0
  | 0, r, h => h0 r (by omega)
  | k + 1, r, h => by
    show conv (pwF f k) f r = 0
    rw [conv_sumN]
    have z : ∀ n, n ≤ r.length + 1 → sumN (fun j => pwF f k (r.drop j) * f (r.take j)) n = 0 := by
      intro n
      induction n with
      | zero => intro _; rfl
      | succ n ih =>
        intro hn
        rw [sumN, ih (by omega), Int.zero_add]
        by_cases e : n < s
        · show _ * f (r.take n) = 0
          rw [h0 (r.take n) (by rw [List.length_take]; omega), Int.mul_zero]
        · show pwF f k (r.drop n) * _ = 0
          rw [pwF_low h0 k (r.drop n) (by rw [List.length_drop]; rw [Nat.succ_mul] at h; omega), Int.zero_mul]
    exact z _ (Nat.le_refl _)
/-- 1, and n choose k of the k-th powers -/
def raisedF (n : Int) (f : List Int → Int) : Nat → List Int → Int
  | 0 => baseF
  | m + 1 => fun r => raisedF n f m r + cho n (m + 1) * pwF f m r
theorem raised_up (n : Int) (f : List Int → Int) : ∀ (m : Nat) (r : List Int), raisedF n f m r + conv (raisedF n f m) f r = raisedF (n + 1) f m r + cho n m * pwF f m r
  | 0, r => by
    show baseF r + conv baseF f r = baseF r + 1 * f r
    rw [conv_baseL, Int.one_mul]
  | m + 1, r => by
    have ih := raised_up n f m r
    have e : conv (raisedF n f (m + 1)) f r = conv (raisedF n f m) f r + cho n (m + 1) * pwF f (m + 1) r := by
      show conv (fun r => raisedF n f m r + cho n (m + 1) * pwF f m r) f r = _
      rw [conv_addL, conv_mulL]
      rfl
    rw [e]
    show raisedF n f m r + cho n (m + 1) * pwF f m r + _ = raisedF (n + 1) f m r + cho (n + 1) (m + 1) * pwF f m r + cho n (m + 1) * pwF f (m + 1) r
    rw [cho_up]
    grind
def partF (u : List Int) : List Int → Int := fun r => wordF u r - baseF r
theorem part_add (u : List Int) : wordF u = fun r => baseF r + partF u r := by
  funext r
  unfold partF
  omega
theorem wordF_nil (u : List Int) : wordF u [] = 1 := (grp_word u).one
theorem part_nil (u : List Int) : partF u [] = 0 := by
  unfold partF
  rw [wordF_nil]
  rfl
theorem raised_step {d m : Nat} {n : Int} {u : List Int} (hz : ∀ r : List Int, r.length ≤ d → pwF (partF u) m r = 0) : Eqd d (conv (raisedF n (partF u) m) (wordF u)) (raisedF (n + 1) (partF u) m) := fun r hr => by
  have h := raised_up n (partF u) m r
  rw [hz r hr, Int.mul_zero, Int.add_zero] at h
  rw [part_add u, conv_add, conv_base]
  exact h
theorem cho_none : ∀ k, cho 0 (k + 1) = 0
  | 0 => rfl
  | k + 1 => by
    show cho 0 (k + 1) * (0 - ((k + 1 : Nat) : Int)) / _ = 0
    rw [cho_none k, Int.zero_mul, Int.zero_ediv]
theorem raised_none (f : List Int → Int) : ∀ m, raisedF 0 f m = baseF
  | 0 => rfl
  | m + 1 => by
    funext r
    show raisedF 0 f m r + cho 0 (m + 1) * _ = _
    rw [raised_none f m, cho_none, Int.zero_mul, Int.add_zero]
def rpW (u : List Int) (n : Int) : List Int := if 0 ≤ n then pw u n.toNat else pw (rb u) (-n).toNat
theorem pw_succ (u : List Int) (k : Nat) : pw u (k + 1) = u ++ pw u k := by unfold pw; rw [List.replicate_succ, List.flatten_cons]
theorem pw_snoc (u : List Int) : ∀ k, pw u (k + 1) = pw u k ++ u
  | 0 => by unfold pw; simp
  | k + 1 => by
    rw [pw_succ u (k + 1), pw_snoc u k, ← List.append_assoc, ← pw_succ]
    rw [pw_snoc u k]
theorem StepsOf.pw {a : Nat} {u : List Int} (h : StepsOf a u) (k : Nat) : StepsOf a (pw u k) := fun x hx => by
  unfold Law.pw at hx
  obtain ⟨v, hv, hx⟩ := List.mem_flatten.mp hx
  rw [(List.mem_replicate.mp hv).2] at hx
  exact h x hx
theorem StepsOf.rp {a : Nat} {u : List Int} (h : StepsOf a u) (n : Int) : StepsOf a (rpW u n) := by
  unfold rpW
  split
  · exact h.pw _
  · exact h.rb.pw _
theorem conv_undo {a : Nat} {u : List Int} (hu : StepsOf a u) (f : List Int → Int) : conv (conv f (wordF u)) (wordF (rb u)) = f := by
  rw [conv_wordF f u, conv_wordF, ← List.foldl_append]
  exact fold_right u f hu.nz
theorem raised_word {a d m : Nat} {u : List Int} (hu : StepsOf a u) (hz : ∀ r : List Int, r.length ≤ d → pwF (partF u) m r = 0) (n : Int) : Eqd d (raisedF n (partF u) m) (wordF (rpW u n)) := by
  have up : ∀ k : Nat, Eqd d (raisedF (k : Int) (partF u) m) (wordF (pw u k)) := by
    intro k
    induction k with
    | zero =>
      show Eqd d (raisedF 0 (partF u) m) _
      rw [raised_none]
      exact Eqd.refl _
    | succ k ih =>
      have s := (raised_step (n := (k : Int)) hz).symm
      rw [show ((k : Int) + 1) = ((k + 1 : Nat) : Int) by omega] at s
      refine s.trans ?_
      rw [pw_snoc, wordF_app]
      exact ih.conv (Eqd.refl _)
  have dn : ∀ k : Nat, Eqd d (raisedF (-(k : Int)) (partF u) m) (wordF (pw (rb u) k)) := by
    intro k
    induction k with
    | zero =>
      show Eqd d (raisedF 0 (partF u) m) _
      rw [raised_none]
      exact Eqd.refl _
    | succ k ih =>
      have s := (raised_step (n := -((k + 1 : Nat) : Int)) hz).conv (Eqd.refl (wordF (rb u)))
      rw [conv_undo hu, show -((k + 1 : Nat) : Int) + 1 = -(k : Int) by omega] at s
      refine s.trans ?_
      rw [pw_snoc, wordF_app]
      exact ih.conv (Eqd.refl _)
  unfold rpW
  by_cases e : 0 ≤ n
  · rw [if_pos e]
    have := up n.toNat
    rwa [show ((n.toNat : Nat) : Int) = n by omega] at this
  · rw [if_neg e]
    have := dn (-n).toNat
    rwa [show -(((-n).toNat : Nat) : Int) = n by omega] at this

end Law

namespace Law
open PySem PySem.Spec PyProof.Rows L2 DL
local macro_rules | `(tactic| walk_at "w") => `(tactic| conv => whnf)
local macro_rules | `(tactic| walk_at "s") => `(tactic| (refine ⟨?_⟩; conv => whnf))
local macro_rules | `(tactic| walk_at "z") => `(tactic| (refine small ?_; simp only [List.length_map, List.length_append, List.length_reverse, List.length_cons, List.length_nil]; omega))
local macro_rules | `(tactic| walk_at "q") => `(tactic| (refine ⟨(okN_tints _).ok, (okN_tints _).ok, ?_⟩; rw [eqD_tints]))
/-! rows: noughts taken out, scaled, added -/
def noN (r : Row) : Row := r.filter fun p => p.2 != 0
theorem pairsT_row : ∀ (r : Row), pairsT (r.map fun p => D.tup [wordD p.1, .int p.2]) = some (rowKs r, rowDs r)
  | [] => rfl
  | p :: r => by
    rw [List.map_cons]
    show ((keyT (wordD p.1)).bind fun q => (pairsT (r.map fun p => D.tup [wordD p.1, .int p.2])).map fun z => (q :: z.1, D.int p.2 :: z.2)) = _
    rw [keyT_word, pairsT_row r]
    rfl
theorem rowKs_nodup {r : Row} (nd : (keysR r).Nodup) : (rowKs r).Nodup := by
  rw [rowKs_keys]
  exact nodup_map_in nd fun u _ v _ e => wkey_inj.mp e
theorem c_without_noughts {r : Row} (nd : (keysR r).Nodup) (hz : r.length ≤ 10000) {l : LH} {Q : DK} (h : Q (rowD (noN r)) l) : callD D_without_noughts [rowD r] l Q := by
  refine ⟨rfl, ?_⟩
  walk_at "w"
  rw [itemsD_row]
  refine ⟨by refine small ?_; rw [List.length_map]; omega, ?_⟩
  refine comp_filter (f := fun d => d) (p := fun d => match d with | .tup [_, .int v] => v != 0 | _ => false) (fun d hd K1 K2 k1 k2 => ?_) ?_
  · obtain ⟨p, hp, rfl⟩ := List.mem_map.mp hd
    replace k1 : (p.2 != 0) = true → K1 (.tup [wordD p.1, .int p.2]) l := k1
    replace k2 : (p.2 != 0) = false → K2 l := k2
    refine ⟨rfl, ?_⟩
    walk_at "w"
    refine ⟨(okN_int _).ok, (okN_int _).ok, ?_⟩
    rw [eqD_int]
    have e : (!decide (p.2 = 0)) = (p.2 != 0) := by
      by_cases z : p.2 = 0
      · rw [z]; rfl
      · rw [decide_eq_false z]
        simp [bne, z]
    rw [e]
    refine ifB_by (fun z => ?_) (fun z => k2 z)
    refine ⟨?_⟩
    walk_at "w"
    exact ⟨two_ok, k1 z⟩
  rw [List.map_id']
  have e : (r.map fun p => D.tup [wordD p.1, .int p.2]).filter (fun d => match d with | .tup [_, .int v] => v != 0 | _ => false) = (noN r).map fun p => D.tup [wordD p.1, .int p.2] := by
    unfold noN
    rw [List.filter_map]
    rfl
  rw [e]
  walk_at "w"
  have nd2 : (keysR (noN r)).Nodup := by
    unfold noN keysR
    exact (List.filter_sublist.map _).nodup nd
  refine ⟨_, pairsT_row _, rowKs_nodup nd2, ?_⟩
  exact fz_newT h
theorem getR_noN : ∀ {r : Row} (_ : (keysR r).Nodup) (w : List Int), getR (noN r) w = getR r w
  | [], _, _ => rfl
  | p :: r, nd, w => by
    obtain ⟨n1, n2⟩ := List.nodup_cons.mp (show (p.1 :: keysR r).Nodup from nd)
    unfold noN
    by_cases z : p.2 = 0
    · rw [List.filter_cons_of_neg (by simp [z])]
      show getR (noN r) w = if p.1 = w then p.2 else getR r w
      rw [getR_noN n2]
      by_cases e : p.1 = w
      · rw [if_pos e, z, ← e, getR_out n1]
      · rw [if_neg e]
    · rw [List.filter_cons_of_pos (by simp [z])]
      show (if p.1 = w then p.2 else getR (noN r) w) = if p.1 = w then p.2 else getR r w
      rw [getR_noN n2]
def scaleR (r : Row) (t : Int) : Row := r.map fun p => (p.1, p.2 * t)
theorem keysR_scale (r : Row) (t : Int) : keysR (scaleR r t) = keysR r := by unfold keysR scaleR; rw [List.map_map]; rfl
theorem getR_scale (t : Int) : ∀ (r : Row) (w : List Int), getR (scaleR r t) w = getR r w * t
  | [], _ => (Int.zero_mul t).symm
  | p :: r, w => by
    show (if p.1 = w then p.2 * t else getR (scaleR r t) w) = (if p.1 = w then p.2 else getR r w) * t
    rw [getR_scale t r w]
    split <;> rfl
/-! rows added to rows -/
def addP : Row → Row → Row
  | [], to => to
  | p :: ps, to => addP ps (putR to p.1 (getR to p.1 + p.2))
def totP : Row → List Int → Int
  | [], _ => 0
  | p :: ps, w => (if p.1 = w then p.2 else 0) + totP ps w
theorem getR_addP : ∀ (ps to : Row) (w : List Int), getR (addP ps to) w = getR to w + totP ps w
  | [], to, w => (Int.add_zero _).symm
  | p :: ps, to, w => by
    rw [addP, getR_addP ps, getR_put, totP]
    by_cases e : w = p.1
    · rw [if_pos e, if_pos e.symm, e]; omega
    · rw [if_neg e, if_neg fun z => e z.symm]; omega
theorem addP_app : ∀ (ps qs to : Row), addP (ps ++ qs) to = addP qs (addP ps to)
  | [], qs, to => rfl
  | p :: ps, qs, to => addP_app ps qs _
theorem totP_app (w : List Int) : ∀ (ps qs : Row), totP (ps ++ qs) w = totP ps w + totP qs w
  | [], qs => (Int.zero_add _).symm
  | p :: ps, qs => by rw [List.cons_append, totP, totP, totP_app w ps qs, Int.add_assoc]
theorem addP_nodup : ∀ (ps : Row) {to : Row}, (keysR to).Nodup → (keysR (addP ps to)).Nodup
  | [], _, h => h
  | p :: ps, to, h => addP_nodup ps (put_nodup _ _ h)
theorem addP_keys : ∀ (ps : Row) {to : Row} {w : List Int}, w ∈ keysR (addP ps to) → w ∈ keysR to ∨ w ∈ keysR ps
  | [], _, _, h => .inl h
  | p :: ps, to, w, h => by
    rcases addP_keys ps h with h | h
    · rcases put_keys h with h | h
      · exact .inl h
      · exact .inr (by rw [h]; exact List.mem_cons_self)
    · exact .inr (List.mem_cons_of_mem _ h)
theorem addP_ok {a s : Nat} {F F' : List Int → Int} {to : Row} (h : RowOk a s F to) {ps : Row} (hk : ∀ u ∈ keysR ps, u ∈ allL a s) (hF : ∀ w : List Int, w.length = s → F' w.reverse = F w.reverse + totP ps w) : RowOk a s F' (addP ps to) :=
  ⟨addP_nodup ps h.nd, fun u hu => (addP_keys ps hu).elim (h.ws u) (hk u), fun w hw => by rw [getR_addP, h.at_ w hw, hF w hw]⟩
theorem totP_scale (t : Int) {ps : Row} (nd : (keysR ps).Nodup) (w : List Int) : totP (scaleR ps t) w = getR ps w * t := by
  induction ps with
  | nil => exact (Int.zero_mul t).symm
  | cons p ps ih =>
    obtain ⟨n1, n2⟩ := List.nodup_cons.mp (show (p.1 :: keysR ps).Nodup from nd)
    show (if p.1 = w then p.2 * t else 0) + totP (scaleR ps t) w = (if p.1 = w then p.2 else getR ps w) * t
    rw [ih n2]
    by_cases e : p.1 = w
    · rw [if_pos e, if_pos e, ← e, getR_out n1]; omega
    · rw [if_neg e, if_neg e, Int.zero_add]
/-- each of some words with each of some ends -/
def endsP (p : List Int × Int) (es : Row) : Row := es.map fun e => (p.1 ++ e.1, p.2 * e.2)
def joinP : Row → Row → Row
  | [], _ => []
  | p :: ps, es => endsP p es ++ joinP ps es
theorem totP_ends {i : Nat} {u : List Int} (hu : u.length = i) (x : Int) {es : Row} (nd : (keysR es).Nodup) (w : List Int) : totP (endsP (u, x) es) w = if u = w.take i then x * getR es (w.drop i) else 0 := by
  induction es with
  | nil =>
    show (0 : Int) = if u = w.take i then x * 0 else 0
    rw [Int.mul_zero]; split <;> rfl
  | cons e es ih =>
    obtain ⟨n1, n2⟩ := List.nodup_cons.mp (show (e.1 :: keysR es).Nodup from nd)
    show (if u ++ e.1 = w then x * e.2 else 0) + totP (endsP (u, x) es) w = if u = w.take i then x * (if e.1 = w.drop i then e.2 else getR es (w.drop i)) else 0
    rw [ih n2]
    by_cases h : u ++ e.1 = w
    · have h1 : u = w.take i := by rw [← h, ← hu, List.take_left]
      have h2 : e.1 = w.drop i := by rw [← h, ← hu, List.drop_left]
      rw [if_pos h, if_pos h1, if_pos h1, if_pos h2, ← h2, getR_out n1]; omega
    · rw [if_neg h, Int.zero_add]
      by_cases h1 : u = w.take i
      · rw [if_pos h1, if_pos h1, if_neg fun h2 => h (by rw [h1, h2, List.take_append_drop])]
      · rw [if_neg h1, if_neg h1]
theorem totP_join {i : Nat} {ps es : Row} (hl : ∀ u ∈ keysR ps, u.length = i) (nd : (keysR ps).Nodup) (nd2 : (keysR es).Nodup) (w : List Int) : totP (joinP ps es) w = getR ps (w.take i) * getR es (w.drop i) := by
  induction ps with
  | nil => exact (Int.zero_mul _).symm
  | cons p ps ih =>
    obtain ⟨n1, n2⟩ := List.nodup_cons.mp (show (p.1 :: keysR ps).Nodup from nd)
    rw [joinP, totP_app, ih (fun u hu => hl u (List.mem_cons_of_mem _ hu)) n2, show endsP p es = endsP (p.1, p.2) es from rfl, totP_ends (hl p.1 List.mem_cons_self) p.2 nd2]
    show _ = (if p.1 = w.take i then p.2 else getR ps (w.take i)) * _
    by_cases e : p.1 = w.take i
    · rw [if_pos e, if_pos e, ← e, getR_out n1]; omega
    · rw [if_neg e, if_neg e, Int.zero_add]
theorem joinP_keys {ps es : Row} {w : List Int} (h : w ∈ keysR (joinP ps es)) : ∃ u ∈ keysR ps, ∃ v ∈ keysR es, w = u ++ v := by
  induction ps with
  | nil => cases h
  | cons p ps ih =>
    unfold keysR at h
    rw [joinP, List.map_append, List.mem_append] at h
    rcases h with h | h
    · obtain ⟨q, hq, rfl⟩ := List.mem_map.mp h
      obtain ⟨e, he, rfl⟩ := List.mem_map.mp hq
      exact ⟨p.1, List.mem_cons_self, e.1, List.mem_map.mpr ⟨e, he, rfl⟩, rfl⟩
    · obtain ⟨u, hu, v, hv, e⟩ := ih h
      exact ⟨u, List.mem_cons_of_mem _ hu, v, hv, e⟩
theorem allL_app {a i j : Nat} {u v : List Int} (hu : u ∈ allL a i) (hv : v ∈ allL a j) : u ++ v ∈ allL a (i + j) :=
  allL_in _ (by rw [List.length_append, allL_word a i u hu, allL_word a j v hv]) fun x hx => (List.mem_append.mp hx).elim (fun h => by have := allL_plain a i u hu x h; omega) fun h => by have := allL_plain a j v hv x h; omega
/-! their walks -/
theorem add_loop {a : Addr} {t : Int} {e1 : Option D} {E : DEnds} : ∀ (ps : Row) {to : Row} {l : LH} {e3 e4 : Option D}, to.length + ps.length ≤ 9000 → (∀ p ∈ ps, CMulW p.2 t) → l a = some (rowO to) →
    (∀ l' e3 e4, l' a = some (rowO (addP (scaleR ps t) to)) → (∀ x, x ≠ a → l' x = l x) → E.nx [some (.ref a), e1, some (.int t), e3, e4] l') →
    forL (gTup 2 (gCons (gName 3) (gCons (gName 4) gNil))) (nS B_add_words_1) (ps.map fun p => .tup [wordD p.1, .int p.2]) E [some (.ref a), e1, some (.int t), e3, e4] l
  | [], to, l, e3, e4, _, _, hl, h => h l _ _ hl fun x _ => rfl
  | p :: ps, to, l, e3, e4, hz, hm, hl, h => by
    rw [List.length_cons] at hz
    refine ⟨rfl, ?_⟩
    walk_at "w"
    refine ⟨_, hl, ?_⟩
    walk_at "w"
    refine ⟨_, hl, _, keyT_word p.1, ?_⟩
    dsimp only
    rw [getA_row]
    walk_at "w"
    refine ⟨(hm p List.mem_cons_self).ok, ?_⟩
    walk_at "w"
    refine ⟨_, hl, _, keyT_word p.1, ?_, ?_⟩
    · unfold rowKs
      rw [List.length_map]
      exact Nat.lt_of_lt_of_le (show to.length < 10000 by omega) (by decide)
    rw [putKs_row _ _ (getR to p.1 + p.2 * t), putDs_row]
    refine add_loop ps (to := putR to p.1 (getR to p.1 + p.2 * t)) ?_ (fun q hq => hm q (List.mem_cons_of_mem _ hq)) uL_same fun l' e3 e4 h1 h2 => h l' e3 e4 h1 fun x hx => (h2 x hx).trans (uL_ne hx)
    have := put_len to p.1 (getR to p.1 + p.2 * t)
    omega
theorem c_add_words {a : Addr} {to ps : Row} {t : Int} {l : LH} {Q : DK} (hz : to.length + ps.length ≤ 9000) (hm : ∀ p ∈ ps, CMulW p.2 t) (hl : l a = some (rowO to)) (h : ∀ l', l' a = some (rowO (addP (scaleR ps t) to)) → (∀ x, x ≠ a → l' x = l x) → Q .non l') :
    callD D_add_words [.ref a, rowD ps, .int t] l Q := by
  refine ⟨rfl, ?_⟩
  walk_at "w"
  rw [itemsD_row]
  exact add_loop ps hz hm hl fun l' _ _ h1 h2 => h l' h1 h2
theorem join_in {a : Addr} {w : List Int} {n : Int} (hw : w.length ≤ 100) {e1 e2 : Option D} {E : DEnds} : ∀ (es : Row) {to : Row} {l : LH} {e5 e6 : Option D}, to.length + es.length ≤ 9000 → (∀ p ∈ es, CMulW n p.2 ∧ p.1.length ≤ 100) → l a = some (rowO to) →
    (∀ l' e5 e6, l' a = some (rowO (addP (endsP (w, n) es) to)) → (∀ x, x ≠ a → l' x = l x) → E.nx [some (.ref a), e1, e2, some (wordD w), some (.int n), e5, e6] l') →
    forL (gTup 2 (gCons (gName 5) (gCons (gName 6) gNil))) (nS B_add_joined_1) (es.map fun p => .tup [wordD p.1, .int p.2]) E [some (.ref a), e1, e2, some (wordD w), some (.int n), e5, e6] l
  | [], to, l, e5, e6, _, _, hl, h => h l _ _ hl fun x _ => rfl
  | p :: es, to, l, e5, e6, hz, hm, hl, h => by
    rw [List.length_cons] at hz
    obtain ⟨m1, m2⟩ := hm p List.mem_cons_self
    have sz : (w.map D.int).length + (p.1.map D.int).length ≤ sizeLine := by refine small ?_; rw [List.length_map, List.length_map]; omega
    refine ⟨rfl, ?_⟩
    walk_at "w"
    refine ⟨_, hl, ?_⟩
    walk_at "w"
    refine ⟨sz, ?_⟩
    rw [← List.map_append]
    walk_at "w"
    refine ⟨_, hl, _, keyT_word (w ++ p.1), ?_⟩
    dsimp only
    rw [getA_row]
    walk_at "w"
    refine ⟨m1.ok, ?_⟩
    walk_at "w"
    refine ⟨sz, ?_⟩
    rw [← List.map_append]
    walk_at "w"
    refine ⟨_, hl, _, keyT_word (w ++ p.1), ?_, ?_⟩
    · unfold rowKs
      rw [List.length_map]
      exact Nat.lt_of_lt_of_le (show to.length < 10000 by omega) (by decide)
    rw [putKs_row _ _ (getR to (w ++ p.1) + n * p.2), putDs_row]
    refine join_in hw es (to := putR to (w ++ p.1) (getR to (w ++ p.1) + n * p.2)) ?_ (fun q hq => hm q (List.mem_cons_of_mem _ hq)) uL_same fun l' e5 e6 h1 h2 => h l' e5 e6 h1 fun x hx => (h2 x hx).trans (uL_ne hx)
    have := put_len to (w ++ p.1) (getR to (w ++ p.1) + n * p.2)
    omega
theorem join_out {a : Addr} {es : Row} {e1 : Option D} {E : DEnds} {B : Nat} : ∀ (ps : Row) {to : Row} {l : LH} {e3 e4 e5 e6 : Option D}, (∀ c : Row, keysR c ⊆ keysR to ++ keysR (joinP ps es) → (keysR c).Nodup → c.length + es.length ≤ 9000) → (keysR to).Nodup →
    (∀ p ∈ ps, p.1.length ≤ 100 ∧ ∀ q ∈ es, CMulW p.2 q.2 ∧ q.1.length ≤ 100) → l a = some (rowO to) →
    (∀ l' e3 e4 e5 e6, l' a = some (rowO (addP (joinP ps es) to)) → (∀ x, x ≠ a → l' x = l x) → E.nx [some (.ref a), e1, some (rowD es), e3, e4, e5, e6] l') →
    forL (gTup 2 (gCons (gName 3) (gCons (gName 4) gNil))) (nS B_add_joined_2) (ps.map fun p => .tup [wordD p.1, .int p.2]) E [some (.ref a), e1, some (rowD es), e3, e4, e5, e6] l
  | [], to, l, e3, e4, e5, e6, _, _, _, hl, h => h l _ _ _ _ hl fun x _ => rfl
  | p :: ps, to, l, e3, e4, e5, e6, hz, nd, hm, hl, h => by
    obtain ⟨m1, m2⟩ := hm p List.mem_cons_self
    have hk : keysR (joinP (p :: ps) es) = keysR (endsP p es) ++ keysR (joinP ps es) := by
      unfold keysR
      rw [joinP, List.map_append]
    refine ⟨rfl, ?_⟩
    walk_at "w"
    refine ⟨?_⟩
    walk_at "w"
    rw [itemsD_row]
    refine join_in m1 es (hz to (fun x hx => List.mem_append_left _ hx) nd) m2 hl fun l' e5 e6 h1 h2 => ?_
    refine join_out (B := B) ps (to := addP (endsP p es) to) (fun c hc nc => hz c (fun x hx => ?_) nc) (addP_nodup _ nd) (fun q hq => hm q (List.mem_cons_of_mem _ hq)) h1 fun l2 e3 e4 e5 e6 h3 h4 => h l2 e3 e4 e5 e6 ?_ fun x hx => (h4 x hx).trans (h2 x hx)
    · rw [hk]
      rcases List.mem_append.mp (hc hx) with z | z
      · rcases addP_keys _ z with z | z
        · exact List.mem_append_left _ z
        · exact List.mem_append_right _ (List.mem_append_left _ z)
      · exact List.mem_append_right _ (List.mem_append_right _ z)
    · rw [joinP, addP_app]
      exact h3
theorem c_add_joined {a : Addr} {to ps es : Row} {l : LH} {Q : DK} (hz : ∀ c : Row, keysR c ⊆ keysR to ++ keysR (joinP ps es) → (keysR c).Nodup → c.length + es.length ≤ 9000) (nd : (keysR to).Nodup) (hm : ∀ p ∈ ps, p.1.length ≤ 100 ∧ ∀ q ∈ es, CMulW p.2 q.2 ∧ q.1.length ≤ 100) (hl : l a = some (rowO to))
    (h : ∀ l', l' a = some (rowO (addP (joinP ps es) to)) → (∀ x, x ≠ a → l' x = l x) → Q .non l') : callD D_add_joined [.ref a, rowD ps, rowD es] l Q := by
  refine ⟨rfl, ?_⟩
  walk_at "w"
  rw [itemsD_row]
  exact join_out (B := 0) ps hz nd hm hl fun l' _ _ _ _ h1 h2 => h l' h1 h2

end Law

namespace Law
open PySem PySem.Spec PyProof.Rows L2 DL
local macro_rules | `(tactic| walk_at "w") => `(tactic| conv => whnf)
local macro_rules | `(tactic| walk_at "s") => `(tactic| (refine ⟨?_⟩; conv => whnf))
local macro_rules | `(tactic| walk_at "z") => `(tactic| (refine small ?_; simp only [List.length_map, List.length_append, List.length_reverse, List.length_cons, List.length_nil]; omega))
local macro_rules | `(tactic| walk_at "q") => `(tactic| (refine ⟨(okN_tints _).ok, (okN_tints _).ok, ?_⟩; rw [eqD_tints]))
/-! scaled rows, how many words, products of series -/
structure Ser (a d : Nat) (f : List Int → Int) (S : List Row) : Prop where
  ok : RowsOk a f 0 S
  len : S.length = d + 1
/-- without noughts, too -/
structure SerN (a d : Nat) (f : List Int → Int) (S : List Row) : Prop extends Ser a d f S where
  nz : ∀ r ∈ S, ∀ p ∈ r, p.2 ≠ 0
theorem getR_mem {r : Row} (nd : (keysR r).Nodup) {p : List Int × Int} (hp : p ∈ r) : getR r p.1 = p.2 := by
  induction r with
  | nil => cases hp
  | cons q r ih =>
    obtain ⟨n1, n2⟩ := List.nodup_cons.mp (show (q.1 :: keysR r).Nodup from nd)
    show (if q.1 = p.1 then q.2 else getR r p.1) = p.2
    rcases List.mem_cons.mp hp with e | e
    · subst e; rw [if_pos rfl]
    · rw [if_neg fun z => n1 (by rw [z]; exact List.mem_map.mpr ⟨p, e, rfl⟩), ih n2 e]
theorem RowOk.val {a s : Nat} {f : List Int → Int} {r : Row} (h : RowOk a s f r) {p : List Int × Int} (hp : p ∈ r) : p.2 = f p.1.reverse ∧ p.1.length = s := by
  have hl := allL_word a s p.1 (h.ws p.1 (List.mem_map.mpr ⟨p, hp, rfl⟩))
  exact ⟨by rw [← getR_mem h.nd hp, h.at_ p.1 hl], hl⟩
/-- numbers of at most so many bits -/
def Bd (d B : Nat) (f : List Int → Int) : Prop := ∀ r : List Int, r.length ≤ d → (f r).natAbs < 2 ^ B
theorem RowsOk.congr {a : Nat} {f g : List Int → Int} : ∀ {rs : List Row} {s : Nat}, (∀ r : List Int, r.length < s + rs.length → f r = g r) → RowsOk a f s rs → RowsOk a g s rs
  | [], _, _, _ => trivial
  | r :: rs, s, e, h => by
    rw [List.length_cons] at e
    refine ⟨⟨h.1.nd, h.1.ws, fun w hw => ?_⟩, RowsOk.congr (fun r hr => e r (by omega)) h.2⟩
    rw [h.1.at_ w hw, e _ (by rw [List.length_reverse]; omega)]
theorem Ser.congr {a d : Nat} {f g : List Int → Int} {S : List Row} (e : Eqd d f g) (h : Ser a d f S) : Ser a d g S := ⟨h.ok.congr fun r hr => e r (by have := h.len; omega), h.len⟩
theorem SerN.congr {a d : Nat} {f g : List Int → Int} {S : List Row} (e : Eqd d f g) (h : SerN a d f S) : SerN a d g S := ⟨h.toSer.congr e, h.nz⟩
theorem Ser.row {a d : Nat} {f : List Int → Int} {S : List Row} (h : Ser a d f S) {s : Nat} (hs : s ≤ d) : ∃ r, S[s]? = some r ∧ RowOk a s f r := by
  have hl : s < S.length := by rw [h.len]; omega
  have hi := List.getElem?_eq_getElem hl
  have q := h.ok.at_ hi
  rw [Nat.zero_add] at q
  exact ⟨_, hi, q⟩
theorem rows_of {a : Nat} {f : List Int → Int} : ∀ {rs : List Row} {s : Nat}, (∀ (i : Nat) (r : Row), rs[i]? = some r → RowOk a (s + i) f r) → RowsOk a f s rs
  | [], _, _ => trivial
  | r :: rs, s, h => ⟨h 0 r rfl, rows_of fun i q hq => by have := h (i + 1) q (by simpa using hq); rwa [show s + (i + 1) = s + 1 + i by omega] at this⟩
theorem RowOk.noN {a s : Nat} {f : List Int → Int} {r : Row} (h : RowOk a s f r) : RowOk a s f (noN r) := by
  refine ⟨?_, fun u hu => ?_, fun w hw => by rw [getR_noN h.nd, h.at_ w hw]⟩
  · unfold Law.noN keysR
    exact (List.filter_sublist.map _).nodup h.nd
  · obtain ⟨p, hp, rfl⟩ := List.mem_map.mp hu
    exact h.ws p.1 (List.mem_map.mpr ⟨p, (List.mem_filter.mp hp).1, rfl⟩)
theorem Ser.noN {a d : Nat} {f : List Int → Int} {S : List Row} (h : Ser a d f S) : SerN a d f (S.map noN) := by
  refine ⟨⟨rows_of fun i r hr => ?_, by rw [List.length_map, h.len]⟩, fun r hr p hp => ?_⟩
  · rw [List.getElem?_map] at hr
    cases hq : S[i]? with
    | none => rw [hq] at hr; cases hr
    | some q =>
      rw [hq] at hr
      cases hr
      exact (h.ok.at_ hq).noN
  · obtain ⟨q, hq, rfl⟩ := List.mem_map.mp hr
    have := (List.mem_filter.mp hp).2
    simpa using this
theorem Ser.sz {a d : Nat} (gd : OkG a d) {f : List Int → Int} {S : List Row} (h : Ser a d f S) {r : Row} (hr : r ∈ S) : hashOk (rowKs r) ∧ RowSz r ∧ (keysR r).Nodup := by
  obtain ⟨i, hi⟩ := List.getElem?_of_mem hr
  have hl := (List.getElem?_eq_some_iff.mp hi).1
  have hd := h.len
  have := h.ok.at_ hi
  exact ⟨this.hash gd (by omega), (this.sz gd (by omega)).1, this.nd⟩
theorem c_scaled_row {r : Row} (nd : (keysR r).Nodup) (ho : hashOk (rowKs r)) (hz : r.length ≤ 10000) {t : Int} (hm : ∀ p ∈ r, CMulW p.2 t) {l : LH} {Q : DK} (h : newL (rowO (scaleR r t)) l Q) : callD D_scaled_row_m [rowD r, .int t] l Q := by
  refine ⟨rfl, ?_⟩
  walk_at "w"
  refine ⟨(okN_int _).ok, (okN_int _).ok, ?_⟩
  rw [eqD_int]
  refine ifB_dec (fun e => ?_) fun e => ?_
  · subst e
    have e2 : scaleR r 1 = r := by
      unfold scaleR
      conv => rhs; rw [← List.map_id r]
      refine List.map_congr_left fun p _ => ?_
      rw [Int.mul_one]
      rfl
    rw [e2] at h
    walk_at "w"
    exact ⟨ho, h⟩
  · walk_at "w"
    walk_at "s"
    rw [itemsD_row]
    refine ⟨by refine small ?_; rw [List.length_map]; omega, ?_⟩
    refine comp_pure (f := fun d => match d with | .tup [w, .int v] => .tup [w, .int (v * t)] | d => d) (fun d hd K1 K2 k1 => ?_) ?_
    · obtain ⟨p, hp, rfl⟩ := List.mem_map.mp hd
      refine ⟨rfl, ?_⟩
      walk_at "w"
      refine ifB_true ⟨?_⟩
      walk_at "w"
      refine ⟨(hm p hp).ok, ?_⟩
      walk_at "w"
      exact ⟨two_ok, k1⟩
    rw [List.map_map]
    have e3 : r.map ((fun d => match d with | .tup [w, .int v] => D.tup [w, .int (v * t)] | d => d) ∘ fun p => D.tup [wordD p.1, .int p.2]) = (scaleR r t).map fun p => D.tup [wordD p.1, .int p.2] := by
      unfold scaleR
      rw [List.map_map]
      rfl
    rw [e3]
    walk_at "w"
    refine ⟨_, pairsT_row _, rowKs_nodup (by rw [keysR_scale]; exact nd), h⟩
theorem c_many_words {S : List Row} (hz : S.length ≤ 1000) {l : LH} {Q : DK} (h : ∀ n : Int, Q (.int n) l) : callD D_many_words [.lst (S.map rowD)] l Q := by
  refine ⟨rfl, ?_⟩
  walk_at "w"
  refine ⟨by refine small ?_; rw [List.length_map]; omega, ?_⟩
  refine comp_pure (f := fun d => match d with | .dT ks _ => .int (ks.length : Nat) | d => d) (fun d hd K1 K2 k1 => ?_) ?_
  · obtain ⟨r, hr, rfl⟩ := List.mem_map.mp hd
    exact ifB_true ⟨k1⟩
  rw [List.map_map]
  have e : S.map ((fun d => match d with | .dT ks _ => D.int (ks.length : Nat) | d => d) ∘ rowD) = (S.map fun r => (((rowKs r).length : Nat) : Int)).map D.int := by
    rw [List.map_map]
    rfl
  rw [e]
  walk_at "w"
  exact ⟨_, rfl, h _⟩
theorem comp_frz {i : Nat} {te : DTE} {env : DSt} (hs : ∀ (a : Addr) (r : Row) (K1 : DK) (l1 : LH), (keysR r).Nodup → r.length ≤ 10000 → l1 a = some (rowO r) → K1 (rowD (noN r)) (dL l1 a) → ∀ K2 : LH → Prop, wipeK [i] env fun env0 => gName i (.ref a) env0 l1 fun env1 l2 => tYes env1 l2 fun c l3 => ifB c (te env1 l3 K1) (K2 l3)) :
    ∀ (as : List Addr) (rs : List Row) {l : LH} {Q : List D → LH → Prop}, Cells l as rs 0 → (∀ r ∈ rs, (keysR r).Nodup ∧ r.length ≤ 10000) → (∀ l', (∀ a ∈ as, l' a = none) → (∀ x, x ∉ as → l' x = l x) → Q ((rs.map noN).map rowD) l') → compL (gName i) tYes te [i] (as.map D.ref) env l Q
  | [], rs, l, Q, C, _, h => by
    have e : rs = [] := List.eq_nil_of_length_eq_zero C.len.symm
    subst e
    exact h l (fun a ha => by cases ha) fun x _ => rfl
  | a :: as, [], l, Q, C, _, h => by
    have := C.len
    simp at this
  | a :: as, r :: rs, l, Q, C, hr, h => by
    have ha := C.at_ 0 a r rfl rfl
    rw [if_neg (Nat.lt_irrefl _)] at ha
    obtain ⟨na, nd⟩ := List.nodup_cons.mp C.nd
    obtain ⟨r1, r2⟩ := hr r List.mem_cons_self
    have C' : Cells (dL l a) as rs 0 := ⟨by have := C.len; simpa using this, nd, fun i b q hb hq => by
      have hba : b ≠ a := fun e => na (by rw [← e]; exact List.mem_of_getElem? hb)
      unfold dL
      rw [if_neg hba, C.at_ (i + 1) b q (by simpa using hb) (by simpa using hq), if_neg (Nat.not_lt_zero _), if_neg (Nat.not_lt_zero _)]⟩
    refine hs a r _ l r1 r2 ha ?_ _
    refine comp_frz hs as rs C' (fun q hq => hr q (List.mem_cons_of_mem _ hq)) fun l' h1 h2 => ?_
    refine h l' (fun b hb => ?_) fun x hx => ?_
    · by_cases e : b ∈ as
      · exact h1 b e
      · rcases List.mem_cons.mp hb with e2 | e2
        · rw [h2 b e, e2]; unfold dL; rw [if_pos rfl]
        · exact absurd e2 e
    · rw [List.mem_cons, not_or] at hx
      rw [h2 x hx.2]
      unfold dL
      rw [if_neg hx.1]

end Law

namespace Law
open PySem PySem.Spec PyProof.Rows L2 DL
local macro_rules | `(tactic| walk_at "w") => `(tactic| conv => whnf)
local macro_rules | `(tactic| walk_at "s") => `(tactic| (refine ⟨?_⟩; conv => whnf))
local macro_rules | `(tactic| walk_at "z") => `(tactic| (refine small ?_; simp only [List.length_map, List.length_append, List.length_reverse, List.length_cons, List.length_nil]; omega))
local macro_rules | `(tactic| walk_at "q") => `(tactic| (refine ⟨(okN_tints _).ok, (okN_tints _).ok, ?_⟩; rw [eqD_tints]))
/-! the product of two series -/
def mixF (c f g : List Int → Int) (k : Nat) : List Int → Int := fun r => c r + sumN (fun i => f (r.reverse.take (i + 1)).reverse * g (r.reverse.drop (i + 1)).reverse) k
theorem Bd.mul {d B C : Nat} {f g : List Int → Int} (hf : Bd d B f) (hg : Bd d C g) (b0 : 0 < B) (c0 : 0 < C) (h : B + C ≤ 1000000) {r r' : List Int} (hr : r.length ≤ d) (hr' : r'.length ≤ d) : CMulW (f r) (g r') := wide_mul (hf r hr) (hg r' hr') b0 c0 h
theorem row_lim {a d s : Nat} (gd : OkG a d) (hs : s ≤ d) {c : Row} (hk : ∀ u ∈ keysR c, u ∈ allL a s) (nd : (keysR c).Nodup) : c.length ≤ 1024 := by
  have := (RowOk.sz (f := fun _ => 0) (r := c.map fun p => (p.1, 0)) gd hs ⟨by unfold keysR; rw [List.map_map]; exact nd, fun u hu => hk u (by unfold keysR at hu; rw [List.map_map] at hu; exact hu), fun w _ => by
    have z : ∀ c : Row, getR (c.map fun p => (p.1, (0 : Int))) w = 0 := by
      intro c
      induction c with
      | nil => rfl
      | cons p c ih =>
        show (if p.1 = w then (0 : Int) else getR (c.map fun p => (p.1, (0 : Int))) w) = 0
        rw [ih]; split <;> rfl
    exact z c⟩).1.1
  rwa [List.length_map] at this
theorem joined_mid {a d s : Nat} (gd : OkG a d) (hs : s ≤ d) {f g c : List Int → Int} {S T : List Row} (hS : Ser a d f S) (hT : Ser a d g T) (hm : ∀ r r' : List Int, r.length ≤ d → r'.length ≤ d → CMulW (f r) (g r')) {as : List Addr} {ad : Addr} (ha : as[s]? = some ad) {E : DEnds} {e2 e3 e5 e6 e9 : Option D} :
    ∀ (m k : Nat) {cur : Row} {l : LH} {e8 : Option D}, s = k + 1 + m → RowOk a s (mixF c f g k) cur → l ad = some (rowO cur) →
    (∀ l' cur' e8, RowOk a s (mixF c f g (k + m)) cur' → l' ad = some (rowO cur') → (∀ x, x ≠ ad → l' x = l x) → E.nx [some (.lst (S.map rowD)), some (.lst (T.map rowD)), e2, e3, some (.lst (as.map D.ref)), e5, e6, some (.int (s : Nat)), e8, e9] l') →
    forL (gName 8) (nS B_series_joined_1) (rgD ((k + 1 : Nat) : Int) m) E [some (.lst (S.map rowD)), some (.lst (T.map rowD)), e2, e3, some (.lst (as.map D.ref)), e5, e6, some (.int (s : Nat)), e8, e9] l
  | 0, k, cur, l, e8, _, hc, hl, h => h l cur _ hc hl fun x _ => rfl
  | m + 1, k, cur, l, e8, hk, hc, hl, h => by
    have d5 := gd.num
    obtain ⟨p, hp, okp⟩ := hS.row (s := k + 1) (by omega)
    obtain ⟨q, hq, okq⟩ := hT.row (s := m + 1) (by omega)
    have h1 : (as.map D.ref)[s]? = some (.ref ad) := by rw [List.getElem?_map, ha]; rfl
    have h2 : (S.map rowD)[k + 1]? = some (rowD p) := by rw [List.getElem?_map, hp]; rfl
    have h3 : (T.map rowD)[m + 1]? = some (rowD q) := by rw [List.getElem?_map, hq]; rfl
    have sq := okq.sz gd (by omega)
    have sp := okp.sz gd (by omega)
    have kj : ∀ w ∈ keysR (joinP p q), w ∈ allL a s := fun w hw => by
      obtain ⟨u, hu, v, hv, rfl⟩ := joinP_keys hw
      have := allL_app (okp.ws u hu) (okq.ws v hv)
      rwa [show k + 1 + (m + 1) = s by omega] at this
    rw [rgD_succ]
    refine ⟨?_⟩
    walk_at "w"
    refine ⟨_, atI_nat h1, ?_⟩
    walk_at "w"
    refine ⟨_, atI_nat h2, ?_⟩
    walk_at "w"
    rw [show ((s : Nat) : Int) - ((k + 1 : Nat) : Int) = ((m + 1 : Nat) : Int) by omega]
    refine ⟨_, atI_nat h3, ?_⟩
    walk_at "w"
    refine c_add_joined (fun x hx nx => ?_) hc.nd (fun x hx => ?_) hl fun l' g1 g2 => ?_
    · have := row_lim gd hs (c := x) (fun u hu => (List.mem_append.mp (hx hu)).elim (hc.ws u) (kj u)) nx
      have := sq.1.1
      omega
    · obtain ⟨v1, v2⟩ := okp.val hx
      refine ⟨by omega, fun y hy => ?_⟩
      obtain ⟨v3, v4⟩ := okq.val hy
      refine ⟨?_, by omega⟩
      rw [v1, v3]
      exact hm _ _ (by rw [List.length_reverse]; omega) (by rw [List.length_reverse]; omega)
    · have ok' : RowOk a s (mixF c f g (k + 1)) (addP (joinP p q) cur) := addP_ok hc kj fun w hw => by
        rw [totP_join (i := k + 1) (fun u hu => allL_word a _ u (okp.ws u hu)) okp.nd okq.nd, okp.at_ _ (by rw [List.length_take]; omega), okq.at_ _ (by rw [List.length_drop]; omega)]
        show c w.reverse + (sumN _ k + f (w.reverse.reverse.take (k + 1)).reverse * g (w.reverse.reverse.drop (k + 1)).reverse) = c w.reverse + sumN _ k + _
        rw [List.reverse_reverse, Int.add_assoc]
      rw [show (((k + 1 : Nat) : Int) + 1) = ((k + 1 + 1 : Nat) : Int) by omega]
      refine joined_mid gd hs hS hT hm ha m (k + 1) (by omega) ok' g1 fun l2 cur' e8 b1 b2 b3 => ?_
      rw [show k + 1 + m = k + (m + 1) by omega] at b1
      exact h l2 cur' e8 b1 b2 fun x hx => (b3 x hx).trans (g2 x hx)
theorem joined_out {a d : Nat} (gd : OkG a d) {f g c fw : List Int → Int} {S T W : List Row} {t : Int} (hS : Ser a d f S) (hT : Ser a d g T) (hW : Ser a d fw W) (hc : ∀ r, c r + fw r * t = f r * g [] + f [] * g r)
    (hm : ∀ r r' : List Int, r.length ≤ d → r'.length ≤ d → CMulW (f r) (g r')) (hm2 : ∀ r : List Int, r.length ≤ d → CMulW (fw r) t) {as : List Addr} {E : DEnds} {e2 e3 e9 : Option D} :
    ∀ (rs : List Row) {done : List Row} {l : LH} {e7 e8 : Option D}, 1 ≤ done.length → done.length + rs.length = d + 1 → (∀ (i : Nat) (r : Row), done[i]? = some r → RowOk a i (conv f g) r) → (∀ (i : Nat) (r : Row), rs[i]? = some r → RowOk a (done.length + i) c r) → Cells l as (done ++ rs) 0 →
    (∀ l' U e7 e8, Ser a d (conv f g) U → Cells l' as U 0 → (∀ x, x ∉ as → l' x = l x) → E.nx [some (.lst (S.map rowD)), some (.lst (T.map rowD)), e2, e3, some (.lst (as.map D.ref)), some (.lst (W.map rowD)), some (.int t), e7, e8, e9] l') →
    forL (gName 7) (nS B_series_joined_2) (rgD (done.length : Nat) rs.length) E [some (.lst (S.map rowD)), some (.lst (T.map rowD)), e2, e3, some (.lst (as.map D.ref)), some (.lst (W.map rowD)), some (.int t), e7, e8, e9] l
  | [], done, l, e7, e8, _, hn, hd, _, C, h => by
    rw [List.append_nil] at C
    exact h l done _ _ ⟨rows_of fun i r hr => by rw [Nat.zero_add]; exact hd i r hr, by simpa using hn⟩ C fun x _ => rfl
  | r :: rs, done, l, e7, e8, h1, hn, hd, hr, C, h => by
    have d5 := gd.num
    rw [List.length_cons] at hn
    have okr := hr 0 r rfl
    rw [Nat.add_zero] at okr
    obtain ⟨q, hq, okq⟩ := hW.row (s := done.length) (by omega)
    obtain ⟨ad, ha, hl⟩ := C.get (i := done.length) (r := r) (by rw [List.getElem?_append_right (Nat.le_refl _), Nat.sub_self]; rfl)
    rw [if_neg (Nat.not_lt_zero _)] at hl
    have g1 : (as.map D.ref)[done.length]? = some (.ref ad) := by rw [List.getElem?_map, ha]; rfl
    have g2 : (W.map rowD)[done.length]? = some (rowD q) := by rw [List.getElem?_map, hq]; rfl
    have sr := okr.sz gd (by omega)
    have sq := okq.sz gd (by omega)
    rw [List.length_cons, rgD_succ]
    refine ⟨?_⟩
    walk_at "w"
    refine ⟨_, atI_nat g1, ?_⟩
    walk_at "w"
    refine ⟨_, atI_nat g2, ?_⟩
    walk_at "w"
    refine c_add_words (by have := sr.1.1; have := sq.1.1; omega) (fun p hp => ?_) hl fun l' b1 b2 => ?_
    · obtain ⟨v1, v2⟩ := okq.val hp
      rw [v1]
      exact hm2 _ (by rw [List.length_reverse]; omega)
    have ok0 : RowOk a done.length (mixF (fun r => c r + fw r * t) f g 0) (addP (scaleR q t) r) := addP_ok okr (fun u hu => okq.ws u (by rwa [keysR_scale] at hu)) fun w hw => by
      rw [totP_scale t okq.nd, okq.at_ w hw]
      show c w.reverse + fw w.reverse * t + 0 = _
      omega
    walk_at "w"
    refine ⟨⟨by decide, by decide, by omega, by omega⟩, ?_⟩
    rw [show (((done.length : Nat) : Int) - 1).toNat = done.length - 1 by omega]
    refine joined_mid gd (by omega) hS hT hm ha (done.length - 1) 0 (by omega) ok0 b1 fun l2 cur e8 b3 b4 b5 => ?_
    have okc : RowOk a done.length (conv f g) cur := ⟨b3.nd, b3.ws, fun w hw => by
      rw [b3.at_ w hw, conv_ahead f g w (by omega), hw]
      show c w.reverse + fw w.reverse * t + sumN _ (0 + (done.length - 1)) = _
      rw [hc, Nat.zero_add, List.reverse_reverse]⟩
    have C' := C.put (r' := cur) (l' := l2) ha (Nat.zero_le _) b4 fun x hx => (b5 x hx).trans (b2 x hx)
    have haS : ad ∈ as := List.mem_of_getElem? ha
    rw [show ((done.length : Nat) : Int) + 1 = ((done ++ [cur]).length : Nat) by rw [List.length_append, List.length_singleton]; omega]
    refine joined_out gd hS hT hW hc hm hm2 rs (done := done ++ [cur]) (by rw [List.length_append]; omega) (by rw [List.length_append, List.length_singleton]; omega) (fun i x hx => ?_) (fun i x hx => ?_) (by rw [List.append_assoc]; exact C') fun l3 U e7 e8 u1 u2 u3 => h l3 U e7 e8 u1 u2 fun x hx => ?_
    · by_cases hi : i < done.length
      · rw [List.getElem?_append_left hi] at hx
        exact hd i x hx
      · rw [List.getElem?_append_right (by omega)] at hx
        have : i - done.length = 0 := by
          have := (List.getElem?_eq_some_iff.mp hx).1
          simpa using this
        rw [this] at hx
        cases hx
        rw [show i = done.length by omega]
        exact okc
    · rw [List.length_append, List.length_singleton, show done.length + 1 + i = done.length + (i + 1) by omega]
      exact hr (i + 1) x (by simpa using hx)
    · have hxa : x ≠ ad := fun e => hx (by rw [e]; exact haS)
      exact ((u3 x hx).trans (b5 x hxa)).trans (b2 x hxa)
theorem c_series_joined {a d : Nat} (gd : OkG a d) {f g : List Int → Int} {S T : List Row} (hS : Ser a d f S) (hT : Ser a d g T) {B C : Nat} (hB : Bd d B f) (hC : Bd d C g) (b0 : 0 < B) (c0 : 0 < C) (bc : B + C ≤ 1000000) {l : LH} {Q : DK}
    (h : ∀ U, SerN a d (conv f g) U → Q (.lst (U.map rowD)) l) : callD D_series_joined [.lst (S.map rowD), .lst (T.map rowD)] l Q := by
  have d5 := gd.num
  have lS := hS.len
  have lT := hT.len
  obtain ⟨p0, hp0, okp⟩ := hS.row (Nat.zero_le d)
  obtain ⟨q0, hq0, okq⟩ := hT.row (Nat.zero_le d)
  have h1 : (S.map rowD)[0]? = some (rowD p0) := by rw [List.getElem?_map, hp0]; rfl
  have h2 : (T.map rowD)[0]? = some (rowD q0) := by rw [List.getElem?_map, hq0]; rfl
  have f0 : getR p0 [] = f [] := okp.at_ [] rfl
  have g0 : getR q0 [] = g [] := okq.at_ [] rfl
  have mfg : ∀ r r' : List Int, r.length ≤ d → r'.length ≤ d → CMulW (f r) (g r') := fun r r' hr hr' => hB.mul hC b0 c0 bc hr hr'
  have mgf : ∀ r r' : List Int, r.length ≤ d → r'.length ≤ d → CMulW (g r) (f r') := fun r r' hr hr' => hC.mul hB c0 b0 (by omega) hr hr'
  refine ⟨rfl, ?_⟩
  walk_at "w"
  refine ⟨_, atI_nat (j := 0) h1, ?_⟩
  walk_at "w"
  refine ⟨Nat.zero_le _, ?_⟩
  refine ⟨_, keyT_word [], ?_⟩
  dsimp only
  rw [getA_row, f0]
  walk_at "w"
  refine ⟨_, atI_nat (j := 0) h2, ?_⟩
  walk_at "w"
  refine ⟨Nat.zero_le _, ?_⟩
  refine ⟨_, keyT_word [], ?_⟩
  dsimp only
  rw [getA_row, g0]
  walk_at "w"
  refine ⟨two_ok, ?_⟩
  walk_at "w"
  refine ⟨rfl, ?_⟩
  walk_at "w"
  walk_at "s"
  refine c_many_words (by omega) fun n1 => ?_
  walk_at "w"
  refine c_many_words (by omega) fun n2 => ?_
  walk_at "w"
  have fin : ∀ (as : List Addr) (l2 : LH) (e2 e3 e5 e6 e7 e8 e9 : Option D) (U : List Row), Ser a d (conv f g) U → Cells l2 as U 0 → (∀ x ∈ as, l x = none) → (∀ x, x ∉ as → l2 x = l x) →
      nS T_series_joined_4 (E0 Q) [some (.lst (S.map rowD)), some (.lst (T.map rowD)), e2, e3, some (.lst (as.map D.ref)), e5, e6, e7, e8, e9] l2 := by
    intro as l2 e2 e3 e5 e6 e7 e8 e9 U hU CU fr o
    refine ⟨?_⟩
    walk_at "w"
    have la := CU.len
    have lU := hU.len
    refine ⟨by refine small ?_; rw [List.length_map]; omega, ?_⟩
    refine comp_frz (fun ad r K1 l1 n1 n2 hl1 k1 K2 => ?_) as U CU (fun r hr => ⟨(hU.sz gd hr).2.2, by have := (hU.sz gd hr).2.1.1; omega⟩) fun l3 c1 c2 => ?_
    · refine ifB_true ⟨?_⟩
      walk_at "w"
      exact ⟨_, hl1, c_without_noughts n1 n2 k1⟩
    · have e : l3 = l := by
        funext x
        by_cases hx : x ∈ as
        · rw [c1 x hx, fr x hx]
        · rw [c2 x hx, o x hx]
      rw [e]
      exact h _ hU.noN
  have scal : ∀ {t : Int} {V : List Row} {v : List Int → Int}, Ser a d v V → (∀ r : List Int, r.length ≤ d → CMulW (v r) t) → ∀ r ∈ V, ∀ {l1 : LH} {K : DK}, newL (rowO (scaleR r t)) l1 K → callD D_scaled_row_m [rowD r, .int t] l1 K := by
    intro t V v hV hm r hr l1 K k
    obtain ⟨z1, z2, z3⟩ := hV.sz gd hr
    refine c_scaled_row z3 z1 (by have := z2.1; omega) (fun p hp => ?_) k
    obtain ⟨i, hi⟩ := List.getElem?_of_mem hr
    have hl := (List.getElem?_eq_some_iff.mp hi).1
    have lV := hV.len
    have := (hV.ok.at_ hi).val hp
    rw [this.1]
    exact hm _ (by rw [List.length_reverse]; omega)
  have sok : ∀ {t : Int} {V : List Row} {v : List Int → Int}, Ser a d v V → ∀ (i : Nat) (r : Row), (V.map fun r => scaleR r t)[i]? = some r → RowOk a i (fun r => v r * t) r := by
    intro t V v hV i r hr
    rw [List.getElem?_map] at hr
    cases hq : V[i]? with
    | none => rw [hq] at hr; cases hr
    | some q =>
      rw [hq] at hr
      cases hr
      have := hV.ok.at_ hq
      rw [Nat.zero_add] at this
      exact ⟨by rw [keysR_scale]; exact this.nd, by rw [keysR_scale]; exact this.ws, fun w hw => by rw [getR_scale, this.at_ w hw]⟩
  have key : ∀ {t1 t2 : Int} {V W : List Row} {v w : List Int → Int} {e2 e3 : Option D}, Ser a d v V → Ser a d w W → (∀ r : List Int, r.length ≤ d → CMulW (w r) t2) → (∀ r, v r * t1 + w r * t2 = f r * g [] + f [] * g r) → v [] * t1 = conv f g [] →
      ∀ (as : List Addr) (l1 : LH) (e7 e8 e9 : Option D), Cells l1 as (V.map fun r => scaleR r t1) 0 → (∀ x ∈ as, l x = none) → (∀ x, x ∉ as → l1 x = l x) →
      nS T_series_joined_3 (E0 Q) [some (.lst (S.map rowD)), some (.lst (T.map rowD)), e2, e3, some (.lst (as.map D.ref)), some (.lst (W.map rowD)), some (.int t2), e7, e8, e9] l1 := by
    intro t1 t2 V W v w e2 e3 hV hW hm hc hz as l1 e7 e8 e9 C fr o
    refine ⟨?_⟩
    walk_at "w"
    have la := C.len
    have lV := hV.len
    rw [List.length_map] at la
    rw [List.length_map]
    refine ⟨⟨by decide, by decide, by omega, by omega⟩, ?_⟩
    have sV := sok (t := t1) hV
    generalize V.map (fun r => scaleR r t1) = rs at C sV
    have lr := C.len
    cases rs with
    | nil => rw [List.length_nil] at lr; omega
    | cons r0 rs =>
      rw [List.length_cons] at lr
      rw [show (((as.length : Nat) : Int) - 1).toNat = rs.length by omega]
      refine joined_out gd hS hT hW hc mfg hm rs (done := [r0]) (Nat.le_refl _) (by rw [List.length_singleton]; omega) (fun i r hr => ?_) (fun i r hr => ?_) C fun l' U e7 e8 u1 u2 u3 => fin as l' _ _ _ _ _ _ _ U u1 u2 fr fun x hx => (u3 x hx).trans (o x hx)
      · cases i with
        | zero =>
          cases hr
          have s0 := sV 0 r0 rfl
          exact ⟨s0.nd, s0.ws, fun w hw => by
            rw [s0.at_ w hw, List.eq_nil_of_length_eq_zero hw]
            exact hz⟩
        | succ i => simp at hr
      · rw [List.length_singleton, Nat.add_comm]
        exact sV (i + 1) r (by simpa using hr)
  refine ifB_by (fun _ => ?_) fun _ => ?_
  · walk_at "w"
    refine ⟨by refine small ?_; rw [List.length_map]; omega, ?_⟩
    have e : T.map rowD = (T.map fun r => (rowD r, scaleR r (f []))).map (·.1) := by rw [List.map_map]; rfl
    have e2 : (T.map fun r => (rowD r, scaleR r (f []))).map (·.2) = T.map fun r => scaleR r (f []) := by rw [List.map_map]; rfl
    conv => arg 5; rw [e]
    refine comp_newrows _ (fun z hz K1 K2 l1 k1 => ?_) fun as l' C fr o => ?_
    · obtain ⟨r, hr, rfl⟩ := List.mem_map.mp hz
      refine ifB_true ⟨?_⟩
      walk_at "w"
      exact scal hT (fun r hr => mgf r [] hr (Nat.zero_le _)) r hr k1
    rw [e2] at C
    walk_at "w"
    exact key hT hS (fun r hr => mfg r [] hr (Nat.zero_le _)) (fun r => by rw [Int.mul_comm (g r), Int.add_comm]) (by rw [conv_nil, Int.mul_comm]) as l' _ _ _ C fr o
  · walk_at "w"
    refine ⟨by refine small ?_; rw [List.length_map]; omega, ?_⟩
    have e : S.map rowD = (S.map fun r => (rowD r, scaleR r (g []))).map (·.1) := by rw [List.map_map]; rfl
    have e2 : (S.map fun r => (rowD r, scaleR r (g []))).map (·.2) = S.map fun r => scaleR r (g []) := by rw [List.map_map]; rfl
    conv => arg 5; rw [e]
    refine comp_newrows _ (fun z hz K1 K2 l1 k1 => ?_) fun as l' C fr o => ?_
    · obtain ⟨r, hr, rfl⟩ := List.mem_map.mp hz
      refine ifB_true ⟨?_⟩
      walk_at "w"
      exact scal hS (fun r hr => mfg r [] hr (Nat.zero_le _)) r hr k1
    rw [e2] at C
    walk_at "w"
    exact key hS hT (fun r hr => mgf r [] hr (Nat.zero_le _)) (fun r => by rw [Int.mul_comm (g r)]) (conv_nil f g).symm as l' _ _ _ C fr o

end Law

namespace Law
open PySem PySem.Spec PyProof.Rows L2 DL
local macro_rules | `(tactic| walk_at "w") => `(tactic| conv => whnf)
local macro_rules | `(tactic| walk_at "s") => `(tactic| (refine ⟨?_⟩; conv => whnf))
local macro_rules | `(tactic| walk_at "z") => `(tactic| (refine small ?_; simp only [List.length_map, List.length_append, List.length_reverse, List.length_cons, List.length_nil]; omega))
local macro_rules | `(tactic| walk_at "q") => `(tactic| (refine ⟨(okN_tints _).ok, (okN_tints _).ok, ?_⟩; rw [eqD_tints]))
/-! a series and another one, so many times -/
theorem zadd_in {a : Addr} {t : Int} {e0 e1 e3 e5 : Option D} {E : DEnds} : ∀ (ps : Row) {to : Row} {l : LH} {e6 e7 : Option D}, to.length + ps.length ≤ 9000 → (∀ p ∈ ps, CMulW t p.2) → l a = some (rowO to) →
    (∀ l' e6 e7, l' a = some (rowO (addP (scaleR ps t) to)) → (∀ x, x ≠ a → l' x = l x) → E.nx [e0, e1, some (.int t), e3, some (.ref a), e5, e6, e7] l') →
    forL (gTup 2 (gCons (gName 6) (gCons (gName 7) gNil))) (nS B_series_added_1) (ps.map fun p => .tup [wordD p.1, .int p.2]) E [e0, e1, some (.int t), e3, some (.ref a), e5, e6, e7] l
  | [], to, l, e6, e7, _, _, hl, h => h l _ _ hl fun x _ => rfl
  | p :: ps, to, l, e6, e7, hz, hm, hl, h => by
    rw [List.length_cons] at hz
    refine ⟨rfl, ?_⟩
    walk_at "w"
    refine ⟨_, hl, ?_⟩
    walk_at "w"
    refine ⟨_, hl, _, keyT_word p.1, ?_⟩
    dsimp only
    rw [getA_row]
    walk_at "w"
    refine ⟨(hm p List.mem_cons_self).ok, ?_⟩
    walk_at "w"
    refine ⟨_, hl, _, keyT_word p.1, ?_, ?_⟩
    · unfold rowKs
      rw [List.length_map]
      exact Nat.lt_of_lt_of_le (show to.length < 10000 by omega) (by decide)
    rw [Int.mul_comm t, putKs_row _ _ (getR to p.1 + p.2 * t), putDs_row]
    refine zadd_in ps (to := putR to p.1 (getR to p.1 + p.2 * t)) ?_ (fun q hq => hm q (List.mem_cons_of_mem _ hq)) uL_same fun l' e6 e7 h1 h2 => h l' e6 e7 h1 fun x hx => (h2 x hx).trans (uL_ne hx)
    have := put_len to p.1 (getR to p.1 + p.2 * t)
    omega
theorem zadd_out {t : Int} {e0 e1 e3 : Option D} {E : DEnds} {as0 : List Addr} {k : Nat} : ∀ (as : List Addr) (rs ws : List Row) {done : List Row} {pre : List Addr} {l : LH} {e4 e5 e6 e7 : Option D}, rs.length = ws.length → as.length = rs.length → pre ++ as = as0 → pre.length = done.length → (∀ r ∈ rs, r.length ≤ 1024) → (∀ w ∈ ws, w.length ≤ 1024 ∧ ∀ p ∈ w, CMulW t p.2) → Cells l as0 (done ++ rs) 0 →
    (∀ l' e4 e5 e6 e7, Cells l' as0 (done ++ List.zipWith (fun r w => addP (scaleR w t) r) rs ws) 0 → (∀ x, x ∉ as0 → l' x = l x) → E.nx [e0, e1, some (.int t), e3, e4, e5, e6, e7] l') →
    forL (gTup 2 (gCons (gName 4) (gCons (gName 5) gNil))) (nS B_series_added_2) (zipD (as.map D.ref) (ws.map rowD)) E [e0, e1, some (.int t), e3, e4, e5, e6, e7] l
  | [], [], [], done, pre, l, e4, e5, e6, e7, _, _, _, _, _, _, C, h => h l _ _ _ _ C fun x _ => rfl
  | [], r :: rs, ws, _, _, _, _, _, _, _, _, h, _, _, _, _, _, _ => by simp at h
  | a :: as, [], ws, _, _, _, _, _, _, _, _, h, _, _, _, _, _, _ => by simp at h
  | _, [], w :: ws, _, _, _, _, _, _, _, h, _, _, _, _, _, _, _ => by simp at h
  | _, r :: rs, [], _, _, _, _, _, _, _, h, _, _, _, _, _, _, _ => by simp at h
  | a :: as, r :: rs, w :: ws, done, pre, l, e4, e5, e6, e7, h1, h2, hp, hd, hr, hw, C, h => by
    have ha : as0[done.length]? = some a := by rw [← hp, ← hd, List.getElem?_append_right (Nat.le_refl _), Nat.sub_self]; rfl
    have hl := C.at_ done.length a r ha (by rw [List.getElem?_append_right (Nat.le_refl _), Nat.sub_self]; rfl)
    rw [if_neg (Nat.not_lt_zero _)] at hl
    obtain ⟨w1, w2⟩ := hw w List.mem_cons_self
    have r1 := hr r List.mem_cons_self
    refine ⟨rfl, ?_⟩
    walk_at "w"
    refine ⟨?_⟩
    walk_at "w"
    rw [itemsD_row]
    refine zadd_in w (by omega) w2 hl fun l' e6 e7 b1 b2 => ?_
    have C' := C.put (r' := addP (scaleR w t) r) ha (Nat.zero_le _) b1 b2
    have haS : a ∈ as0 := List.mem_of_getElem? ha
    refine zadd_out (k := k) (as0 := as0) as rs ws (done := done ++ [addP (scaleR w t) r]) (pre := pre ++ [a]) (by simpa using h1) (by simpa using h2) (by rw [List.append_assoc]; exact hp) (by rw [List.length_append, List.length_append, hd]; rfl) (fun q hq => hr q (List.mem_cons_of_mem _ hq)) (fun q hq => hw q (List.mem_cons_of_mem _ hq)) (by rw [List.append_assoc]; exact C') fun l2 e4 e5 e6 e7 C2 o2 => ?_
    refine h l2 e4 e5 e6 e7 ?_ fun x hx => (o2 x hx).trans (b2 x fun e => hx (by rw [e]; exact haS))
    rw [List.append_assoc] at C2
    exact C2
theorem c_series_added {a d : Nat} (gd : OkG a d) {f g : List Int → Int} {S T : List Row} (hS : Ser a d f S) (hT : Ser a d g T) {t : Int} (hm : ∀ r : List Int, r.length ≤ d → CMulW t (g r)) {l : LH} {Q : DK}
    (h : ∀ U, SerN a d (fun r => f r + t * g r) U → Q (.lst (U.map rowD)) l) : callD D_series_added [.lst (S.map rowD), .lst (T.map rowD), .int t] l Q := by
  have d5 := gd.num
  have lS := hS.len
  have lT := hT.len
  refine ⟨rfl, ?_⟩
  walk_at "w"
  refine ⟨by refine small ?_; rw [List.length_map]; omega, ?_⟩
  have e : S.map rowD = (S.map fun r => (rowD r, r)).map (·.1) := by rw [List.map_map]; rfl
  have e2 : (S.map fun r => (rowD r, r)).map (·.2) = S := by rw [List.map_map]; exact List.map_id S
  conv => arg 5; rw [e]
  refine comp_newrows _ (fun z hz K1 K2 l1 k1 => ?_) fun as l' C fr o => ?_
  · obtain ⟨r, hr, rfl⟩ := List.mem_map.mp hz
    refine ifB_true ⟨?_⟩
    exact ⟨(hS.sz gd hr).1, k1⟩
  rw [e2] at C
  walk_at "w"
  walk_at "s"
  have lC := C.len
  refine zadd_out (k := 0) as S T (done := []) (pre := []) (by omega) (by omega) rfl rfl (fun r hr => (hS.sz gd hr).2.1.1) (fun w hw => ⟨(hT.sz gd hw).2.1.1, fun p hp => ?_⟩) C fun l2 e4 e5 e6 e7 C2 o2 => ⟨?_⟩
  · obtain ⟨i, hi⟩ := List.getElem?_of_mem hw
    have hl := (List.getElem?_eq_some_iff.mp hi).1
    have := (hT.ok.at_ hi).val hp
    rw [this.1]
    exact hm _ (by rw [List.length_reverse]; omega)
  rw [List.nil_append] at C2
  generalize hU : List.zipWith (fun r w => addP (scaleR w t) r) S T = U at C2
  have sU : Ser a d (fun r => f r + t * g r) U := by
    refine ⟨rows_of fun i r hr => ?_, by rw [← hU, List.length_zipWith]; omega⟩
    rw [Nat.zero_add]
    rw [← hU] at hr
    have hi : i < d + 1 := by
      have := (List.getElem?_eq_some_iff.mp hr).1
      rw [List.length_zipWith] at this
      omega
    obtain ⟨p, hp, okp⟩ := hS.row (s := i) (by omega)
    obtain ⟨q, hq, okq⟩ := hT.row (s := i) (by omega)
    rw [List.getElem?_zipWith, hp, hq] at hr
    cases hr
    exact addP_ok okp (fun u hu => okq.ws u (by rwa [keysR_scale] at hu)) fun w hw => by
      rw [totP_scale t okq.nd, okq.at_ w hw, Int.mul_comm]
  walk_at "w"
  have lU := sU.len
  have lC2 := C2.len
  refine ⟨by refine small ?_; rw [List.length_map]; omega, ?_⟩
  refine comp_frz (fun ad r K1 l1 n1 n2 hl1 k1 K2 => ?_) as U C2 (fun r hr => ⟨(sU.sz gd hr).2.2, by have := (sU.sz gd hr).2.1.1; omega⟩) fun l3 c1 c2 => ?_
  · refine ifB_true ⟨?_⟩
    walk_at "w"
    exact ⟨_, hl1, c_without_noughts n1 n2 k1⟩
  · have e : l3 = l := by
      funext x
      by_cases hx : x ∈ as
      · rw [c1 x hx, fr x hx]
      · rw [c2 x hx, o2 x hx, o x hx]
    rw [e]
    exact h _ sU.noN
/-! nothing at all -/
theorem c_is_bare {a d : Nat} (gd : OkG a d) {f : List Int → Int} {S : List Row} (hS : SerN a d f S) {l : LH} {Q : DK} (h1 : (∀ r : List Int, r.length ≤ d → f r = 0) → Q (.bl true) l) (h2 : (∃ r : List Int, r.length ≤ d ∧ f r ≠ 0) → Q (.bl false) l) : callD D_is_bare [.lst (S.map rowD)] l Q := by
  have d5 := gd.num
  have lS := hS.len
  refine ⟨rfl, ?_⟩
  walk_at "w"
  refine ⟨by refine small ?_; rw [List.length_map]; omega, ?_⟩
  refine comp_pure (f := fun d => match d with | .dT ks _ => .bl (decide ((0 : Int) < (ks.length : Nat))) | d => d) (fun d hd K1 K2 k1 => ?_) ?_
  · obtain ⟨r, hr, rfl⟩ := List.mem_map.mp hd
    exact ifB_true ⟨k1⟩
  rw [List.map_map]
  have e : S.map ((fun d => match d with | .dT ks _ => D.bl (decide ((0 : Int) < (ks.length : Nat))) | d => d) ∘ rowD) = (S.map fun r => decide ((0 : Int) < ((rowKs r).length : Nat))).map D.bl := by
    rw [List.map_map]
    rfl
  rw [e]
  walk_at "w"
  refine ⟨_, rfl, ?_⟩
  walk_at "w"
  have lk : ∀ r : Row, (rowKs r).length = r.length := fun r => by unfold rowKs; rw [List.length_map]
  cases hb : (S.map fun r => decide ((0 : Int) < ((rowKs r).length : Nat))).any id with
  | true =>
    refine h2 ?_
    obtain ⟨x, hx, hx2⟩ := List.any_eq_true.mp hb
    obtain ⟨r, hr, rfl⟩ := List.mem_map.mp hx
    have hpos : (0 : Int) < ((rowKs r).length : Nat) := of_decide_eq_true hx2
    rw [lk] at hpos
    cases r with
    | nil => simp at hpos
    | cons p r =>
      obtain ⟨i, hi⟩ := List.getElem?_of_mem hr
      have hl := (List.getElem?_eq_some_iff.mp hi).1
      obtain ⟨v1, v2⟩ := (hS.ok.at_ hi).val (p := p) List.mem_cons_self
      exact ⟨p.1.reverse, by rw [List.length_reverse]; omega, by rw [← v1]; exact hS.nz _ hr p List.mem_cons_self⟩
  | false =>
    refine h1 fun r hr => ?_
    obtain ⟨q, hq, okq⟩ := hS.toSer.row hr
    have hqS := List.mem_of_getElem? hq
    have hz : q = [] := by
      cases q with
      | nil => rfl
      | cons p q =>
        have := List.any_eq_false.mp hb _ (List.mem_map.mpr ⟨_, hqS, rfl⟩)
        rw [lk] at this
        simp at this
    have := okq.at_ r.reverse (by rw [List.length_reverse])
    rw [hz, List.reverse_reverse] at this
    exact this.symm

end Law

namespace Law
open PySem PySem.Spec PyProof.Rows L2 DL
local macro_rules | `(tactic| walk_at "w") => `(tactic| conv => whnf)
local macro_rules | `(tactic| walk_at "s") => `(tactic| (refine ⟨?_⟩; conv => whnf))
local macro_rules | `(tactic| walk_at "z") => `(tactic| (refine small ?_; simp only [List.length_map, List.length_append, List.length_reverse, List.length_cons, List.length_nil]; omega))
local macro_rules | `(tactic| walk_at "q") => `(tactic| (refine ⟨(okN_tints _).ok, (okN_tints _).ok, ?_⟩; rw [eqD_tints]))
/-! how great numbers are -/
def GrD (d M : Nat) (f : List Int → Int) : Prop := ∀ r : List Int, r.length ≤ d → (f r).natAbs ≤ M ^ r.length
theorem sumN_le {F : Nat → Int} {M : Nat} : ∀ (n : Nat), (∀ k, k < n → (F k).natAbs ≤ M) → (sumN F n).natAbs ≤ n * M
  | 0, _ => by show (0 : Int).natAbs ≤ _; simp
  | n + 1, h => by
    have h1 := sumN_le n fun k hk => h k (Nat.lt_succ_of_lt hk)
    have h2 := h n (Nat.lt_succ_self n)
    have h3 := Int.natAbs_add_le (sumN F n) (F n)
    show (sumN F n + F n).natAbs ≤ _
    rw [Nat.succ_mul]
    omega
theorem Bd.conv {d B C : Nat} (hd : d ≤ 5) {f g : List Int → Int} (hf : Bd d B f) (hg : Bd d C g) : Bd d (B + C + 3) (conv f g) := fun r hr => by
  rw [conv_sumN]
  have h := sumN_le (F := fun k => f (r.drop k) * g (r.take k)) (M := 2 ^ (B + C)) (r.length + 1) fun k _ => by
    have h1 := hf (r.drop k) (by rw [List.length_drop]; omega)
    have h2 := hg (r.take k) (by rw [List.length_take]; omega)
    exact Nat.le_of_lt (wide_lt h1 h2)
  have p : 0 < 2 ^ (B + C) := Nat.two_pow_pos _
  have h3 : (r.length + 1) * 2 ^ (B + C) ≤ 6 * 2 ^ (B + C) := Nat.mul_le_mul_right _ (by omega)
  rw [Nat.pow_add 2 (B + C) 3]
  omega
theorem Bd.le {d B C : Nat} {f : List Int → Int} (h : Bd d B f) (e : B ≤ C) : Bd d C f := fun r hr => Nat.lt_of_lt_of_le (h r hr) (Nat.pow_le_pow_right (by decide) e)
theorem Bd.pw {d B : Nat} (hd : d ≤ 5) {f : List Int → Int} (hf : Bd d B f) : ∀ k, Bd d ((k + 1) * (B + 3)) (pwF f k)
  | 0 => hf.le (by omega)
  | k + 1 => (Bd.conv hd (Bd.pw hd hf k) hf).le (by rw [Nat.succ_mul (k + 1)]; omega)
theorem Bd.congr {d B : Nat} {f g : List Int → Int} (e : Eqd d f g) (h : Bd d B f) : Bd d B g := fun r hr => by rw [← e r hr]; exact h r hr
theorem GrD.congr {d M : Nat} {f g : List Int → Int} (e : Eqd d f g) (h : GrD d M f) : GrD d M g := fun r hr => by rw [← e r hr]; exact h r hr
theorem GrD.le {d M N : Nat} {f : List Int → Int} (h : GrD d M f) (e : M ≤ N) : GrD d N f := fun r hr => Nat.le_trans (h r hr) (Nat.pow_le_pow_left e _)
theorem gr_conv {M N : Nat} {f : List Int → Int} : ∀ (r : List Int) {g : List Int → Int} {C : Nat}, (∀ k, k ≤ r.length → (f (r.drop k)).natAbs ≤ M ^ (r.length - k)) → (∀ k, k ≤ r.length → (g (r.take k)).natAbs ≤ C * N ^ k) → (conv f g r).natAbs ≤ C * (M + N) ^ r.length
  | [], g, C, hf, hg => by
    have h1 : (f []).natAbs ≤ 1 := hf 0 (Nat.le_refl _)
    have h2 : (g []).natAbs ≤ C * 1 := hg 0 (Nat.le_refl _)
    rw [conv, Int.natAbs_mul]
    show _ ≤ C * 1
    calc (f []).natAbs * (g []).natAbs ≤ 1 * (C * 1) := Nat.mul_le_mul h1 h2
      _ = C * 1 := Nat.one_mul _
  | q :: qs, g, C, hf, hg => by
    have h1 := hf 0 (Nat.zero_le _)
    have h2 := hg 0 (Nat.zero_le _)
    have ih := gr_conv (M := M) (N := N) (f := f) qs (g := fun r => g (q :: r)) (C := C * N) (fun k hk => by
      have := hf (k + 1) (by rw [List.length_cons]; omega)
      rwa [List.length_cons, Nat.add_sub_add_right] at this) fun k hk => by
        have := hg (k + 1) (by rw [List.length_cons]; omega)
        rw [Nat.pow_succ, Nat.mul_comm (N ^ k), ← Nat.mul_assoc] at this
        exact this
    rw [conv, List.length_cons]
    rw [List.length_cons, Nat.sub_zero] at h1
    have h1 : (f (q :: qs)).natAbs ≤ M ^ (qs.length + 1) := h1
    have h2 : (g []).natAbs ≤ C * 1 := h2
    rw [Nat.mul_one] at h2
    have a1 := Int.natAbs_add_le (f (q :: qs) * g []) (conv f (fun r => g (q :: r)) qs)
    have a2 : (f (q :: qs) * g []).natAbs ≤ M ^ (qs.length + 1) * C := by rw [Int.natAbs_mul]; exact Nat.mul_le_mul h1 h2
    have a3 : M ^ (qs.length + 1) * C ≤ M * (M + N) ^ qs.length * C := by
      refine Nat.mul_le_mul_right _ ?_
      rw [Nat.pow_succ, Nat.mul_comm]
      exact Nat.mul_le_mul_left _ (Nat.pow_le_pow_left (Nat.le_add_right _ _) _)
    have a4 : C * (M + N) ^ (qs.length + 1) = M * (M + N) ^ qs.length * C + C * N * (M + N) ^ qs.length := by
      rw [Nat.pow_succ]
      generalize (M + N) ^ qs.length = Z
      grind
    omega
theorem GrD.conv {d M N : Nat} {f g : List Int → Int} (hf : GrD d M f) (hg : GrD d N g) : GrD d (M + N) (conv f g) := fun r hr => by
  have := gr_conv (M := M) (N := N) (f := f) r (g := g) (C := 1) (fun k hk => by
    have := hf (r.drop k) (by rw [List.length_drop]; omega)
    rwa [List.length_drop] at this) fun k hk => by
      have := hg (r.take k) (by rw [List.length_take]; omega)
      rwa [List.length_take, Nat.min_eq_left hk] at this |> fun h => by rw [Nat.one_mul]; exact h
  rwa [Nat.one_mul] at this
theorem gr_letter (d : Nat) (s : Int) : GrD d 1 (wordF [s]) := fun r _ => by
  rw [Nat.one_pow]
  show ((if 0 < s then stepF s false baseF else stepF (-s) true baseF) r).natAbs ≤ 1
  split
  · cases r with
    | nil => exact Nat.le_refl 1
    | cons q qs =>
      rw [stepF_letter]
      split
      · show (0 + baseF qs).natAbs ≤ 1
        cases qs with
        | nil => exact Nat.le_refl 1
        | cons => exact Nat.zero_le 1
      · exact Nat.zero_le 1
  · have z : ∀ r : List Int, (stepF (-s) true baseF r).natAbs ≤ 1 := by
      intro r
      induction r with
      | nil => exact Nat.le_refl 1
      | cons q qs ih =>
        show (if q = -s then 0 - stepF (-s) true baseF qs else 0).natAbs ≤ 1
        split
        · omega
        · exact Nat.zero_le 1
    exact z r
theorem gr_base (d M : Nat) : GrD d M baseF := fun r _ => by
  cases r with
  | nil => exact Nat.le_refl _
  | cons q qs => exact Nat.zero_le _
theorem gr_word (d : Nat) (w : List Int) : GrD d w.length (wordF w) := by
  have go : ∀ (n : Nat) (w : List Int), w.length = n → GrD d n (wordF w) := by
    intro n
    induction n with
    | zero => intro w hw; rw [List.eq_nil_of_length_eq_zero hw]; exact gr_base d 0
    | succ n ih =>
      intro w hw
      rcases snoc_cases w with rfl | ⟨u, q, rfl⟩
      · simp at hw
      · rw [List.length_append, List.length_singleton] at hw
        rw [wordF_app]
        exact (ih u (by omega)).conv (gr_letter d q)
  exact go _ w rfl
theorem GrD.bd {d M L : Nat} (hd : d ≤ 5) {f : List Int → Int} (h : GrD d M f) (e : M ≤ 2 ^ L) : Bd d (5 * L + 1) f := fun r hr => by
  have h1 := h r hr
  have h2 : M ^ r.length ≤ (2 ^ L) ^ r.length := Nat.pow_le_pow_left e _
  have h3 : (2 ^ L) ^ r.length = 2 ^ (L * r.length) := (Nat.pow_mul 2 L r.length).symm
  have h4 : 2 ^ (L * r.length) ≤ 2 ^ (5 * L) := Nat.pow_le_pow_right (by decide) (by rw [Nat.mul_comm 5 L]; exact Nat.mul_le_mul_left _ (by omega))
  rw [Nat.pow_succ]
  have := Nat.two_pow_pos (5 * L)
  omega
theorem Bd.part {d B : Nat} {u : List Int} (h : Bd d B (wordF u)) : Bd d (B + 1) (partF u) := fun r hr => by
  have h1 := h r hr
  have b : (baseF r).natAbs ≤ 1 := by
    cases r with
    | nil => exact Nat.le_refl 1
    | cons => exact Nat.zero_le 1
  have := Int.natAbs_sub_le (wordF u r) (baseF r)
  have p : 1 ≤ 2 ^ B := Nat.one_le_two_pow
  unfold partF
  rw [Nat.pow_succ]
  omega

end Law

namespace Law
open PySem PySem.Spec PyProof.Rows L2 DL
local macro_rules | `(tactic| walk_at "w") => `(tactic| conv => whnf)
local macro_rules | `(tactic| walk_at "s") => `(tactic| (refine ⟨?_⟩; conv => whnf))
local macro_rules | `(tactic| walk_at "z") => `(tactic| (refine small ?_; simp only [List.length_map, List.length_append, List.length_reverse, List.length_cons, List.length_nil]; omega))
local macro_rules | `(tactic| walk_at "q") => `(tactic| (refine ⟨(okN_tints _).ok, (okN_tints _).ok, ?_⟩; rw [eqD_tints]))
theorem chosen_loop {n : Int} {b k0 : Nat} (hn : n.natAbs + k0 < 2 ^ b) (hz : b * (k0 + 1) + 1 ≤ 900000) (b0 : 0 < b) (hk0 : k0 ≤ 8000) {e1 : Option D} {E : DEnds} {l : LH} : ∀ (m j : Nat) {e3 : Option D}, j + m ≤ k0 → (∀ e3, E.nx [some (.int n), e1, some (.int (cho n (j + m))), e3] l) →
    forL (gName 3) (nS B_chosen_1) (rgD (j : Int) m) E [some (.int n), e1, some (.int (cho n j)), e3] l
  | 0, j, e3, _, h => h _
  | m + 1, j, e3, hj, h => by
    rw [rgD_succ]
    refine ⟨?_⟩
    walk_at "w"
    have z1 : b * j ≤ b * k0 := Nat.mul_le_mul_left _ (by omega)
    have z2 : b * (k0 + 1) = b * k0 + b := Nat.mul_succ _ _
    refine ⟨CMulW.ok (wide_mul (a := b * j + 1) (b := b) (cho_size hn (by omega)) (by omega) (by omega) b0 (by omega)), ?_⟩
    walk_at "w"
    refine ⟨⟨by omega, Nat.lt_of_le_of_lt (Nat.log2_le_self _) (by omega)⟩, ?_⟩
    have := chosen_loop hn hz b0 hk0 m (j + 1) (e1 := e1) (E := E) (l := l) (e3 := some (.int (j : Int))) (by omega) (fun e3 => by
      have h := h e3
      rwa [show j + (m + 1) = j + 1 + m by omega] at h)
    exact this
theorem c_chosen {n : Int} {b k : Nat} (hn : n.natAbs + k < 2 ^ b) (hz : b * (k + 1) + 1 ≤ 900000) (b0 : 0 < b) (hk : k ≤ 8000) {l : LH} {Q : DK} (h : Q (.int (cho n k)) l) : callD D_chosen [.int n, .int k] l Q := by
  refine ⟨rfl, ?_⟩
  walk_at "w"
  walk_at "s"
  refine ⟨⟨by omega, by omega⟩, ?_⟩
  rw [Int.toNat_natCast]
  refine chosen_loop hn hz b0 hk k 0 (by omega) fun e3 => ⟨?_⟩
  rw [Nat.zero_add]
  exact h
/-! powers of a part: found once; a thing raised by them -/
def serD (U : List Row) : D := .lst (U.map rowD)
def powsD (Us : List (List Row)) : D := .lst (Us.map serD)
structure Pows (a d : Nat) (f : List Int → Int) (Us : List (List Row)) : Prop where
  at_ : ∀ (k : Nat) (U : List Row), Us[k]? = some U → SerN a d (pwF f k) U
  zero : ∀ r : List Int, r.length ≤ d → pwF f Us.length r = 0
  len : Us.length ≤ d
theorem c_powers_of {a d : Nat} (gd : OkG a d) {f : List Int → Int} {S : List Row} (hS : SerN a d f S) (f0 : f [] = 0) {B : Nat} (hB : Bd d B f) (b0 : 0 < B) (bz : B ≤ 100000) {l : LH} {Q : DK} (h : ∀ Us, Pows a d f Us → Q (powsD Us) l) : callD D_powers_of [.lst (S.map rowD)] l Q := by
  have d5 := gd.num
  have low : ∀ (k : Nat) (r : List Int), r.length ≤ k → pwF f k r = 0 := fun k r hr => pwF_low (s := 1) (fun x hx => by have e : x = [] := List.eq_nil_of_length_eq_zero (by omega); rw [e]; exact f0) k r (by omega)
  refine ⟨rfl, ?_⟩
  walk_at "w"
  refine ⟨Nat.zero_le _, fun b nb => ?_⟩
  walk_at "w"
  walk_at "s"
  walk_at "s"
  refine ⟨fun m env l' => ∃ (U : List Row) (Us : List (List Row)), m = d + 1 - Us.length ∧ Us.length ≤ d ∧ env = [some (.lst (S.map rowD)), some (.ref b), some (.lst (U.map rowD))] ∧ SerN a d (pwF f Us.length) U ∧ (∀ (k : Nat) (V : List Row), Us[k]? = some V → SerN a d (pwF f k) V) ∧ l' = uL l b (.lst (Us.map serD)),
    ⟨d + 1, S, [], rfl, Nat.zero_le _, rfl, hS, fun k V hV => by simp at hV, rfl⟩, ?_⟩
  rintro m env l' ⟨U, Us, rfl, hk, rfl, hU, hUs, rfl⟩
  walk_at "w"
  refine c_is_bare gd hU (fun hz => ?_) fun ⟨r, hr, nz⟩ => ?_
  · refine ifB_false ⟨?_⟩
    walk_at "w"
    refine ⟨_, uL_same, ?_⟩
    rw [dL_uL' nb]
    exact h Us ⟨hUs, hz, hk⟩
  · have hlt : Us.length < d := by
      rcases Nat.lt_or_ge Us.length d with z | z
      · exact z
      · exact absurd (low _ r (by omega)) nz
    refine ifB_true ⟨?_⟩
    walk_at "w"
    refine ⟨_, uL_same, ?_⟩
    walk_at "w"
    refine ⟨_, uL_same, Nat.lt_of_le_of_lt (show (Us.map serD).length ≤ 100 by rw [List.length_map]; omega) (by decide), ?_⟩
    rw [uL_uL]
    have bk : Bd d ((Us.length + 1) * (B + 3)) (pwF f Us.length) := Bd.pw d5.2.2.2.1 hB _
    have mz : (Us.length + 1) * (B + 3) ≤ 6 * (B + 3) := Nat.mul_le_mul_right _ (by omega)
    have mp : 0 < (Us.length + 1) * (B + 3) := Nat.mul_pos (by omega) (by omega)
    refine c_series_joined gd hU.toSer hS.toSer bk hB mp b0 (by omega) fun V hV => ?_
    walk_at "w"
    refine ⟨d + 1 - (Us ++ [U]).length, by rw [List.length_append, List.length_singleton]; omega, V, Us ++ [U], rfl, by rw [List.length_append, List.length_singleton]; omega, rfl, by rw [List.length_append, List.length_singleton]; exact hV, fun k W hW => ?_, by rw [List.map_append]; rfl⟩
    by_cases hi : k < Us.length
    · rw [List.getElem?_append_left hi] at hW
      exact hUs k W hW
    · rw [List.getElem?_append_right (by omega)] at hW
      have : k - Us.length = 0 := by
        have := (List.getElem?_eq_some_iff.mp hW).1
        simpa using this
      rw [this] at hW
      cases hW
      rw [show k = Us.length by omega]
      exact hU
theorem unit_serN (a d : Nat) : SerN a d baseF (unitRows d) := by
  refine ⟨⟨unit_ok a d, by unfold unitRows; simp⟩, fun r hr p hp => ?_⟩
  unfold unitRows at hr
  rcases List.mem_cons.mp hr with e | e
  · subst e
    rw [List.mem_singleton.mp hp]
    decide
  · rw [(List.mem_replicate.mp e).2] at hp
    cases hp
theorem raised_loop {a d : Nat} (gd : OkG a d) {f : List Int → Int} {B b : Nat} (hB : Bd d B f) (b0 : 0 < b) {n : Int} (hn : n.natAbs + 6 < 2 ^ b) (bz : 6 * b + 1 + 6 * (B + 3) ≤ 900000) {e0 e1 : Option D} {E : DEnds} {l : LH} : ∀ (Us : List (List Row)) {k : Nat} {V : List Row} {e4 e5 : Option D}, k + Us.length ≤ 5 → (∀ (i : Nat) (U : List Row), Us[i]? = some U → SerN a d (pwF f (k + i)) U) → SerN a d (raisedF n f k) V →
    (∀ W e4 e5, SerN a d (raisedF n f (k + Us.length)) W → E.nx [e0, e1, some (.int n), some (.lst (W.map rowD)), e4, e5] l) →
    forL (gTup 2 (gCons (gName 4) (gCons (gName 5) gNil))) (nS B_raised_by_powers_1) (enumD k (Us.map serD)) E [e0, e1, some (.int n), some (.lst (V.map rowD)), e4, e5] l
  | [], k, V, e4, e5, _, _, hV, h => h V _ _ hV
  | U :: Us, k, V, e4, e5, hk, hU, hV, h => by
    have d5 := gd.num
    rw [List.length_cons] at hk
    refine ⟨rfl, ?_⟩
    refine ⟨?_⟩
    walk_at "w"
    have m1 : b * (k + 1 + 1) ≤ b * 6 := Nat.mul_le_mul_left _ (by omega)
    have m2 : b * (k + 1) ≤ b * 6 := Nat.mul_le_mul_left _ (by omega)
    have m3 : (k + 1) * (B + 3) ≤ 6 * (B + 3) := Nat.mul_le_mul_right _ (by omega)
    have m4 : 0 < (k + 1) * (B + 3) := Nat.mul_pos (by omega) (by omega)
    rw [show ((k : Nat) : Int) + 1 = ((k + 1 : Nat) : Int) by omega]
    refine c_chosen (b := b) (by omega) (by omega) b0 (by omega) ?_
    walk_at "w"
    have hU0 : SerN a d (pwF f k) U := hU 0 U rfl
    refine c_series_added gd hV.toSer hU0.toSer (fun r hr => wide_mul (cho_size (b := b) (k0 := k + 1) (by omega) (Nat.le_refl _)) (Bd.pw d5.2.2.2.1 hB _ r hr) (by omega) (by omega) (by omega)) fun W hW => ?_
    walk_at "w"
    refine raised_loop gd hB b0 hn bz Us (k := k + 1) (V := W) (by omega) (fun i X hX => ?_) hW fun W e4 e5 hW2 => ?_
    · rw [show k + 1 + i = k + (i + 1) by omega]
      exact hU (i + 1) X (by simpa using hX)
    · rw [show k + 1 + Us.length = k + (U :: Us).length by rw [List.length_cons]; omega] at hW2
      exact h W e4 e5 hW2
theorem c_raised_by_powers {a d : Nat} (gd : OkG a d) {f : List Int → Int} {Us : List (List Row)} (hU : Pows a d f Us) {B b : Nat} (hB : Bd d B f) (b0 : 0 < b) {n : Int} (hn : n.natAbs + 6 < 2 ^ b) (bz : 6 * b + 1 + 6 * (B + 3) ≤ 900000) {l : LH} {Q : DK}
    (h : ∀ W, SerN a d (raisedF n f Us.length) W → Q (.lst (W.map rowD)) l) : callD D_raised_by_powers [.int d, powsD Us, .int n] l Q := by
  have d5 := gd.num
  have hl := hU.len
  refine ⟨rfl, ?_⟩
  walk_at "w"
  refine c_unit_series (by omega) ?_
  walk_at "w"
  walk_at "s"
  refine raised_loop gd hB b0 hn bz Us (k := 0) (by omega) (fun i U hi => by rw [Nat.zero_add]; exact hU.at_ i U hi) (unit_serN a d) fun W e4 e5 hW => ⟨?_⟩
  rw [Nat.zero_add] at hW
  exact h W hW
end Law

namespace Law
open PySem PySem.Spec PyProof.Rows L2 DL
local macro_rules | `(tactic| walk_at "w") => `(tactic| conv => whnf)
local macro_rules | `(tactic| walk_at "s") => `(tactic| (refine ⟨?_⟩; conv => whnf))
local macro_rules | `(tactic| walk_at "z") => `(tactic| (refine small ?_; simp only [List.length_map, List.length_append, List.length_reverse, List.length_cons, List.length_nil]; omega))
local macro_rules | `(tactic| walk_at "q") => `(tactic| (refine ⟨(okN_tints _).ok, (okN_tints _).ok, ?_⟩; rw [eqD_tints]))
theorem part_low {s : Nat} {u : List Int} (h : Low s (wordF u)) : ∀ r : List Int, r.length < s → partF u r = 0 := fun r hr => by
  cases r with
  | nil => exact part_nil u
  | cons q qs =>
    unfold partF
    rw [h.low _ (by simp) hr]
    rfl
theorem gr_part {d M : Nat} {u : List Int} (h : GrD d M (wordF u)) : GrD d M (partF u) := fun r hr => by
  cases r with
  | nil =>
    rw [part_nil]
    exact Nat.zero_le _
  | cons q qs =>
    unfold partF
    show (wordF u (q :: qs) - 0).natAbs ≤ _
    rw [Int.sub_zero]
    exact h _ hr
theorem gr_pw {d M : Nat} {f : List Int → Int} (h : GrD d M f) : ∀ k, GrD d ((k + 1) * M) (pwF f k)
  | 0 => by rw [Nat.zero_add, Nat.one_mul]; exact h
  | k + 1 => by
    rw [Nat.succ_mul (k + 1)]
    exact (gr_pw h k).conv h
theorem comp_by {α : Type} {u v : α → D} {g : DTG} {tt : DTT} {te : DTE} {vs : List Nat} {env : DSt} {l : LH} : ∀ (zs : List α) {Q : List D → LH → Prop}, (∀ z ∈ zs, ∀ (K1 : DK) (K2 : LH → Prop), K1 (v z) l → wipeK vs env fun env0 => g (u z) env0 l fun env1 l2 => tt env1 l2 fun c l3 => ifB c (te env1 l3 K1) (K2 l3)) → Q (zs.map v) l → compL g tt te vs (zs.map u) env l Q
  | [], _, _, h => h
  | z :: zs, Q, hs, h => hs z List.mem_cons_self _ _ (comp_by zs (fun y hy => hs y (List.mem_cons_of_mem _ hy)) h)
theorem base_word {w : List Int} (h : 0 < w.length) : baseF w.reverse = 0 := by
  cases hr : w.reverse with
  | nil =>
    have := congrArg List.length hr
    rw [List.length_reverse, List.length_nil] at this
    omega
  | cons q qs => rfl
theorem word_plain {a : Nat} {u : List Int} (hu : StepsOf a u) {w : List Int} (hw : w ∉ allL a w.length) : wordF u w.reverse = 0 := by
  obtain ⟨h1, h2⟩ := wordSer_ok w.length hu
  obtain ⟨r, hr, ok⟩ := Ser.row (S := wordSer w.length u) ⟨h1, h2⟩ (Nat.le_refl _)
  rw [← ok.at_ w rfl]
  exact getR_out fun h => hw (ok.ws w h)
theorem gr_rp {a d : Nat} (gd : OkG a d) {u : List Int} (hu : StepsOf a u) {n : Int} {L N : Nat} (hL : GrD d (2 ^ L) (wordF u)) (hn : n.natAbs ≤ 2 ^ N) : GrD d (2 ^ (L + N + 20)) (wordF (rpW u n)) := fun r hr => by
  have d5 := gd.num
  rcases Nat.eq_zero_or_pos r.length with e | e
  · rw [List.eq_nil_of_length_eq_zero e, wordF_nil]
    exact Nat.le_refl 1
  have lw := part_low (low_word hu)
  have er := raised_word (m := d) hu (d := d) (fun r hr => pwF_low lw _ r (by omega)) n r hr
  rw [← er]
  have g0 : GrD d (2 ^ L) (partF u) := gr_part hL
  have term : ∀ k, k < 5 → (cho n (k + 1) * pwF (partF u) k r).natAbs ≤ 2 ^ ((L + N + 17) * r.length) := by
    intro k hk
    rcases Nat.lt_or_ge r.length ((k + 1) * 1) with z | z
    · rw [pwF_low lw k r z, Int.mul_zero]
      exact Nat.zero_le _
    · have b1 : n.natAbs + 5 < 2 ^ (N + 3) := by
        have : 1 ≤ 2 ^ N := Nat.one_le_two_pow
        rw [Nat.pow_add]
        omega
      have c1 := cho_size (k := k + 1) b1 (by omega)
      have c2 : (N + 3) * (k + 1) + 1 ≤ (N + 4) * r.length := by
        have y1 : (N + 3) * (k + 1) ≤ (N + 3) * r.length := Nat.mul_le_mul_left _ (by omega)
        rw [show N + 4 = (N + 3) + 1 by omega, Nat.add_mul (N + 3) 1]
        omega
      have c3 : 2 ^ ((N + 3) * (k + 1) + 1) ≤ 2 ^ ((N + 4) * r.length) := Nat.pow_le_pow_right (by decide) c2
      have p1 := gr_pw g0 k r hr
      have p2 : ((k + 1) * 2 ^ L) ^ r.length ≤ (2 ^ (L + 3)) ^ r.length := Nat.pow_le_pow_left (by
        rw [Nat.pow_add, Nat.mul_comm]
        exact Nat.mul_le_mul_left _ (by omega)) _
      rw [← Nat.pow_mul] at p2
      rw [Int.natAbs_mul]
      calc (cho n (k + 1)).natAbs * (pwF (partF u) k r).natAbs ≤ 2 ^ ((N + 4) * r.length) * 2 ^ ((L + 3) * r.length) := Nat.mul_le_mul (by omega) (by omega)
        _ = 2 ^ ((N + 4 + (L + 3)) * r.length) := by rw [← Nat.pow_add, ← Nat.add_mul]
        _ ≤ 2 ^ ((L + N + 17) * r.length) := Nat.pow_le_pow_right (by decide) (Nat.mul_le_mul_right _ (by omega))
  have all : ∀ m, m ≤ 5 → (raisedF n (partF u) m r).natAbs ≤ (m + 1) * 2 ^ ((L + N + 17) * r.length) := by
    intro m
    induction m with
    | zero =>
      intro _
      show (baseF r).natAbs ≤ _
      have : (baseF r).natAbs ≤ 1 := by
        cases r with
        | nil => exact Nat.le_refl 1
        | cons => exact Nat.zero_le 1
      have p : 1 ≤ 2 ^ ((L + N + 17) * r.length) := Nat.one_le_two_pow
      omega
    | succ m ih =>
      intro hm
      have i1 := ih (by omega)
      have i2 := term m (by omega)
      have i3 := Int.natAbs_add_le (raisedF n (partF u) m r) (cho n (m + 1) * pwF (partF u) m r)
      show (raisedF n (partF u) m r + cho n (m + 1) * pwF (partF u) m r).natAbs ≤ _
      rw [Nat.succ_mul (m + 1)]
      omega
  have fin := all d (by omega)
  have f2 : (d + 1) * 2 ^ ((L + N + 17) * r.length) ≤ 2 ^ 3 * 2 ^ ((L + N + 17) * r.length) := Nat.mul_le_mul_right _ (by show d + 1 ≤ 8; omega)
  rw [← Nat.pow_add] at f2
  have f3 : 2 ^ (3 + (L + N + 17) * r.length) ≤ 2 ^ ((L + N + 20) * r.length) := Nat.pow_le_pow_right (by decide) (by
    rw [show L + N + 20 = (L + N + 17) + 3 by omega, Nat.add_mul (L + N + 17) 3]
    omega)
  rw [← Nat.pow_mul]
  omega
theorem gr_up {d L M : Nat} {f : List Int → Int} (h : GrD d (2 ^ L) f) (e : L ≤ M) : GrD d (2 ^ M) f := h.le (Nat.pow_le_pow_right (by decide) e)
theorem c_part_of {a d : Nat} (gd : OkG a d) {v : List Int} {S : List Row} (hS : SerN a d (wordF v) S) {l : LH} {Q : DK} (h : ∀ W, SerN a d (partF v) W → Q (.lst (W.map rowD)) l) : callD D_part_of [.lst (S.map rowD)] l Q := by
  have d5 := gd.num
  have lS := hS.len
  cases S with
  | nil => cases lS
  | cons r rs =>
    rw [List.length_cons] at lS
    refine ⟨rfl, ?_⟩
    refine fz_newT ?_
    walk_at "w"
    refine ⟨show 1 ≤ sizeLine by decide, ?_⟩
    walk_at "w"
    rw [show (some (1 : Int)) = some ((1 : Nat) : Int) from rfl, cutD_from]
    show (rs.map rowD).length ≤ sizeLine ∧ _
    refine ⟨by refine small ?_; rw [List.length_map]; omega, ?_⟩
    refine comp_by (v := rowD) rs (fun r' hr K1 K2 k1 => ?_) ?_
    · refine ifB_true ⟨?_⟩
      have sz := hS.toSer.sz gd (List.mem_cons_of_mem r hr)
      exact ⟨sz.1, fz_newT k1⟩
    walk_at "w"
    refine ⟨by refine small ?_; rw [List.length_map]; show 1 + rs.length ≤ _; omega, ?_⟩
    refine h ([] :: rs) ⟨⟨⟨⟨List.nodup_nil, fun u hu => (by cases hu), fun w hw => ?_⟩, ?_⟩, by rw [List.length_cons]; omega⟩, fun r' hr p hp => ?_⟩
    · rw [List.eq_nil_of_length_eq_zero hw]
      exact (part_nil v).symm
    · refine rows_of fun i q hq => ?_
      have ok := hS.ok.2.at_ hq
      refine ⟨ok.nd, ok.ws, fun w hw => ?_⟩
      rw [ok.at_ w hw]
      unfold partF
      rw [base_word (by omega), Int.sub_zero]
    · rcases List.mem_cons.mp hr with e | e
      · subst e; cases hp
      · exact hS.nz r' (List.mem_cons_of_mem _ e) p hp
theorem c_series_raised {a d : Nat} (gd : OkG a d) {v : List Int} (hv : StepsOf a v) {S : List Row} (hS : SerN a d (wordF v) S) {L N : Nat} (hL : GrD d (2 ^ L) (wordF v)) (lz : L ≤ 17000) {n : Int} (hn : n.natAbs ≤ 2 ^ N) (nz : N ≤ 16900) {l : LH} {Q : DK}
    (h : ∀ W, SerN a d (wordF (rpW v n)) W → Q (.lst (W.map rowD)) l) : callD D_series_raised [.lst (S.map rowD), .int n] l Q := by
  have d5 := gd.num
  have lS := hS.len
  have bd : Bd d (5 * L + 1 + 1) (partF v) := (hL.bd (by omega) (Nat.le_refl _)).part
  refine ⟨rfl, ?_⟩
  walk_at "w"
  rw [List.length_map, lS, show ((d + 1 : Nat) : Int) - 1 = (d : Nat) by omega]
  refine c_part_of gd hS fun P hP => ?_
  walk_at "w"
  refine c_powers_of gd hP (part_nil v) bd (by omega) (by omega) fun Us hU => ?_
  walk_at "w"
  have hb : n.natAbs + 6 < 2 ^ (N + 3) := by
    have : 1 ≤ 2 ^ N := Nat.one_le_two_pow
    rw [Nat.pow_add]
    omega
  refine c_raised_by_powers gd hU bd (b := N + 3) (by omega) hb (by omega) fun W hW => ?_
  exact h W (hW.congr (raised_word hv hU.zero n))

end Law

namespace Law
open PySem PySem.Spec PyProof.Rows L2 DL
local macro_rules | `(tactic| walk_at "w") => `(tactic| conv => whnf)
local macro_rules | `(tactic| walk_at "s") => `(tactic| (refine ⟨?_⟩; conv => whnf))
local macro_rules | `(tactic| walk_at "z") => `(tactic| (refine small ?_; simp only [List.length_map, List.length_append, List.length_reverse, List.length_cons, List.length_nil]; omega))
local macro_rules | `(tactic| walk_at "q") => `(tactic| (refine ⟨(okN_tints _).ok, (okN_tints _).ok, ?_⟩; rw [eqD_tints]))
theorem Box.of_same {l l' : LH} {b : Addr} {k : Nat} (h : l' b = l b) : Box l b k → Box l' b k
  | ⟨o, e, q⟩ => ⟨o, h.trans e, q⟩
theorem GndAt.oth {l l' : LH} {g b c x : Addr} {a d : Nat} {ck : List Key} {cd : List D} (G : GndAt l g b c a d ck cd) (o : Oth l l' x) {ds : List D} (hx : l x = some (.lst ds)) : GndAt l' g b c a d ck cd :=
  ⟨(o g fun e => by have := G.g; rw [e, hx] at this; cases this).trans G.g, (o b fun e => by have := G.b; rw [e, hx] at this; cases this).trans G.b, (o c fun e => by have := G.c; rw [e, hx] at this; cases this).trans G.c⟩
theorem Box.lst {l : LH} {b : Addr} {k : Nat} : Box l b k → ∃ ds, l b = some (.lst ds)
  | ⟨_, e, _, _, _, q, _⟩ => ⟨_, e.trans (congrArg some q)⟩
/-! a series of its sums -/
theorem words_nd_all : (gds.all fun p => decide (wordsG p.1 p.2).Nodup) = true := by decide +kernel
theorem wordsG_nd {a d : Nat} (gd : OkG a d) : (wordsG a d).Nodup := of_decide_eq_true (List.all_eq_true.mp words_nd_all _ gd)
theorem wordsF_of {a s : Nat} {w : List Int} (h : w ∈ allL a s) : ∀ {n m : Nat}, m ≤ s → s < m + n → w ∈ wordsF a m n
  | 0, m, h1, h2 => by omega
  | n + 1, m, h1, h2 => by
    rw [wordsF]
    by_cases e : m = s
    · rw [e]; exact List.mem_append_left _ h
    · exact List.mem_append_right _ (wordsF_of h (by omega) (by omega))
def sumRow (f : List Int → Int) (s : Nat) (ws : List (List Int)) : Row := (ws.filter fun w => decide (w.length = s) && !decide (f w.reverse = 0)).map fun w => (w, f w.reverse)
theorem sumRow_keys (f : List Int → Int) (s : Nat) (ws : List (List Int)) : keysR (sumRow f s ws) = ws.filter fun w => decide (w.length = s) && !decide (f w.reverse = 0) := by
  unfold keysR sumRow
  rw [List.map_map]
  exact List.map_id _
theorem sumRow_add {f : List Int → Int} {w : List Int} (ws : List (List Int)) (h : f w.reverse ≠ 0) : sumRow f w.length (ws ++ [w]) = sumRow f w.length ws ++ [(w, f w.reverse)] := by
  unfold sumRow
  rw [List.filter_append, List.map_append]
  congr 1
  rw [List.filter_cons_of_pos (by rw [decide_eq_true rfl, decide_eq_false h]; rfl)]
  rfl
theorem sumRow_oth {f : List Int → Int} {w : List Int} {s : Nat} (ws : List (List Int)) (h : w.length ≠ s ∨ f w.reverse = 0) : sumRow f s (ws ++ [w]) = sumRow f s ws := by
  unfold sumRow
  rw [List.filter_append, List.filter_cons_of_neg, List.filter_nil, List.append_nil]
  rcases h with h | h
  · rw [decide_eq_false h]; exact fun z => by cases z
  · rw [decide_eq_true h, Bool.and_comm]; exact fun z => by cases z
def sumRows (d : Nat) (f : List Int → Int) (ws : List (List Int)) : List Row := (List.range (d + 1)).map fun s => sumRow f s ws
theorem sumRows_at {d : Nat} {f : List Int → Int} {ws : List (List Int)} {s : Nat} (h : s ≤ d) : (sumRows d f ws)[s]? = some (sumRow f s ws) := by
  unfold sumRows
  rw [List.getElem?_map, List.getElem?_range (by omega)]
  rfl
theorem getR_off : ∀ {r : Row} {w : List Int}, w ∉ keysR r → getR r w = 0
  | [], _, _ => rfl
  | p :: r, w, h => by
    have h : w ∉ p.1 :: keysR r := h
    rw [List.mem_cons, not_or] at h
    show (if p.1 = w then p.2 else getR r w) = 0
    rw [if_neg (Ne.symm h.1)]
    exact getR_off h.2
theorem sumRows_ok {a d : Nat} (gd : OkG a d) {f : List Int → Int} (hp : ∀ w : List Int, w ∉ allL a w.length → f w.reverse = 0) : SerN a d f (sumRows d f (wordsG a d)) := by
  refine ⟨⟨rows_of fun i r hr => ?_, by unfold sumRows; rw [List.length_map, List.length_range]⟩, fun r hr p hp => ?_⟩
  · have hi : i < d + 1 := by
      have := (List.getElem?_eq_some_iff.mp hr).1
      unfold sumRows at this
      rwa [List.length_map, List.length_range] at this
    rw [sumRows_at (by omega)] at hr
    cases hr
    rw [Nat.zero_add]
    have nd : (keysR (sumRow f i (wordsG a d))).Nodup := by rw [sumRow_keys]; exact (wordsG_nd gd).sublist List.filter_sublist
    refine ⟨nd, fun u hu => ?_, fun w hw => ?_⟩
    · rw [sumRow_keys] at hu
      obtain ⟨h1, h2⟩ := List.mem_filter.mp hu
      rw [Bool.and_eq_true] at h2
      have h3 := of_decide_eq_true h2.1
      rw [← h3]
      exact (wordsF_mem h1).2.2
    · by_cases e : f w.reverse = 0
      · rw [e]
        refine getR_off fun h => ?_
        rw [sumRow_keys] at h
        have h2 := (List.mem_filter.mp h).2
        rw [e, Bool.and_comm] at h2
        cases h2
      · have hm : w ∈ wordsG a d := by
          by_cases h : w ∈ allL a w.length
          · exact wordsF_of h (Nat.zero_le _) (by omega)
          · exact absurd (hp w h) e
        have hk : (w, f w.reverse) ∈ sumRow f i (wordsG a d) := List.mem_map.mpr ⟨w, List.mem_filter.mpr ⟨hm, by rw [decide_eq_true hw, decide_eq_false e]; rfl⟩, rfl⟩
        exact getR_mem nd hk
  · unfold sumRows at hr
    obtain ⟨s, _, rfl⟩ := List.mem_map.mp hr
    obtain ⟨w, hw, rfl⟩ := List.mem_map.mp hp
    have h2 := (List.mem_filter.mp hw).2
    rw [Bool.and_eq_true, Bool.not_eq_true'] at h2
    exact of_decide_eq_false h2.2
theorem ssum_loop {a d : Nat} (gd : OkG a d) {f : List Int → Int} {as : List Addr} {e0 e1 e5 : Option D} {E : DEnds} : ∀ (ws done : List (List Int)) {l : LH} {e3 e4 : Option D}, done ++ ws = wordsG a d → Cells l as (sumRows d f done) 0 →
    (∀ l' e3 e4, Cells l' as (sumRows d f (wordsG a d)) 0 → (∀ x, x ∉ as → l' x = l x) → E.nx [e0, e1, some (.lst (as.map D.ref)), e3, e4, e5] l') →
    forL (gTup 2 (gCons (gName 3) (gCons (gName 4) gNil))) (nS B_series_of_sums_1) (zipD (ws.map wordD) ((ws.map fun w => f w.reverse).map D.int)) E [e0, e1, some (.lst (as.map D.ref)), e3, e4, e5] l
  | [], done, l, e3, e4, hd, C, h => by
    rw [List.append_nil] at hd
    rw [hd] at C
    exact h l _ _ C fun x _ => rfl
  | w :: ws, done, l, e3, e4, hd, C, h => by
    have hw : w ∈ wordsG a d := by rw [← hd]; exact List.mem_append_right _ List.mem_cons_self
    have hl := (wordsF_mem hw).2.1
    have hd' : (done ++ [w]) ++ ws = wordsG a d := by rw [List.append_assoc]; exact hd
    rw [List.map_cons, List.map_cons, List.map_cons]
    refine ⟨rfl, ?_⟩
    refine ⟨?_⟩
    walk_at "w"
    refine ⟨(okN_int _).ok, (okN_int _).ok, ?_⟩
    rw [eqD_int]
    by_cases e : f w.reverse = 0
    · rw [decide_eq_true e]
      refine ifB_false ?_
      refine ssum_loop gd ws (done ++ [w]) hd' ?_ h
      rw [show sumRows d f (done ++ [w]) = sumRows d f done from List.map_congr_left fun s _ => sumRow_oth done (.inr e)]
      exact C
    · rw [decide_eq_false e]
      refine ifB_true ?_
      obtain ⟨b, hb, hlb⟩ := C.get (sumRows_at (f := f) (ws := done) (show w.length ≤ d by omega))
      rw [if_neg (Nat.not_lt_zero _)] at hlb
      have hr : (as.map D.ref)[w.length]? = some (.ref b) := by rw [List.getElem?_map, hb]; rfl
      have nk : w ∉ keysR (sumRow f w.length done) := fun h => by
        rw [sumRow_keys] at h
        have h1 := (List.mem_filter.mp h).1
        have nd := wordsG_nd gd
        rw [← hd] at nd
        exact (List.nodup_append.mp nd).2.2 w h1 w List.mem_cons_self rfl
      walk_at "w"
      rw [List.length_map]
      refine ⟨_, atI_nat hr, ?_⟩
      walk_at "w"
      have hz : (rowKs (sumRow f w.length done)).length < sizeLine := by
        refine Nat.lt_of_le_of_lt (show _ ≤ 1000 from ?_) (by decide)
        unfold rowKs sumRow
        rw [List.length_map, List.length_map]
        refine Nat.le_trans (List.length_filter_le _ _) ?_
        have := wordsG_len gd
        rw [← hd, List.length_append] at this
        omega
      refine ⟨_, hlb, _, keyT_word w, hz, ?_⟩
      rw [putKs_row _ _ (f w.reverse), putDs_row]
      have ep : putR (sumRow f w.length done) w (f w.reverse) = sumRow f w.length (done ++ [w]) := by
        unfold putR
        rw [if_neg nk, sumRow_add done e]
      rw [ep]
      refine ssum_loop gd ws (done ++ [w]) hd' ⟨by have := C.len; unfold sumRows at this ⊢; rw [List.length_map] at this ⊢; exact this, C.nd, fun i q r hq hr2 => ?_⟩ fun l' e3 e4 C2 o2 => h l' e3 e4 C2 fun x hx => (o2 x hx).trans (uL_ne fun z => hx (by rw [z]; exact List.mem_of_getElem? hb))
      have hi : i ≤ d := by
        have := (List.getElem?_eq_some_iff.mp hr2).1
        unfold sumRows at this
        rw [List.length_map, List.length_range] at this
        omega
      rw [sumRows_at hi] at hr2
      cases hr2
      rw [if_neg (Nat.not_lt_zero _)]
      by_cases ei : i = w.length
      · rw [ei] at hq ⊢
        rw [hb] at hq
        cases hq
        exact uL_same
      · have hqb : q ≠ b := fun z => ei (nodup_at C.nd hq (z ▸ hb))
        rw [uL_ne hqb]
        have := C.at_ i q _ hq (sumRows_at hi)
        rw [if_neg (Nat.not_lt_zero _)] at this
        rw [this, sumRow_oth done (.inl (Ne.symm ei))]
theorem ssum_loopR {q0 : Addr} {all : List D} {a d : Nat} (gd : OkG a d) {f : List Int → Int} {as : List Addr} (qa : q0 ∉ as) {e0 e1 e5 : Option D} {E : DEnds} : ∀ (ws done : List (List Int)) {l : LH} {e3 e4 : Option D}, l q0 = some (.lst all) → done ++ ws = wordsG a d → Cells l as (sumRows d f done) 0 →
    (∀ l' e3 e4, Cells l' as (sumRows d f (wordsG a d)) 0 → (∀ x, x ∉ as → l' x = l x) → E.nx [e0, e1, some (.lst (as.map D.ref)), e3, e4, e5] l') →
    forR q0 all (gTup 2 (gCons (gName 3) (gCons (gName 4) gNil))) (nS B_series_of_sums_1) (zipD (ws.map wordD) ((ws.map fun w => f w.reverse).map D.int)) E [e0, e1, some (.lst (as.map D.ref)), e3, e4, e5] l
  | [], done, l, e3, e4, hq0, hd, C, h => by
    rw [List.append_nil] at hd
    rw [hd] at C
    exact ⟨hq0, h l _ _ C fun x _ => rfl⟩
  | w :: ws, done, l, e3, e4, hq0, hd, C, h => by
    have hw : w ∈ wordsG a d := by rw [← hd]; exact List.mem_append_right _ List.mem_cons_self
    have hl := (wordsF_mem hw).2.1
    have hd' : (done ++ [w]) ++ ws = wordsG a d := by rw [List.append_assoc]; exact hd
    rw [List.map_cons, List.map_cons, List.map_cons]
    refine ⟨hq0, ?_⟩
    refine ⟨rfl, ?_⟩
    refine ⟨?_⟩
    walk_at "w"
    refine ⟨(okN_int _).ok, (okN_int _).ok, ?_⟩
    rw [eqD_int]
    by_cases e : f w.reverse = 0
    · rw [decide_eq_true e]
      refine ifB_false ?_
      refine ssum_loopR gd qa ws (done ++ [w]) hq0 hd' ?_ h
      rw [show sumRows d f (done ++ [w]) = sumRows d f done from List.map_congr_left fun s _ => sumRow_oth done (.inr e)]
      exact C
    · rw [decide_eq_false e]
      refine ifB_true ?_
      obtain ⟨b, hb, hlb⟩ := C.get (sumRows_at (f := f) (ws := done) (show w.length ≤ d by omega))
      rw [if_neg (Nat.not_lt_zero _)] at hlb
      have hr : (as.map D.ref)[w.length]? = some (.ref b) := by rw [List.getElem?_map, hb]; rfl
      have nk : w ∉ keysR (sumRow f w.length done) := fun h => by
        rw [sumRow_keys] at h
        have h1 := (List.mem_filter.mp h).1
        have nd := wordsG_nd gd
        rw [← hd] at nd
        exact (List.nodup_append.mp nd).2.2 w h1 w List.mem_cons_self rfl
      walk_at "w"
      rw [List.length_map]
      refine ⟨_, atI_nat hr, ?_⟩
      walk_at "w"
      have hz : (rowKs (sumRow f w.length done)).length < sizeLine := by
        refine Nat.lt_of_le_of_lt (show _ ≤ 1000 from ?_) (by decide)
        unfold rowKs sumRow
        rw [List.length_map, List.length_map]
        refine Nat.le_trans (List.length_filter_le _ _) ?_
        have := wordsG_len gd
        rw [← hd, List.length_append] at this
        omega
      refine ⟨_, hlb, _, keyT_word w, hz, ?_⟩
      rw [putKs_row _ _ (f w.reverse), putDs_row]
      have ep : putR (sumRow f w.length done) w (f w.reverse) = sumRow f w.length (done ++ [w]) := by
        unfold putR
        rw [if_neg nk, sumRow_add done e]
      rw [ep]
      refine ssum_loopR gd qa ws (done ++ [w]) ((uL_ne fun z => qa (by rw [z]; exact List.mem_of_getElem? hb)).trans hq0) hd' ⟨by have := C.len; unfold sumRows at this ⊢; rw [List.length_map] at this ⊢; exact this, C.nd, fun i q r hq hr2 => ?_⟩ fun l' e3 e4 C2 o2 => h l' e3 e4 C2 fun x hx => (o2 x hx).trans (uL_ne fun z => hx (by rw [z]; exact List.mem_of_getElem? hb))
      have hi : i ≤ d := by
        have := (List.getElem?_eq_some_iff.mp hr2).1
        unfold sumRows at this
        rw [List.length_map, List.length_range] at this
        omega
      rw [sumRows_at hi] at hr2
      cases hr2
      rw [if_neg (Nat.not_lt_zero _)]
      by_cases ei : i = w.length
      · rw [ei] at hq ⊢
        rw [hb] at hq
        cases hq
        exact uL_same
      · have hqb : q ≠ b := fun z => ei (nodup_at C.nd hq (z ▸ hb))
        rw [uL_ne hqb]
        have := C.at_ i q _ hq (sumRows_at hi)
        rw [if_neg (Nat.not_lt_zero _)] at this
        rw [this, sumRow_oth done (.inl (Ne.symm ei))]
structure Rw (a d L : Nat) (u : List Int) : Prop where
  st : StepsOf a u
  gr : GrD d (2 ^ L) (wordF u)
theorem Rw.up {a d L M : Nat} {u : List Int} (h : Rw a d L u) (e : L ≤ M) : Rw a d M u := ⟨h.st, gr_up h.gr e⟩
theorem Rw.rp {a d L N : Nat} (gd : OkG a d) {u : List Int} (h : Rw a d L u) {n : Int} (hn : n.natAbs ≤ 2 ^ N) : Rw a d (L + N + 20) (rpW u n) := ⟨h.st.rp n, gr_rp gd h.st h.gr hn⟩
section
variable {a d : Nat} (gd : OkG a d) {g b c : Addr} {l : LH} {Q : DK}
include gd
theorem c_series_of_sums {ck : List Key} {cd : List D} (GA : GndAt l g b c a d ck cd) {u : List Int} (hu : StepsOf a u) {x : D} (hx : HdL x (sumsG a d (wordF u)) l) (h : ∀ S, SerN a d (wordF u) S → Q (.lst (S.map rowD)) l) : callD D_series_of_sums [.ref g, x] l Q := by
  have gn := gd.num
  rcases hx with (rfl | rfl) | ⟨q, rfl, hq⟩
  · refine ⟨rfl, ?_⟩
    walk_at "w"
    refine ⟨_, GA.g, rfl, ?_⟩
    refine ⟨rfl, ?_⟩
    walk_at "w"
    refine ⟨_, GA.g, rfl, ?_⟩
    walk_at "w"
    refine ⟨⟨by omega, by omega⟩, by rw [rgD_len]; exact small (by omega), ?_⟩
    rw [show (((d : Nat) : Int) + 1).toNat = d + 1 by omega]
    have e : rgD 0 (d + 1) = ((rgD 0 (d + 1)).map fun x => (x, ([] : Row))).map (·.1) := by rw [List.map_map]; exact (List.map_id _).symm
    have e2 : ((rgD 0 (d + 1)).map fun x => (x, ([] : Row))).map (·.2) = sumRows d (wordF u) [] := by
      unfold sumRows
      rw [List.map_map, show ((fun x : D × Row => x.2) ∘ fun x => (x, ([] : Row))) = fun _ => [] from rfl, List.map_const', rgD_len, show (fun s => sumRow (wordF u) s []) = fun _ => [] from rfl, List.map_const', List.length_range]
    conv => arg 5; rw [e]
    refine comp_newrows _ (fun z hz K1 K2 l1 k1 => ?_) fun as l' C fr o => ?_
    · obtain ⟨x, hx, rfl⟩ := List.mem_map.mp hz
      obtain ⟨j, _, rfl⟩ := List.mem_map.mp hx
      exact ifB_true ⟨k1⟩
    rw [e2] at C
    have ne : ∀ x o, l x = some o → x ∉ as := fun x o hx hm => by rw [fr x hm] at hx; cases hx
    have GA' : GndAt l' g b c a d ck cd := ⟨(o _ (ne _ _ GA.g)).trans GA.g, (o _ (ne _ _ GA.b)).trans GA.b, (o _ (ne _ _ GA.c)).trans GA.c⟩
    walk_at "w"
    walk_at "s"
    refine ⟨_, GA'.g, rfl, ?_⟩
    walk_at "w"
    refine c_Ground_words gd GA'.g ?_
    walk_at "w"
    refine ssum_loop gd (wordsG a d) [] rfl C fun l2 e3 e4 C2 o2 => ⟨?_⟩
    walk_at "w"
    exact fz_all C2 fr (fun x hx => (o2 x hx).trans (o x hx)) (h _ (sumRows_ok gd fun w hw => word_plain hu hw))
  · refine ⟨rfl, ?_⟩
    walk_at "w"
    refine ⟨_, GA.g, rfl, ?_⟩
    refine ⟨rfl, ?_⟩
    walk_at "w"
    refine ⟨_, GA.g, rfl, ?_⟩
    walk_at "w"
    refine ⟨⟨by omega, by omega⟩, by rw [rgD_len]; exact small (by omega), ?_⟩
    rw [show (((d : Nat) : Int) + 1).toNat = d + 1 by omega]
    have e : rgD 0 (d + 1) = ((rgD 0 (d + 1)).map fun x => (x, ([] : Row))).map (·.1) := by rw [List.map_map]; exact (List.map_id _).symm
    have e2 : ((rgD 0 (d + 1)).map fun x => (x, ([] : Row))).map (·.2) = sumRows d (wordF u) [] := by
      unfold sumRows
      rw [List.map_map, show ((fun x : D × Row => x.2) ∘ fun x => (x, ([] : Row))) = fun _ => [] from rfl, List.map_const', rgD_len, show (fun s => sumRow (wordF u) s []) = fun _ => [] from rfl, List.map_const', List.length_range]
    conv => arg 5; rw [e]
    refine comp_newrows _ (fun z hz K1 K2 l1 k1 => ?_) fun as l' C fr o => ?_
    · obtain ⟨x, hx, rfl⟩ := List.mem_map.mp hz
      obtain ⟨j, _, rfl⟩ := List.mem_map.mp hx
      exact ifB_true ⟨k1⟩
    rw [e2] at C
    have ne : ∀ x o, l x = some o → x ∉ as := fun x o hx hm => by rw [fr x hm] at hx; cases hx
    have GA' : GndAt l' g b c a d ck cd := ⟨(o _ (ne _ _ GA.g)).trans GA.g, (o _ (ne _ _ GA.b)).trans GA.b, (o _ (ne _ _ GA.c)).trans GA.c⟩
    walk_at "w"
    walk_at "s"
    refine ⟨_, GA'.g, rfl, ?_⟩
    walk_at "w"
    refine c_Ground_words gd GA'.g ?_
    walk_at "w"
    refine ssum_loop gd (wordsG a d) [] rfl C fun l2 e3 e4 C2 o2 => ⟨?_⟩
    walk_at "w"
    exact fz_all C2 fr (fun x hx => (o2 x hx).trans (o x hx)) (h _ (sumRows_ok gd fun w hw => word_plain hu hw))
  · refine ⟨rfl, ?_⟩
    walk_at "w"
    refine ⟨_, GA.g, rfl, ?_⟩
    refine ⟨rfl, ?_⟩
    walk_at "w"
    refine ⟨_, GA.g, rfl, ?_⟩
    walk_at "w"
    refine ⟨⟨by omega, by omega⟩, by rw [rgD_len]; exact small (by omega), ?_⟩
    rw [show (((d : Nat) : Int) + 1).toNat = d + 1 by omega]
    have e : rgD 0 (d + 1) = ((rgD 0 (d + 1)).map fun x => (x, ([] : Row))).map (·.1) := by rw [List.map_map]; exact (List.map_id _).symm
    have e2 : ((rgD 0 (d + 1)).map fun x => (x, ([] : Row))).map (·.2) = sumRows d (wordF u) [] := by
      unfold sumRows
      rw [List.map_map, show ((fun x : D × Row => x.2) ∘ fun x => (x, ([] : Row))) = fun _ => [] from rfl, List.map_const', rgD_len, show (fun s => sumRow (wordF u) s []) = fun _ => [] from rfl, List.map_const', List.length_range]
    conv => arg 5; rw [e]
    refine comp_newrows _ (fun z hz K1 K2 l1 k1 => ?_) fun as l' C fr o => ?_
    · obtain ⟨x, hx, rfl⟩ := List.mem_map.mp hz
      obtain ⟨j, _, rfl⟩ := List.mem_map.mp hx
      exact ifB_true ⟨k1⟩
    rw [e2] at C
    have ne : ∀ x o, l x = some o → x ∉ as := fun x o hx hm => by rw [fr x hm] at hx; cases hx
    have GA' : GndAt l' g b c a d ck cd := ⟨(o _ (ne _ _ GA.g)).trans GA.g, (o _ (ne _ _ GA.b)).trans GA.b, (o _ (ne _ _ GA.c)).trans GA.c⟩
    walk_at "w"
    walk_at "s"
    refine ⟨_, GA'.g, rfl, ?_⟩
    walk_at "w"
    refine c_Ground_words gd GA'.g ?_
    walk_at "w"
    refine ⟨_, (o _ (ne _ _ hq)).trans hq, ?_⟩
    refine ssum_loopR gd (ne _ _ hq) (wordsG a d) [] ((o _ (ne _ _ hq)).trans hq) rfl C fun l2 e3 e4 C2 o2 => ⟨?_⟩
    walk_at "w"
    exact fz_all C2 fr (fun x hx => (o2 x hx).trans (o x hx)) (h _ (sumRows_ok gd fun w hw => word_plain hu hw))
theorem c_sums_repeated {ck : List Key} {cd : List D} (GA : GndAt l g b c a d ck cd) {u : List Int} (hu : Rw a d 900 u) {N : Nat} {n : Int} (hn : n.natAbs ≤ 2 ^ N) (nz : N ≤ 1000) {x : D} (hx : HdL x (sumsG a d (wordF u)) l) (h : Q (.lst ((sumsG a d (wordF (rpW u n))).map D.int)) l) : callD D_sums_repeated [.ref g, x, .int n] l Q := by
  refine ⟨rfl, ?_⟩
  walk_at "w"
  refine c_series_of_sums gd GA hu.st hx fun U hU => ?_
  walk_at "w"
  refine c_series_raised gd hu.st hU hu.gr (by decide) hn (by omega) fun W hW => ?_
  walk_at "w"
  exact c_list_of_series gd GA hW.toSer.ok hW.toSer.len h
end
theorem GndAt.sub {l l' : LH} {g b c : Addr} {a d : Nat} {ck : List Key} {cd : List D} (G : GndAt l g b c a d ck cd) (s : Sub l l') : GndAt l' g b c a d ck cd := ⟨s _ _ G.g, s _ _ G.b, s _ _ G.c⟩
theorem HdL.sub {x : D} {w : List Int} {l l' : LH} (h : HdL x w l) (s : Sub l l') : HdL x w l' := by
  rcases h with h | ⟨b, e, h⟩
  · exact .inl h
  · exact .inr ⟨b, e, s _ _ h⟩
end Law

namespace Law
open PySem PySem.Spec PyProof.Rows L2 DL
local macro_rules | `(tactic| walk_at "w") => `(tactic| conv => whnf)
local macro_rules | `(tactic| walk_at "s") => `(tactic| (refine ⟨?_⟩; conv => whnf))
local macro_rules | `(tactic| walk_at "z") => `(tactic| (refine small ?_; simp only [List.length_map, List.length_append, List.length_reverse, List.length_cons, List.length_nil]; omega))
local macro_rules | `(tactic| walk_at "q") => `(tactic| (refine ⟨(okN_tints _).ok, (okN_tints _).ok, ?_⟩; rw [eqD_tints]))
/-! words laid together: sums over all words that have both in them and nothing else -/
def LhA (a : Int) (u : List Int) (Lu : List Int → (List Int → Int) → Int) : List Int → (List Int → Int) → Int
  | [], f => f (a :: u)
  | b :: v, f => Lu (b :: v) (fun w => f (a :: w)) + LhA a u Lu v (fun w => f (b :: w)) + if a = b then Lu v (fun w => f (a :: w)) else 0
def Lh : List Int → List Int → (List Int → Int) → Int
  | [] => fun v f => f v
  | a :: u => LhA a u (Lh u)
theorem Lh_nl (v : List Int) (f : List Int → Int) : Lh [] v f = f v := rfl
theorem Lh_nr (u : List Int) (f : List Int → Int) : Lh u [] f = f u := by cases u <;> rfl
theorem Lh_cc (a b : Int) (u v : List Int) (f : List Int → Int) : Lh (a :: u) (b :: v) f = Lh u (b :: v) (fun w => f (a :: w)) + Lh (a :: u) v (fun w => f (b :: w)) + if a = b then Lh u v (fun w => f (a :: w)) else 0 := rfl
theorem Lh_add : ∀ (n : Nat) (u v : List Int) (f g : List Int → Int), u.length + v.length ≤ n → Lh u v (fun w => f w + g w) = Lh u v f + Lh u v g
  | _, [], v, f, g, _ => rfl
  | _, a :: u, [], f, g, _ => rfl
  | 0, a :: u, b :: v, f, g, h => by simp at h
  | n + 1, a :: u, b :: v, f, g, h => by
    simp only [List.length_cons] at h
    rw [Lh_cc, Lh_cc, Lh_cc, Lh_add n u (b :: v) (fun w => f (a :: w)) (fun w => g (a :: w)) (by simp only [List.length_cons]; omega), Lh_add n (a :: u) v (fun w => f (b :: w)) (fun w => g (b :: w)) (by simp only [List.length_cons]; omega), Lh_add n u v (fun w => f (a :: w)) (fun w => g (a :: w)) (by omega)]
    split <;> omega
theorem Lh_sm : ∀ (n : Nat) (u v : List Int) (c : Int) (f : List Int → Int), u.length + v.length ≤ n → Lh u v (fun w => c * f w) = c * Lh u v f
  | _, [], v, c, f, _ => rfl
  | _, a :: u, [], c, f, _ => rfl
  | 0, a :: u, b :: v, c, f, h => by simp at h
  | n + 1, a :: u, b :: v, c, f, h => by
    simp only [List.length_cons] at h
    rw [Lh_cc, Lh_cc, Lh_sm n u (b :: v) c (fun w => f (a :: w)) (by simp only [List.length_cons]; omega), Lh_sm n (a :: u) v c (fun w => f (b :: w)) (by simp only [List.length_cons]; omega), Lh_sm n u v c (fun w => f (a :: w)) (by omega), Int.mul_add, Int.mul_add]
    split
    · rfl
    · rw [Int.mul_zero]
theorem Lh_lin (u v : List Int) (c : Int) (f g : List Int → Int) : Lh u v (fun w => f w + c * g w) = Lh u v f + c * Lh u v g := by
  rw [Lh_add _ u v f (fun w => c * g w) (Nat.le_refl _), Lh_sm _ u v c g (Nat.le_refl _)]
theorem Lh_snoc : ∀ (n : Nat) (u v : List Int) (a b : Int) (f : List Int → Int), u.length + v.length ≤ n → Lh (u ++ [a]) (v ++ [b]) f = Lh u (v ++ [b]) (fun w => f (w ++ [a])) + Lh (u ++ [a]) v (fun w => f (w ++ [b])) + if a = b then Lh u v (fun w => f (w ++ [a])) else 0
  | _, [], [], a, b, f, _ => by
    show f [a, b] + f [b, a] + (if a = b then f [a] else 0) = f [b, a] + f [a, b] + if a = b then f [a] else 0
    omega
  | 0, [], e :: v, a, b, f, h => by simp at h
  | 0, c :: u, v, a, b, f, h => by simp at h
  | n + 1, [], e :: v, a, b, f, h => by
    have ih := Lh_snoc n [] v a b (fun w => f (e :: w)) (by simp only [List.length_cons, List.length_nil] at h ⊢; omega)
    rw [List.nil_append] at ih ⊢
    rw [List.cons_append, Lh_cc, ih, Lh_cc a e [] v]
    simp only [Lh_nl, List.cons_append]
    omega
  | n + 1, c :: u, [], a, b, f, h => by
    have ih := Lh_snoc n u [] a b (fun w => f (c :: w)) (by simp only [List.length_cons, List.length_nil] at h ⊢; omega)
    rw [List.nil_append] at ih ⊢
    rw [List.cons_append, Lh_cc, ih, Lh_cc c b u []]
    simp only [Lh_nr, List.cons_append]
    omega
  | n + 1, c :: u, e :: v, a, b, f, h => by
    simp only [List.length_cons] at h
    have i1 := Lh_snoc n u (e :: v) a b (fun w => f (c :: w)) (by simp only [List.length_cons]; omega)
    have i2 := Lh_snoc n (c :: u) v a b (fun w => f (e :: w)) (by simp only [List.length_cons]; omega)
    have i3 := Lh_snoc n u v a b (fun w => f (c :: w)) (by omega)
    rw [List.cons_append] at i1 i2
    rw [List.cons_append, List.cons_append, Lh_cc, i1, i2, i3, Lh_cc c e u (v ++ [b]), Lh_cc c e (u ++ [a]) v, Lh_cc c e u v]
    simp only [List.cons_append]
    by_cases ab : a = b <;> by_cases ce : c = e <;> simp only [ab, ce, if_true, if_false] <;> omega
/-- sums that multiply as words are laid together -/
structure Mg (G : List Int → Int) : Prop where
  one : G [] = 1
  mul : ∀ u v, G u * G v = Lh u v G
theorem Lh_zero (u v : List Int) : Lh u v (fun _ => 0) = 0 := by
  have := Lh_sm _ u v 0 (fun _ => 0) (Nat.le_refl _)
  simp only [Int.zero_mul] at this
  exact this
theorem mg_base : Mg fun w => baseF w.reverse := by
  have z : ∀ a w, baseF (a :: w : List Int).reverse = 0 := fun a w => by
    rw [List.reverse_cons]
    cases h : w.reverse ++ [a] with
    | nil => simp at h
    | cons x y => rfl
  refine ⟨rfl, fun u v => ?_⟩
  cases u with
  | nil => rw [Lh_nl]; show (1 : Int) * _ = _; rw [Int.one_mul]
  | cons a u =>
    cases v with
    | nil => rw [Lh_nr]; show _ * (1 : Int) = _; rw [Int.mul_one]
    | cons b v =>
      rw [z a u, Lh_cc]
      simp only [z, Lh_zero]
      simp
/-- G: T and a letter behind -/
structure StG (L : Int) (T G : List Int → Int) : Prop where
  nil : G [] = T []
  sn : ∀ w a, G (w ++ [a]) = T (w ++ [a]) + (if a = L then 1 else 0) * T w
theorem stG_lh {L : Int} {T G : List Int → Int} (h : StG L T G) (u v : List Int) (a b : Int) : Lh (u ++ [a]) (v ++ [b]) G = Lh (u ++ [a]) (v ++ [b]) T + (if b = L then 1 else 0) * Lh (u ++ [a]) v T + (if a = L then 1 else 0) * Lh u (v ++ [b]) T + (if a = L then 1 else 0) * (if b = L then 1 else 0) * Lh u v T := by
  have e : ∀ a : Int, (fun w => G (w ++ [a])) = fun w => T (w ++ [a]) + (if a = L then 1 else 0) * T w := fun a => funext fun w => h.sn w a
  rw [Lh_snoc _ u v a b G (Nat.le_refl _), e a, e b, Lh_lin, Lh_lin, Lh_lin, Lh_snoc _ u v a b T (Nat.le_refl _)]
  by_cases ab : a = b
  · subst ab
    by_cases al : a = L
    · simp only [al, if_true, Int.one_mul]; omega
    · simp only [al, if_true, if_false, Int.zero_mul]; omega
  · by_cases al : a = L
    · have bl : ¬ b = L := fun z => ab (al.trans z.symm)
      simp only [ab, al, bl, if_true, if_false, Int.one_mul, Int.zero_mul]; omega
    · by_cases bl : b = L
      · simp only [ab, al, bl, if_true, if_false, Int.one_mul, Int.zero_mul]; omega
      · simp only [ab, al, bl, if_false, Int.zero_mul]; omega
theorem snoc_or (u : List Int) : u = [] ∨ ∃ w a, u = w ++ [a] := by
  rcases h : u.reverse with _ | ⟨a, w⟩
  · exact .inl (List.reverse_eq_nil_iff.mp h)
  · refine .inr ⟨w.reverse, a, ?_⟩
    rw [← List.reverse_cons, ← h, List.reverse_reverse]
theorem stG_mul {x a y b : Int} (t1 t2 t3 t4 : Int) (p q : Int) : (t1 + p * t2) * (t3 + q * t4) = t1 * t3 + q * (t1 * t4) + p * (t2 * t3) + p * q * (t2 * t4) := by
  rw [Int.add_mul, Int.mul_add, Int.mul_add]
  have e1 : t1 * (q * t4) = q * (t1 * t4) := by rw [← Int.mul_assoc, Int.mul_comm t1 q, Int.mul_assoc]
  have e2 : p * t2 * t3 = p * (t2 * t3) := Int.mul_assoc ..
  have e3 : p * t2 * (q * t4) = p * q * (t2 * t4) := by
    rw [Int.mul_assoc, Int.mul_assoc, ← Int.mul_assoc t2 q t4, Int.mul_comm t2 q, Int.mul_assoc]
  rw [e1, e2, e3]
  omega
theorem Mg.step {L : Int} {T G : List Int → Int} (h : StG L T G) (m : Mg T) : Mg G := by
  refine ⟨h.nil.trans m.one, fun u v => ?_⟩
  rcases snoc_or u with rfl | ⟨u, a, rfl⟩
  · rw [Lh_nl, h.nil, m.one, Int.one_mul]
  · rcases snoc_or v with rfl | ⟨v, b, rfl⟩
    · rw [Lh_nr, h.nil, m.one, Int.mul_one]
    · rw [stG_lh h, h.sn, h.sn, stG_mul (x := 0) (a := 0) (y := 0) (b := 0), m.mul, m.mul, m.mul, m.mul]
theorem Mg.back {L : Int} {T G : List Int → Int} (h : StG L T G) (m : Mg G) : Mg T := by
  have one : T [] = 1 := h.nil.symm.trans m.one
  have go : ∀ (n : Nat) (u v : List Int), u.length + v.length ≤ n → T u * T v = Lh u v T := by
    intro n
    induction n with
    | zero =>
      intro u v hn
      have e1 : u = [] := List.eq_nil_of_length_eq_zero (by omega)
      have e2 : v = [] := List.eq_nil_of_length_eq_zero (by omega)
      subst e1 e2
      rw [Lh_nl, one, Int.one_mul]
    | succ n ih =>
      intro u v hn
      rcases snoc_or u with rfl | ⟨u, a, rfl⟩
      · rw [Lh_nl, one, Int.one_mul]
      · rcases snoc_or v with rfl | ⟨v, b, rfl⟩
        · rw [Lh_nr, one, Int.mul_one]
        · rw [List.length_append, List.length_append, List.length_singleton, List.length_singleton] at hn
          have q := m.mul (u ++ [a]) (v ++ [b])
          rw [stG_lh h, h.sn, h.sn, stG_mul (x := 0) (a := 0) (y := 0) (b := 0), ih (u ++ [a]) v (by rw [List.length_append, List.length_singleton]; omega), ih u (v ++ [b]) (by rw [List.length_append, List.length_singleton]; omega), ih u v (by omega)] at q
          omega
  exact ⟨one, fun u v => go _ u v (Nat.le_refl _)⟩
theorem st_pos (L : Int) (F : List Int → Int) : StG L (fun w => F w.reverse) (fun w => stepF L false F w.reverse) := by
  refine ⟨by show stepF L false F [] = F []; rw [stepF], fun w a => ?_⟩
  rw [List.reverse_append]
  show stepF L false F (a :: w.reverse) = F (a :: w.reverse) + _
  rw [stepF]
  by_cases e : a = L
  · rw [if_pos e, if_pos e, Int.one_mul]; rfl
  · rw [if_neg e, if_neg e, Int.zero_mul, Int.add_zero]
theorem st_neg (L : Int) (F : List Int → Int) : StG L (fun w => stepF L true F w.reverse) (fun w => F w.reverse) := by
  refine ⟨by show F [] = stepF L true F []; rw [stepF], fun w a => ?_⟩
  rw [List.reverse_append]
  show F (a :: w.reverse) = stepF L true F (a :: w.reverse) + _
  rw [stepF]
  by_cases e : a = L
  · rw [if_pos e, if_pos e, Int.one_mul]
    show _ = F (a :: w.reverse) - stepF L true F w.reverse + _
    omega
  · rw [if_neg e, if_neg e, Int.zero_mul, Int.add_zero]
theorem mg_fold : ∀ (w : List Int) {F : List Int → Int}, Mg (fun r => F r.reverse) → Mg fun r => (w.foldl (fun f st => if 0 < st then stepF st false f else stepF (-st) true f) F) r.reverse
  | [], F, h => h
  | st :: w, F, h => by
    rw [List.foldl_cons]
    refine mg_fold w ?_
    split
    · exact Mg.step (st_pos st F) h
    · exact Mg.back (st_neg (-st) F) h
theorem mg_word (w : List Int) : Mg fun r => wordF w r.reverse := mg_fold w mg_base

end Law

namespace Law
open PySem PySem.Spec PyProof.Rows L2 DL
local macro_rules | `(tactic| walk_at "w") => `(tactic| conv => whnf)
local macro_rules | `(tactic| walk_at "s") => `(tactic| (refine ⟨?_⟩; conv => whnf))
local macro_rules | `(tactic| walk_at "z") => `(tactic| (refine small ?_; simp only [List.length_map, List.length_append, List.length_reverse, List.length_cons, List.length_nil]; omega))
local macro_rules | `(tactic| walk_at "q") => `(tactic| (refine ⟨(okN_tints _).ok, (okN_tints _).ok, ?_⟩; rw [eqD_tints]))
/-! the law's own texts of trees -/
theorem dL_new {l : LH} {b : Addr} {o : DO} (nb : l b = none) : dL (uL l b o) b = l := by
  funext y
  unfold dL
  by_cases h : y = b
  · rw [if_pos h, h, nb]
  · rw [if_neg h, uL_ne h]
/-! the program's own laying together -/
def sumR : Row → (List Int → Int) → Int
  | [], _ => 0
  | p :: r, f => p.2 * f p.1 + sumR r f
theorem sumR_app (f : List Int → Int) : ∀ r s : Row, sumR (r ++ s) f = sumR r f + sumR s f
  | [], s => by rw [List.nil_append, sumR, Int.zero_add]
  | p :: r, s => by rw [List.cons_append, sumR, sumR, sumR_app f r s, Int.add_assoc]
theorem sumR_rep {w : List Int} {x : Int} {f : List Int → Int} : ∀ {r : Row}, (keysR r).Nodup → w ∈ keysR r → sumR (r.map fun p => if p.1 = w then (p.1, x) else p) f = sumR r f + (x - getR r w) * f w
  | [], _, h => by cases h
  | p :: r, nd, h => by
    have nd' := List.nodup_cons.mp (show (p.1 :: keysR r).Nodup from nd)
    rw [List.map_cons, sumR, sumR, getR]
    by_cases e : p.1 = w
    · rw [if_pos e, if_pos e]
      have hm : w ∉ keysR r := by rw [← e]; exact nd'.1
      have : (r.map fun p => if p.1 = w then (p.1, x) else p) = r := by
        conv => rhs; rw [← List.map_id r]
        refine List.map_congr_left fun z hz => ?_
        rw [if_neg fun y => hm (by rw [← y]; exact List.mem_map.mpr ⟨z, hz, rfl⟩)]
        rfl
      rw [this]
      dsimp only
      rw [e, Int.sub_mul]
      omega
    · rw [if_neg e, if_neg e]
      have hm : w ∈ keysR r := (List.mem_cons.mp (show w ∈ p.1 :: keysR r from h)).resolve_left fun z => e z.symm
      rw [sumR_rep nd'.2 hm, Int.add_assoc]
theorem sumR_put {r : Row} (nd : (keysR r).Nodup) (w : List Int) (t : Int) (f : List Int → Int) : sumR (putR r w (getR r w + t)) f = sumR r f + t * f w := by
  unfold putR
  by_cases e : w ∈ keysR r
  · rw [if_pos e, sumR_rep nd e, show getR r w + t - getR r w = t by omega]
  · rw [if_neg e, sumR_app, getR_out e]
    show sumR r f + ((0 + t) * f w + 0) = _
    rw [Int.zero_add, Int.add_zero]
def addL (a : Int) : Row → Row → Row
  | [], to => to
  | p :: ps, to => addL a ps (putR to (a :: p.1) (getR to (a :: p.1) + p.2))
theorem addL_sum (a : Int) (f : List Int → Int) : ∀ (c to : Row), (keysR to).Nodup → (keysR (addL a c to)).Nodup ∧ sumR (addL a c to) f = sumR to f + sumR c fun w => f (a :: w)
  | [], to, nd => ⟨nd, by rw [addL, sumR, Int.add_zero]⟩
  | p :: c, to, nd => by
    obtain ⟨h1, h2⟩ := addL_sum a f c _ (put_nodup (a :: p.1) (getR to (a :: p.1) + p.2) nd)
    refine ⟨h1, ?_⟩
    rw [addL, h2, sumR_put nd, sumR, Int.add_assoc]
theorem addL_keys (a : Int) : ∀ (c to : Row) {w : List Int}, w ∈ keysR (addL a c to) → w ∈ keysR to ∨ ∃ x ∈ keysR c, w = a :: x
  | [], to, w, h => .inl h
  | p :: c, to, w, h => by
    rcases addL_keys a c _ h with z | ⟨x, hx, rfl⟩
    · rcases put_keys z with z | z
      · exact .inl z
      · exact .inr ⟨p.1, List.mem_cons_self, z⟩
    · exact .inr ⟨x, List.mem_cons_of_mem _ hx, rfl⟩
theorem addL_len (a : Int) : ∀ (c to : Row), (addL a c to).length ≤ to.length + c.length
  | [], to => Nat.le_refl _
  | p :: c, to => by
    have h1 := addL_len a c (putR to (a :: p.1) (getR to (a :: p.1) + p.2))
    have h2 := put_len to (a :: p.1) (getR to (a :: p.1) + p.2)
    rw [addL, List.length_cons]
    omega
theorem getR_pos : ∀ {r : Row} (_ : ∀ p ∈ r, 0 ≤ p.2) (w : List Int), 0 ≤ getR r w
  | [], _, w => Int.le_refl 0
  | p :: r, h, w => by
    rw [getR]
    split
    · exact h p List.mem_cons_self
    · exact getR_pos (fun q hq => h q (List.mem_cons_of_mem _ hq)) w
theorem putR_pos {r : Row} (h : ∀ p ∈ r, 0 ≤ p.2) (w : List Int) {x : Int} (hx : 0 ≤ x) : ∀ p ∈ putR r w x, 0 ≤ p.2 := fun p hp => by
  unfold putR at hp
  split at hp
  · obtain ⟨q, hq, rfl⟩ := List.mem_map.mp hp
    split
    · exact hx
    · exact h q hq
  · rcases List.mem_append.mp hp with z | z
    · exact h p z
    · rw [List.mem_singleton.mp z]; exact hx
theorem addL_pos (a : Int) : ∀ (c to : Row), (∀ p ∈ c, 0 ≤ p.2) → (∀ p ∈ to, 0 ≤ p.2) → ∀ p ∈ addL a c to, 0 ≤ p.2
  | [], to, _, h => h
  | p :: c, to, hc, h => addL_pos a c _ (fun q hq => hc q (List.mem_cons_of_mem _ hq)) (putR_pos h _ (by have := getR_pos h (a :: p.1); have := hc p List.mem_cons_self; omega))
theorem Lh_pos1 : ∀ (n : Nat) (u v : List Int), u.length + v.length ≤ n → Lh u v (fun _ => 1) ≤ 3 ^ n
  | n, [], v, _ => by rw [Lh_nl]; exact Int.pow_pos (by decide)
  | n, a :: u, [], _ => by rw [Lh_nr]; exact Int.pow_pos (by decide)
  | 0, a :: u, b :: v, h => by simp at h
  | n + 1, a :: u, b :: v, h => by
    simp only [List.length_cons] at h
    have h1 := Lh_pos1 n u (b :: v) (by simp only [List.length_cons]; omega)
    have h2 := Lh_pos1 n (a :: u) v (by simp only [List.length_cons]; omega)
    have h3 := Lh_pos1 n u v (by omega)
    have h0 : (0 : Int) < 3 ^ n := Int.pow_pos (by decide)
    rw [Lh_cc, Int.pow_succ]
    split <;> omega
structure Ld (u v : List Int) (r : Row) : Prop where
  nd : (keysR r).Nodup
  sm : ∀ f, sumR r f = Lh u v f
  ln : ∀ w ∈ keysR r, w.length ≤ u.length + v.length
  lt : ∀ w ∈ keysR r, ∀ x ∈ w, x ∈ u ∨ x ∈ v
  few : r.length ≤ 3 ^ (u.length + v.length)
  pos : ∀ p ∈ r, 0 ≤ p.2
theorem ld_one (w : List Int) (u v : List Int) (h : (u = [] ∧ w = v) ∨ (v = [] ∧ w = u)) : Ld u v [(w, 1)] := by
  refine ⟨by simp [keysR], fun f => ?_, fun x hx => ?_, fun x hx y hy => ?_, Nat.one_le_pow _ _ (by decide), fun p hp => ?_⟩
  · rcases h with ⟨rfl, rfl⟩ | ⟨rfl, rfl⟩
    · rw [Lh_nl]; show 1 * f w + 0 = f w; omega
    · rw [Lh_nr]; show 1 * f w + 0 = f w; omega
  · rw [List.mem_singleton.mp (show x ∈ [w] from hx)]
    rcases h with ⟨rfl, rfl⟩ | ⟨rfl, rfl⟩ <;> simp
  · rw [List.mem_singleton.mp (show x ∈ [w] from hx)] at hy
    rcases h with ⟨rfl, rfl⟩ | ⟨rfl, rfl⟩
    · exact .inr hy
    · exact .inl hy
  · rw [List.mem_singleton.mp hp]; exact (by decide : (0 : Int) ≤ 1)
theorem uL_own {l : LH} {a : Addr} {o : DO} (h : l a = some o) : uL l a o = l := by
  funext z
  by_cases e : z = a
  · rw [e, uL_same, h]
  · rw [uL_ne e]
theorem Ld.few9 {u v : List Int} {r : Row} (h : Ld u v r) (n : u.length + v.length ≤ 9) : r.length ≤ 19683 := Nat.le_trans h.few (Nat.le_trans (Nat.pow_le_pow_right (by decide) n) (by decide))
theorem longer_row_loop {fa : Addr} {a : Int} {e2 : Option D} {E : DEnds} : ∀ (c : Row) {r : Row} {l : LH} {e3 e4 e5 : Option D}, r.length + c.length ≤ 100000 → (∀ w ∈ keysR c, w.length ≤ 1000) → l fa = some (rowO r) →
    (∀ e3 e4 e5, E.nx [some (.ref fa), some (.int a), e2, e3, e4, e5] (uL l fa (rowO (addL a c r)))) →
    forL (gTup 2 (gCons (gName 3) (gCons (gName 4) gNil))) (nS B_add_longer_1) (c.map fun p => D.tup [wordD p.1, .int p.2]) E [some (.ref fa), some (.int a), e2, e3, e4, e5] l
  | [], r, l, e3, e4, e5, _, _, hr, h => by
    have := h e3 e4 e5
    rw [addL, uL_own hr] at this
    exact this
  | p :: c, r, l, e3, e4, e5, hz, hw, hr, h => by
    rw [List.length_cons] at hz
    rw [List.map_cons]
    have pl := put_len r (a :: p.1) (getR r (a :: p.1) + p.2)
    walk_at "w"
    refine ⟨rfl, ⟨?_⟩⟩
    walk_at "w"
    refine ⟨show 1 ≤ sizeLine by decide, ?_⟩
    walk_at "w"
    have sz : [D.int a].length + (p.1.map D.int).length ≤ sizeLine := by
      have := hw p.1 List.mem_cons_self
      refine small ?_
      rw [List.length_map, List.length_singleton]
      omega
    refine ⟨sz, ?_⟩
    walk_at "w"
    refine ⟨_, hr, ?_⟩
    walk_at "w"
    refine ⟨_, hr, _, keyT_word (a :: p.1), ?_⟩
    dsimp only
    rw [getA_row]
    walk_at "w"
    refine ⟨_, hr, _, keyT_word (a :: p.1), ?_, ?_⟩
    · unfold rowKs
      rw [List.length_map]
      exact Nat.lt_of_lt_of_le (show r.length < 100001 by omega) (by decide)
    rw [putKs_row _ _ (getR r (a :: p.1) + p.2), putDs_row]
    refine longer_row_loop c (r := putR r (a :: p.1) (getR r (a :: p.1) + p.2)) (by omega) (fun w hw' => hw w (List.mem_cons_of_mem _ hw')) uL_same fun e3 e4 e5 => ?_
    rw [uL_uL]
    exact h e3 e4 e5
theorem c_add_longer {fa : Addr} {a : Int} (c : Row) {r : Row} {l : LH} {Q : DK} (hz : r.length + c.length ≤ 100000) (hw : ∀ w ∈ keysR c, w.length ≤ 1000) (hr : l fa = some (rowO r)) (q : Q .non (uL l fa (rowO (addL a c r)))) : callD D_add_longer [.ref fa, .int a, rowD c] l Q := by
  refine ⟨rfl, ?_⟩
  walk_at "w"
  rw [itemsD_row]
  exact longer_row_loop c hz hw hr fun e3 e4 e5 => q
theorem pow3_add {a b c : Nat} (n : Nat) (h1 : a ≤ 3 ^ n) (h2 : b ≤ 3 ^ n) (h3 : c ≤ 3 ^ n) : a + b + c ≤ 3 ^ (n + 1) := by
  rw [Nat.pow_succ]
  omega
theorem Ld.cc {a b : Int} {u v : List Int} {r1 r2 r3 : Row} (h1 : Ld u (b :: v) r1) (h2 : Ld (a :: u) v r2) (h3 : Ld u v r3) : Ld (a :: u) (b :: v) (if a = b then addL a r3 (addL b r2 (addL a r1 [])) else addL b r2 (addL a r1 [])) := by
  have n1 := addL_sum a (fun _ => 0) r1 [] (by simp [keysR])
  have n2 := addL_sum b (fun _ => 0) r2 _ n1.1
  have n3 := addL_sum a (fun _ => 0) r3 _ n2.1
  have s1 : ∀ f, sumR (addL a r1 []) f = Lh u (b :: v) fun w => f (a :: w) := fun f => by
    rw [(addL_sum a f r1 [] (by simp [keysR])).2, h1.sm]
    show 0 + _ = _
    omega
  have s2 : ∀ f, sumR (addL b r2 (addL a r1 [])) f = Lh u (b :: v) (fun w => f (a :: w)) + Lh (a :: u) v (fun w => f (b :: w)) := fun f => by
    rw [(addL_sum b f r2 _ n1.1).2, h2.sm, s1]
  have k2 : ∀ w ∈ keysR (addL b r2 (addL a r1 [])), w.length ≤ (a :: u).length + (b :: v).length ∧ ∀ x ∈ w, x ∈ a :: u ∨ x ∈ b :: v := fun w hw => by
    rcases addL_keys b r2 _ hw with z | ⟨x, hx, rfl⟩
    · rcases addL_keys a r1 _ z with z | ⟨x, hx, rfl⟩
      · cases z
      · have := h1.ln x hx
        refine ⟨by simp only [List.length_cons] at this ⊢; omega, fun y hy => ?_⟩
        rcases List.mem_cons.mp hy with rfl | hy
        · exact .inl List.mem_cons_self
        · exact (h1.lt x hx y hy).imp (List.mem_cons_of_mem _) id
    · have := h2.ln x hx
      refine ⟨by simp only [List.length_cons] at this ⊢; omega, fun y hy => ?_⟩
      rcases List.mem_cons.mp hy with rfl | hy
      · exact .inr List.mem_cons_self
      · exact (h2.lt x hx y hy).imp id (List.mem_cons_of_mem _)
  have f1 := h1.few
  have f2 := h2.few
  have f3 := h3.few
  have l1 := addL_len a r1 []
  have l2 := addL_len b r2 (addL a r1 [])
  have l3 := addL_len a r3 (addL b r2 (addL a r1 []))
  have p3 : 3 ^ (u.length + v.length) ≤ 3 ^ (u.length + v.length + 1) := Nat.pow_le_pow_right (by decide) (by omega)
  simp only [List.length_cons, List.length_nil] at f1 f2 f3 l1
  have e1 : u.length + (v.length + 1) = u.length + v.length + 1 := by omega
  have e2 : u.length + 1 + v.length = u.length + v.length + 1 := by omega
  rw [e1] at f1
  rw [e2] at f2
  have q2 := addL_pos b r2 _ h2.pos (addL_pos a r1 [] h1.pos fun p hp => by cases hp)
  have tot := pow3_add (u.length + v.length + 1) f1 f2 (Nat.le_trans f3 p3)
  have e3 : (a :: u).length + (b :: v).length = u.length + v.length + 1 + 1 := by simp only [List.length_cons]; omega
  by_cases e : a = b
  · rw [if_pos e]
    refine ⟨n3.1, fun f => ?_, fun w hw => ?_, fun w hw => ?_, by rw [e3]; omega, addL_pos a r3 _ h3.pos q2⟩
    · rw [(addL_sum a f r3 _ n2.1).2, h3.sm, s2, Lh_cc, if_pos e]
    · rcases addL_keys a r3 _ hw with z | ⟨x, hx, rfl⟩
      · exact (k2 w z).1
      · have := h3.ln x hx
        simp only [List.length_cons] at this ⊢
        omega
    · rcases addL_keys a r3 _ hw with z | ⟨x, hx, rfl⟩
      · exact (k2 w z).2
      · intro y hy
        rcases List.mem_cons.mp hy with rfl | hy
        · exact .inl List.mem_cons_self
        · exact (h3.lt x hx y hy).imp (List.mem_cons_of_mem _) (List.mem_cons_of_mem _)
  · rw [if_neg e]
    refine ⟨n2.1, fun f => ?_, fun w hw => (k2 w hw).1, fun w hw => (k2 w hw).2, by rw [e3]; omega, q2⟩
    rw [s2, Lh_cc, if_neg e, Int.add_zero]
theorem ld_some (u v : List Int) : ∃ r, Ld u v r := by
  have go : ∀ (n : Nat) (u v : List Int), u.length + v.length ≤ n → ∃ r, Ld u v r := by
    intro n
    induction n with
    | zero =>
      intro u v h
      have hu : u = [] := List.eq_nil_of_length_eq_zero (by omega)
      exact ⟨[(v, 1)], ld_one v u v (.inl ⟨hu, rfl⟩)⟩
    | succ n ih =>
      intro u v h
      cases u with
      | nil => exact ⟨[(v, 1)], ld_one v [] v (.inl ⟨rfl, rfl⟩)⟩
      | cons a u =>
        cases v with
        | nil => exact ⟨[(a :: u, 1)], ld_one (a :: u) (a :: u) [] (.inr ⟨rfl, rfl⟩)⟩
        | cons b v =>
          simp only [List.length_cons] at h
          obtain ⟨r1, h1⟩ := ih u (b :: v) (by simp only [List.length_cons]; omega)
          obtain ⟨r2, h2⟩ := ih (a :: u) v (by simp only [List.length_cons]; omega)
          obtain ⟨r3, h3⟩ := ih u v (by omega)
          exact ⟨_, Ld.cc h1 h2 h3⟩
  exact go _ u v (Nat.le_refl _)
theorem Ld.cc2 {a b : Int} (e : ¬a = b) {u v : List Int} {r1 r2 : Row} (h1 : Ld u (b :: v) r1) (h2 : Ld (a :: u) v r2) : Ld (a :: u) (b :: v) (addL b r2 (addL a r1 [])) := by
  obtain ⟨r3, h3⟩ := ld_some u v
  have := Ld.cc h1 h2 h3
  rw [if_neg e] at this
  exact this
theorem c_laid_counts : ∀ (n : Nat) (u v : List Int) {l : LH} {Q : DK}, u.length + v.length < n → u.length + v.length ≤ 8 → (∀ r, Ld u v r → Q (rowD r) l) → callD (D_laid_counts n) [wordD u, wordD v] l Q
  | 0, u, v, l, Q, h, _, q => absurd h (by omega)
  | n + 1, u, v, l, Q, h, n9, q => by
    refine ⟨rfl, ?_⟩
    walk_at "w"
    refine ⟨(okN_int _).ok, (okN_int _).ok, ?_⟩
    rw [eqD_int, List.length_map]
    refine ifB_dec (fun e => ?_) (fun e => ?_)
    · have hu : u = [] := List.eq_nil_of_length_eq_zero (by omega)
      walk_at "w"
      refine ⟨_, keyT_word v, ?_⟩
      intro t nt
      walk_at "w"
      refine ⟨_, uL_same, ?_⟩
      rw [dL_new nt]
      exact q [(v, 1)] (ld_one v u v (.inl ⟨hu, rfl⟩))
    · walk_at "w"
      walk_at "s"
      refine ⟨(okN_int _).ok, (okN_int _).ok, ?_⟩
      rw [eqD_int, List.length_map]
      refine ifB_dec (fun e2 => ?_) (fun e2 => ?_)
      · have hv : v = [] := List.eq_nil_of_length_eq_zero (by omega)
        walk_at "w"
        refine ⟨_, keyT_word u, ?_⟩
        intro t nt
        walk_at "w"
        refine ⟨_, uL_same, ?_⟩
        rw [dL_new nt]
        exact q [(u, 1)] (ld_one u u v (.inr ⟨hv, rfl⟩))
      · obtain ⟨a, u, rfl⟩ : ∃ a u', u = a :: u' := by
          cases u with
          | nil => exact absurd rfl e
          | cons a u => exact ⟨a, u, rfl⟩
        obtain ⟨b, v, rfl⟩ : ∃ b v', v = b :: v' := by
          cases v with
          | nil => exact absurd rfl e2
          | cons b v => exact ⟨b, v, rfl⟩
        walk_at "w"
        walk_at "s"
        intro fa nfa
        walk_at "w"
        walk_at "s"
        have c1 : ∀ (x : Int) (w : List Int), DL.cutD ((x :: w).map D.int) (some 1) none = w.map D.int := fun x w => (cutD_from _ 1).trans (by rw [List.map_cons]; rfl)
        simp only [List.length_cons] at h n9
        refine ⟨_, atI_nat (j := 0) rfl, ?_⟩
        walk_at "w"
        rw [c1]
        refine c_laid_counts n u (b :: v) (by simp only [List.length_cons]; omega) (by simp only [List.length_cons]; omega) fun r1 h1 => ?_
        have l1 := addL_len a r1 []
        walk_at "w"
        have f1 := h1.few9 (by simp only [List.length_cons]; omega)
        refine c_add_longer r1 (r := []) (by simp only [List.length_nil]; omega) (fun w hw => by have := h1.ln w hw; simp only [List.length_cons] at this; omega) uL_same ?_
        rw [uL_uL]
        walk_at "w"
        walk_at "s"
        refine ⟨_, atI_nat (j := 0) rfl, ?_⟩
        walk_at "w"
        rw [c1]
        refine c_laid_counts n (a :: u) v (by simp only [List.length_cons]; omega) (by simp only [List.length_cons]; omega) fun r2 h2 => ?_
        have l2 := addL_len b r2 (addL a r1 [])
        walk_at "w"
        have f2 := h2.few9 (by simp only [List.length_cons]; omega)
        simp only [List.length_nil] at l1
        refine c_add_longer r2 (by omega) (fun w hw => by have := h2.ln w hw; simp only [List.length_cons] at this; omega) uL_same ?_
        rw [uL_uL]
        walk_at "w"
        walk_at "s"
        refine ⟨_, atI_nat (j := 0) rfl, ?_⟩
        walk_at "w"
        refine ⟨_, atI_nat (j := 0) rfl, ?_⟩
        walk_at "w"
        refine ⟨(okN_int _).ok, (okN_int _).ok, ?_⟩
        rw [eqD_int]
        refine ifB_dec (fun ab => ?_) (fun ab => ?_)
        · walk_at "w"
          refine ⟨_, atI_nat (j := 0) rfl, ?_⟩
          walk_at "w"
          rw [c1, c1]
          refine c_laid_counts n u v (by omega) (by omega) fun r3 h3 => ?_
          have f3 := h3.few9 (by omega)
          have l3 := addL_len a r3 (addL b r2 (addL a r1 []))
          walk_at "w"
          refine c_add_longer r3 (by omega) (fun w hw => by have := h3.ln w hw; omega) uL_same ?_
          rw [uL_uL]
          walk_at "w"
          walk_at "s"
          refine ⟨_, uL_same, ?_⟩
          rw [dL_new nfa]
          have := Ld.cc h1 h2 h3
          rw [if_pos ab] at this
          exact q _ this
        · walk_at "w"
          walk_at "s"
          refine ⟨_, uL_same, ?_⟩
          rw [dL_new nfa]
          exact q _ (Ld.cc2 ab h1 h2)
theorem sumR_perm {r s : Row} (h : r.Perm s) (f : List Int → Int) : sumR r f = sumR s f := by
  induction h with
  | nil => rfl
  | cons x _ ih => rw [sumR, sumR, ih]
  | swap x y l => rw [sumR, sumR, sumR, sumR]; omega
  | trans _ _ h1 h2 => exact h1.trans h2
theorem sumR_le : ∀ {r : Row} (_ : ∀ p ∈ r, 0 ≤ p.2), 0 ≤ sumR r (fun _ => 1) ∧ ∀ p ∈ r, p.2 ≤ sumR r fun _ => 1
  | [], _ => ⟨Int.le_refl 0, fun p hp => by cases hp⟩
  | q :: r, h => by
    obtain ⟨h1, h2⟩ := sumR_le (r := r) fun p hp => h p (List.mem_cons_of_mem _ hp)
    have h0 := h q List.mem_cons_self
    rw [sumR, Int.mul_one]
    refine ⟨by omega, fun p hp => ?_⟩
    rcases List.mem_cons.mp hp with rfl | hp
    · omega
    · have := h2 p hp; omega
/-- what laid_together tells: the row, its words in order -/
structure Lt (u v : List Int) (r : Row) : Prop where
  sm : ∀ f, sumR r f = Lh u v f
  ln : ∀ p ∈ r, p.1.length ≤ u.length + v.length
  lt : ∀ p ∈ r, ∀ x ∈ p.1, x ∈ u ∨ x ∈ v
  few : r.length ≤ 3 ^ (u.length + v.length)
  tm : ∀ p ∈ r, 0 ≤ p.2 ∧ p.2 ≤ 3 ^ (u.length + v.length)
def unI : List Int × D → List Int × Int := fun x => (x.1, match x.2 with | .int i => i | _ => 0)
theorem sort_row (r : Row) : ∃ r' : Row, r'.Perm r ∧ (DL.sortW (keysR r) (rowDs r)).map pairW = r'.map fun p => D.tup [wordD p.1, .int p.2] := by
  have hz : (keysR r).zip (rowDs r) = r.map fun p => (p.1, D.int p.2) := by
    unfold keysR rowDs
    rw [List.zip_map']
  have pm : (DL.sortW (keysR r) (rowDs r)).Perm (r.map fun p => (p.1, D.int p.2)) := by
    unfold DL.sortW
    rw [hz]
    exact List.mergeSort_perm _ _
  refine ⟨(DL.sortW (keysR r) (rowDs r)).map unI, ?_, ?_⟩
  · have := pm.map unI
    rw [List.map_map] at this
    refine this.trans (List.Perm.of_eq ?_)
    conv => rhs; rw [← List.map_id r]
    exact List.map_congr_left fun p _ => rfl
  · rw [List.map_map]
    refine List.map_congr_left fun x hx => ?_
    obtain ⟨p, _, rfl⟩ := List.mem_map.mp (pm.mem_iff.mp hx)
    rfl
theorem Ld.told {u v : List Int} {r r' : Row} (h : Ld u v r) (p : r'.Perm r) : Lt u v r' := by
  refine ⟨fun f => (sumR_perm p f).trans (h.sm f), fun q hq => h.ln _ (List.mem_map.mpr ⟨q, p.mem_iff.mp hq, rfl⟩), fun q hq => h.lt _ (List.mem_map.mpr ⟨q, p.mem_iff.mp hq, rfl⟩), by rw [p.length_eq]; exact h.few, fun q hq => ?_⟩
  have hq := p.mem_iff.mp hq
  refine ⟨h.pos q hq, Int.le_trans ((sumR_le h.pos).2 q hq) ?_⟩
  rw [h.sm]
  exact Lh_pos1 _ u v (Nat.le_refl _)
theorem c_laid_together {u v : List Int} (n8 : u.length + v.length ≤ 8) {l : LH} {Q : DK} {x y : D} (hx : Hd x u) (hy : Hd y v) (q : ∀ r, Lt u v r → Q (.lst (r.map fun p => D.tup [wordD p.1, .int p.2])) l) : callD D_laid_together [x, y] l Q := by
  refine ⟨rfl, ?_⟩
  rcases hx with rfl | rfl <;> rcases hy with rfl | rfl
  all_goals
    walk_at "w"
    refine c_laid_counts 12 u v (by omega) n8 fun r hr => ?_
    walk_at "w"
    walk_at "s"
    refine ⟨keysR r, rowKs_keys r, fun w hw => by have := hr.ln w hw; omega, ?_⟩
    obtain ⟨r', hp, e⟩ := sort_row r
    rw [e]
    exact q r' (hr.told hp)

end Law

namespace Law
open PySem PySem.Spec PyProof.Rows L2 DL
local macro_rules | `(tactic| walk_at "w") => `(tactic| conv => whnf)
local macro_rules | `(tactic| walk_at "s") => `(tactic| (refine ⟨?_⟩; conv => whnf))
local macro_rules | `(tactic| walk_at "z") => `(tactic| (refine small ?_; simp only [List.length_map, List.length_append, List.length_reverse, List.length_cons, List.length_nil]; omega))
local macro_rules | `(tactic| walk_at "q") => `(tactic| (refine ⟨(okN_tints _).ok, (okN_tints _).ok, ?_⟩; rw [eqD_tints]))
theorem HdL.tu {w : List Int} {l : LH} : HdL (.tup (w.map D.int)) w l := .inl (Hd.t w)
/-! a number -/
theorem sg_abs {x s : Int} (h0 : 0 ≤ s) (h1 : s < 2) : (x * (1 - 2 * s)).natAbs = x.natAbs := by
  have : s = 0 ∨ s = 1 := by omega
  rcases this with rfl | rfl
  · simp
  · rw [Int.natAbs_mul]; simp
theorem number_loop {a : Addr} {e1 e2 : Option D} {E : DEnds} : ∀ (n : Nat) {lo : Int} {k : Nat} {l : LH} {f : Int} {e4 : Option D}, Box l a k → k + n < 2 ^ 39 →
    (∀ f l' e4, Box l' a (k + n) → Oth l l' a → E.nx [some (.ref a), e1, e2, some (.int f), e4] l') →
    forL (gName 4) (nS B__law_number_1) (rgD lo n) E [some (.ref a), e1, e2, some (.int f), e4] l
  | 0, lo, k, l, f, e4, hb, _, h => h _ _ _ hb Oth.refl
  | n + 1, lo, k, l, f, e4, hb, hk, h => by
    rw [rgD_succ]
    refine ⟨?_⟩
    walk_at "w"
    refine ⟨⟨by decide, by decide, by decide⟩, ?_⟩
    walk_at "w"
    refine ⟨mulR (by decide) (by decide), ?_⟩
    walk_at "w"
    refine ⟨⟨by decide, by decide, by decide⟩, ?_⟩
    walk_at "w"
    refine c_take hb (by decide) (by decide) (by omega) fun r l1 r0 r1 hb1 o1 => ?_
    refine number_loop n hb1 (by omega) fun f l2 e4 hb2 o2 => ?_
    exact h f l2 e4 (by rw [show k + (n + 1) = k + 1 + n by omega]; exact hb2) (o1.trans o2)
theorem c_number {a : Addr} {k : Nat} {l : LH} {Q : DK} (hb : Box l a k) (hk : k < 2 ^ 38) (h : ∀ (n : Int) l', n.natAbs < 10 ^ 60 → Box l' a (k + 10) → Oth l l' a → Q (.int n) l') : callD D__law_number [.ref a] l Q := by
  refine ⟨rfl, ?_⟩
  walk_at "w"
  refine c_take hb (by decide) (by decide) (by omega) fun way l1 w0 w1 hb1 o1 => ?_
  walk_at "w"
  refine c_take hb1 (by decide) (by decide) (by omega) fun s l2 s0 s1 hb2 o2 => ?_
  walk_at "w"
  refine ⟨mulL (by decide) (by decide), ?_⟩
  have O := o1.trans o2
  have sm1 : -(2 ^ 64) < 1 - 2 * s := by omega
  have sm2 : 1 - 2 * s < 2 ^ 64 := by omega
  walk_at "w"
  walk_at "s"
  refine ifB_dec (fun hw => ?_) (fun hw => ?_)
  · walk_at "w"
    refine ⟨mulR sm1 sm2, h _ _ ?_ (hb2.le (by omega)) O⟩
    rw [sg_abs s0 s1]
    omega
  walk_at "w"
  walk_at "s"
  refine ifB_dec (fun hw2 => ?_) (fun hw2 => ?_)
  · walk_at "w"
    refine ⟨⟨by decide, by decide, by decide⟩, ?_⟩
    walk_at "w"
    refine ⟨by show 3 ≤ sizeLine; decide, ?_⟩
    have cs : way = 2 ∨ way = 3 ∨ way = 4 := by omega
    rcases cs with rfl | rfl | rfl
    all_goals
      refine ⟨_, rfl, ?_⟩
      refine c_take hb2 (by decide) (by decide) (by omega) fun t l3 t0 t1 hb3 o3 => ?_
      walk_at "w"
      refine ⟨mulR sm1 sm2, h _ _ ?_ (hb3.le (by omega)) (O.trans o3)⟩
      rw [sg_abs s0 s1]
      have t1 : t < 1000000 := Int.lt_of_lt_of_le t1 (by decide)
      omega
  walk_at "w"
  walk_at "s"
  refine ⟨⟨by decide, by decide⟩, ?_⟩
  refine number_loop 7 hb2 (by omega) fun f l3 e4 hb3 o3 => ⟨?_⟩
  walk_at "w"
  refine ⟨⟨by decide, by decide, by decide⟩, ?_⟩
  walk_at "w"
  refine ⟨by decide, ?_⟩
  walk_at "w"
  refine ⟨mulR sm1 sm2, h _ _ ?_ (hb3.le (by omega)) (O.trans o3)⟩
  have e1 : (10 : Int) ^ (60 : Int).toNat - 9 = 10 ^ 60 - 9 := by decide
  rw [sg_abs s0 s1, e1]
  have a1 : 0 ≤ f % (10 ^ 60 - 9) := Int.emod_nonneg _ (by decide)
  have a2 : f % (10 ^ 60 - 9) < 10 ^ 60 - 9 := Int.emod_lt_of_pos _ (by decide)
  omega
/-! pairs of words that have no more letters together than the depth -/
def PrOk (a d : Nat) (p : List Int × List Int) : Prop := p.1 ∈ wordsG a d ∧ p.2 ∈ wordsG a d ∧ p.1.length + p.2.length ≤ d
def prD (p : List Int × List Int) : D := .tup [wordD p.1, wordD p.2]
theorem pairs_comp {d : Nat} {u : List Int} {e0 e1 e3 e5 e6 e8 : Option D} : ∀ (ws : List (List Int)) {e7 : Option D} {l : LH} {Q : List D → LH → Prop}, Q ((ws.filter fun w => decide (u.length + w.length ≤ d)).map fun w => prD (u, w)) l →
    compL (gName 7) (dTV (dLe (dAdd (dCall kLen (aCons (dVar 4) aNil)) (dCall kLen (aCons (dVar 7) aNil))) (dVar 2))) (nE C__law_pairs_1) [7] (ws.map wordD) [e0, e1, some (.int (d : Nat)), e3, some (wordD u), e5, e6, e7, e8] l Q
  | [], e7, l, Q, q => q
  | w :: ws, e7, l, Q, q => by
    rw [List.map_cons]
    walk_at "w"
    rw [List.length_map, List.length_map]
    rw [List.filter_cons] at q
    refine ifB_dec (fun e => ?_) (fun e => ?_)
    · rw [if_pos (decide_eq_true (by omega))] at q
      refine ⟨?_⟩
      walk_at "w"
      refine ⟨show 2 ≤ sizeLine by decide, ?_⟩
      exact pairs_comp ws q
    · rw [if_neg (by rw [decide_eq_false (by omega)]; decide)] at q
      exact pairs_comp ws q
theorem some_comp {d : Nat} {u : List Int} {e0 e1 e3 e5 e6 e7 : Option D} : ∀ (ws : List (List Int)) {e8 : Option D} {l : LH} {Q : List D → LH → Prop}, Q ((ws.filter fun w => decide (u.length + w.length ≤ d)).map wordD) l →
    compL (gName 8) (dTV (dLe (dAdd (dCall kLen (aCons (dVar 4) aNil)) (dCall kLen (aCons (dVar 8) aNil))) (dVar 2))) (nE C__law_pairs_2) [8] (ws.map wordD) [e0, e1, some (.int (d : Nat)), e3, some (wordD u), e5, e6, e7, e8] l Q
  | [], e7, l, Q, q => q
  | w :: ws, e7, l, Q, q => by
    rw [List.map_cons]
    walk_at "w"
    rw [List.length_map, List.length_map]
    rw [List.filter_cons] at q
    refine ifB_dec (fun e => ?_) (fun e => ?_)
    · rw [if_pos (decide_eq_true (by omega))] at q
      refine ⟨?_⟩
      walk_at "w"
      exact some_comp ws q
    · rw [if_neg (by rw [decide_eq_false (by omega)]; decide)] at q
      exact some_comp ws q
theorem all_loop {a d : Nat} {e0 : Option D} {all : List (List Int)} (hall : all.length ≤ 16) (hm : ∀ w ∈ all, w ∈ wordsG a d) {E : DEnds} {e5 e6 e8 : Option D} : ∀ (ws : List (List Int)) {ps : List (List Int × List Int)} {t0 : Addr} {l : LH} {e4 e7 : Option D}, (∀ w ∈ ws, w ∈ wordsG a d) → ps.length + 16 * ws.length ≤ 300 → (∀ p ∈ ps, PrOk a d p) → l t0 = some (.lst (ps.map prD)) →
    (∀ (ps : List (List Int × List Int)) t l' e4 e7, ps.length ≤ 300 → (∀ p ∈ ps, PrOk a d p) → l' t = some (.lst (ps.map prD)) → (∀ z o, z ≠ t0 → l z = some o → l' z = some o) → (t = t0 ∨ l t = none) → E.nx [e0, some (.lst (all.map wordD)), some (.int (d : Nat)), some (.ref t), e4, e5, e6, e7, e8] l') →
    forL (gName 4) (nS B__law_pairs_1) (ws.map wordD) E [e0, some (.lst (all.map wordD)), some (.int (d : Nat)), some (.ref t0), e4, e5, e6, e7, e8] l
  | [], ps, t, l, e4, e7, hw, hz, hp, ht, h => h ps t l _ _ (by omega) hp ht (fun _ _ _ h => h) (.inl rfl)
  | w :: ws, ps, t, l, e4, e7, hw, hz, hp, ht, h => by
    rw [List.length_cons] at hz
    rw [List.map_cons]
    refine ⟨?_⟩
    walk_at "w"
    refine ⟨_, ht, ?_⟩
    refine ⟨by rw [List.length_map]; exact small (by omega), ?_⟩
    refine pairs_comp all ?_
    have lf : (all.filter fun v => decide (w.length + v.length ≤ d)).length ≤ 16 := Nat.le_trans (List.length_filter_le _ _) hall
    walk_at "w"
    refine ⟨by rw [List.length_map, List.length_map]; exact small (by omega), ?_⟩
    intro t2 nt2
    have e : ps.map prD ++ (all.filter fun v => decide (w.length + v.length ≤ d)).map (fun v => prD (w, v)) = (ps ++ (all.filter fun v => decide (w.length + v.length ≤ d)).map fun v => (w, v)).map prD := by
      rw [List.map_append, List.map_map]
      rfl
    rw [e]
    walk_at "w"
    refine all_loop hall hm ws (fun v hv => hw v (List.mem_cons_of_mem _ hv)) (by rw [List.length_append, List.length_map]; omega) (fun p hp' => ?_) uL_same fun ps' t' l' e4 e7 h1 h2 h3 h4 h5 => h ps' t' l' _ _ h1 h2 h3 (fun z o zt hz => ?_) (.inr ?_)
    · rcases List.mem_append.mp hp' with z | z
      · exact hp p z
      · obtain ⟨v, hv, rfl⟩ := List.mem_map.mp z
        obtain ⟨v1, v2⟩ := List.mem_filter.mp hv
        exact ⟨hw w List.mem_cons_self, hm v v1, of_decide_eq_true v2⟩
    · have z2 : z ≠ t2 := fun q => by
        have := (uL_ne (o := .fz (.lst (ps.map prD))) zt).trans hz
        rw [q, nt2] at this
        cases this
      exact h4 z o z2 ((uL_ne z2).trans ((uL_ne zt).trans hz))
    · have gone : ∀ z, uL l t (.fz (.lst (ps.map prD))) z = none → l z = none := fun z hz => by
        by_cases e : z = t
        · rw [e, uL_same] at hz; cases hz
        · rwa [uL_ne e] at hz
      rcases h5 with z | z
      · rw [z]; exact gone _ nt2
      · by_cases e : t' = t2
        · rw [e]; exact gone _ nt2
        · rw [uL_ne e] at z; exact gone _ z
theorem some_loop {a d : Nat} {x : Addr} {all : List (List Int)} (n1 : 1 ≤ all.length) (n2 : all.length ≤ 4000) (hm : ∀ w ∈ all, w ∈ wordsG a d) (h0 : [] ∈ all) {t : Addr} (xt : x ≠ t) {E : DEnds} {e7 : Option D} : ∀ (n : Nat) {i : Int} {k : Nat} {ps : List (List Int × List Int)} {l : LH} {e4 e5 e6 e8 : Option D}, Box l x k → k + 2 * n < 2 ^ 28 → ps.length + n ≤ 300 → (∀ p ∈ ps, PrOk a d p) → l t = some (.lst (ps.map prD)) →
    (∀ (ps : List (List Int × List Int)) l' k' e4 e5 e6 e8, ps.length ≤ 300 → (∀ p ∈ ps, PrOk a d p) → l' t = some (.lst (ps.map prD)) → Box l' x k' → k' ≤ k + 2 * n → (∀ z, z ≠ x → z ≠ t → l' z = l z) → E.nx [some (.ref x), some (.lst (all.map wordD)), some (.int (d : Nat)), some (.ref t), e4, e5, e6, e7, e8] l') →
    forL (gName 5) (nS B__law_pairs_2) (rgD i n) E [some (.ref x), some (.lst (all.map wordD)), some (.int (d : Nat)), some (.ref t), e4, e5, e6, e7, e8] l
  | 0, i, k, ps, l, e4, e5, e6, e8, hb, hk, hz, hp, ht, h => h ps l k _ _ _ _ (by omega) hp ht hb (by omega) fun z _ _ => rfl
  | n + 1, i, k, ps, l, e4, e5, e6, e8, hb, hk, hz, hp, ht, h => by
    rw [rgD_succ]
    refine ⟨?_⟩
    walk_at "w"
    rw [List.length_map]
    refine c_take hb (by omega) (by omega) (by omega) fun r l1 r0 r1 hb1 o1 => ?_
    obtain ⟨r, rfl⟩ := Int.eq_ofNat_of_zero_le r0
    obtain ⟨w, hw⟩ : ∃ w, all[r]? = some w := ⟨_, List.getElem?_eq_getElem (by omega)⟩
    refine ⟨_, atI_nat (j := r) (by rw [List.getElem?_map, hw]; rfl), ?_⟩
    walk_at "w"
    refine ⟨by rw [List.length_map]; exact small (by omega), ?_⟩
    refine some_comp all ?_
    have w0 : w.length ≤ d := by
      obtain ⟨_, q, _⟩ := wordsF_mem (hm w (List.mem_of_getElem? hw))
      omega
    have fl : (all.filter fun v => decide (w.length + v.length ≤ d)).length ≤ 4000 := Nat.le_trans (List.length_filter_le _ _) n2
    have f1 : 1 ≤ (all.filter fun v => decide (w.length + v.length ≤ d)).length := List.length_pos_of_mem (List.mem_filter.mpr ⟨h0, decide_eq_true (by simp only [List.length_nil]; omega)⟩)
    have fm : ∀ v ∈ all.filter fun v => decide (w.length + v.length ≤ d), v ∈ all ∧ w.length + v.length ≤ d := fun v hv => ⟨(List.mem_filter.mp hv).1, of_decide_eq_true (List.mem_filter.mp hv).2⟩
    generalize (all.filter fun v => decide (w.length + v.length ≤ d)) = vs at fl f1 fm
    walk_at "w"
    have ht1 : l1 t = some (.lst (ps.map prD)) := (o1 t (Ne.symm xt)).trans ht
    refine ⟨_, ht1, ?_⟩
    walk_at "w"
    rw [List.length_map]
    refine c_take hb1 (by omega) (by omega) (by omega) fun s l2 s0 s1 hb2 o2 => ?_
    obtain ⟨s, rfl⟩ := Int.eq_ofNat_of_zero_le s0
    obtain ⟨v, hv⟩ : ∃ v, vs[s]? = some v := ⟨_, List.getElem?_eq_getElem (by omega)⟩
    have ht2 : l2 t = some (.lst (ps.map prD)) := (o2 t (Ne.symm xt)).trans ht1
    refine ⟨_, atI_nat (j := s) (by rw [List.getElem?_map, hv]; rfl), ?_⟩
    walk_at "w"
    refine ⟨show 2 ≤ sizeLine by decide, ?_⟩
    refine ⟨_, ht2, ?_⟩
    refine ⟨Nat.lt_of_le_of_lt (show (ps.map prD).length ≤ 300 by rw [List.length_map]; omega) (by decide), ?_⟩
    have e : ps.map prD ++ [D.tup [wordD w, wordD v]] = (ps ++ [(w, v)]).map prD := by rw [List.map_append]; rfl
    rw [e]
    obtain ⟨v1, v2⟩ := fm v (List.mem_of_getElem? hv)
    refine some_loop n1 n2 hm h0 xt n (Box.of_same (uL_ne xt) hb2) (by omega) (by rw [List.length_append, List.length_singleton]; omega) (fun p hp' => ?_) uL_same fun ps' l' k' e4 e5 e6 e8 h1 h2 h3 h4 h5 h6 => h ps' l' k' _ _ _ _ h1 h2 h3 h4 (by omega) fun z zx zt => (h6 z zx zt).trans ((uL_ne zt).trans ((o2 z zx).trans (o1 z zx)))
    rcases List.mem_append.mp hp' with z | z
    · exact hp p z
    · rw [List.mem_singleton.mp z]
      exact ⟨hm w (List.mem_of_getElem? hw), hm v v1, v2⟩
theorem wordsG_nil {a d : Nat} (gd : OkG a d) : [] ∈ wordsG a d := by
  show [] ∈ wordsF a 0 (d + 1)
  exact wordsF_of (s := 0) (List.mem_singleton.mpr rfl) (Nat.le_refl _) (by omega)
theorem c_pairs {a d : Nat} (gd : OkG a d) {x : Addr} {k : Nat} {l : LH} {Q : DK} (hb : Box l x k) (hk : k < 2 ^ 27) (q : ∀ (ps : List (List Int × List Int)) l' k', ps.length ≤ 300 → (∀ p ∈ ps, PrOk a d p) → Box l' x k' → k' ≤ k + 60 → (∀ z o, z ≠ x → l z = some o → l' z = some o) → Q (.lst (ps.map prD)) l') :
    callD D__law_pairs [.ref x, .lst ((wordsG a d).map wordD), .int (d : Nat)] l Q := by
  have wl := wordsG_len gd
  have h0 := wordsG_nil gd
  have n1 : 1 ≤ (wordsG a d).length := List.length_pos_of_mem h0
  have hm : ∀ w ∈ wordsG a d, w ∈ wordsG a d := fun w h => h
  generalize hall : wordsG a d = all at wl h0 n1 ⊢
  rw [hall] at hm
  have hm : ∀ w ∈ all, w ∈ wordsG a d := fun w h => by rw [hall]; exact h
  refine ⟨rfl, ?_⟩
  walk_at "w"
  rw [List.length_map]
  refine ifB_dec (fun e => ?_) (fun e => ?_)
  · walk_at "w"
    refine ⟨Nat.zero_le _, ?_⟩
    intro t nt
    have xt : x ≠ t := fun z => by
      obtain ⟨ds, hx⟩ := Box.lst hb
      rw [z, nt] at hx
      cases hx
    walk_at "w"
    refine all_loop (by omega) hm all (ps := []) hm (by simp only [List.length_nil]; omega) (fun p hp => by cases hp) uL_same fun ps t' l' e4 e7 h1 h2 h3 h4 h5 => ?_
    walk_at "w"
    refine ⟨_, h3, ?_⟩
    have nt' : l t' = none := by
      rcases h5 with z | z
      · rw [z]; exact nt
      · by_cases e : t' = t
        · rw [e]; exact nt
        · rwa [uL_ne e] at z
    have kp : ∀ z o, l z = some o → DL.dL l' t' z = some o := fun z o hz => by
      have zt : z ≠ t := fun e => by rw [e, nt] at hz; cases hz
      have zt' : z ≠ t' := fun e => by rw [e, nt'] at hz; cases hz
      unfold DL.dL
      rw [if_neg zt']
      exact h4 z o zt ((uL_ne zt).trans hz)
    obtain ⟨ds, hx⟩ := Box.lst hb
    exact q ps _ k h1 h2 (Box.of_same ((kp _ _ hx).trans hx.symm) hb) (by omega) fun z o _ hz => kp z o hz
  · walk_at "w"
    walk_at "s"
    refine ⟨Nat.zero_le _, ?_⟩
    intro t nt
    have xt : x ≠ t := fun z => by
      obtain ⟨ds, hx⟩ := Box.lst hb
      rw [z, nt] at hx
      cases hx
    walk_at "w"
    walk_at "s"
    refine ⟨by decide, ?_⟩
    refine some_loop n1 (by omega) hm h0 xt 30 (ps := []) (k := k) (Box.of_same (uL_ne xt) hb) (by omega) (by simp only [List.length_nil]; omega) (fun p hp => by cases hp) uL_same fun ps l' k' e4 e5 e6 e8 h1 h2 h3 h4 h5 h6 => ?_
    walk_at "s"
    refine ⟨_, h3, ?_⟩
    refine q ps _ k' h1 h2 ?_ (by omega) fun z o zx hz => ?_
    · refine Box.of_same ?_ h4
      unfold DL.dL
      rw [if_neg xt]
    · have zt : z ≠ t := fun e => by rw [e, nt] at hz; cases hz
      unfold DL.dL
      rw [if_neg zt]
      exact (h6 z zx zt).trans ((uL_ne zt).trans hz)

end Law

namespace Law
open PySem PySem.Spec PyProof.Rows L2 DL
local macro_rules | `(tactic| walk_at "w") => `(tactic| conv => whnf)
local macro_rules | `(tactic| walk_at "s") => `(tactic| (refine ⟨?_⟩; conv => whnf))
local macro_rules | `(tactic| walk_at "z") => `(tactic| (refine small ?_; simp only [List.length_map, List.length_append, List.length_reverse, List.length_cons, List.length_nil]; omega))
local macro_rules | `(tactic| walk_at "q") => `(tactic| (refine ⟨(okN_tints _).ok, (okN_tints _).ok, ?_⟩; rw [eqD_tints]))
/-! the law -/
theorem pairsT_sums (f : List Int → Int) : ∀ ws : List (List Int), pairsT (zipD (ws.map wordD) ((ws.map fun w => f w.reverse).map D.int)) = some (ws.map wkey, (ws.map fun w => f w.reverse).map D.int)
  | [] => rfl
  | w :: ws => by
    have ih := pairsT_sums f ws
    show ((keyT (wordD w)).bind fun q => (pairsT (zipD (ws.map wordD) ((ws.map fun w => f w.reverse).map D.int))).map fun z => (q :: z.1, D.int (f w.reverse) :: z.2)) = _
    rw [ih, keyT_word w]
    rfl
theorem getA_sums (f : List Int → Int) {w : List Int} : ∀ {ws : List (List Int)}, w ∈ ws → getA (ws.map wkey) ((ws.map fun w => f w.reverse).map D.int) (wkey w) = some (.int (f w.reverse))
  | [], h => by cases h
  | v :: ws, h => by
    show (if wkey v = wkey w then some (D.int (f v.reverse)) else getA (ws.map wkey) ((ws.map fun w => f w.reverse).map D.int) (wkey w)) = _
    by_cases e : v = w
    · rw [e, if_pos rfl]
    · rw [if_neg fun q => e (wkey_inj.mp q)]
      exact getA_sums f ((List.mem_cons.mp h).resolve_left fun z => e z.symm)
def foundD (a d : Nat) (f : List Int → Int) : D := .dT ((wordsG a d).map wkey) ((sumsG a d f).map D.int)
theorem wkeys_nd {ws : List (List Int)} (h : ws.Nodup) : (ws.map wkey).Nodup := List.pairwise_map.mpr (h.imp fun e q => e (wkey_inj.mp q))
theorem in_words {a d : Nat} {u v w : List Int} (hu : u ∈ wordsG a d) (hv : v ∈ wordsG a d) (l : w.length ≤ u.length + v.length) (n : u.length + v.length ≤ d) (h : ∀ x ∈ w, x ∈ u ∨ x ∈ v) : w ∈ wordsG a d := by
  obtain ⟨_, _, pu⟩ := wordsF_mem hu
  obtain ⟨_, _, pv⟩ := wordsF_mem hv
  have lu := allL_plain a _ u pu
  have lv := allL_plain a _ v pv
  show w ∈ wordsF a 0 (d + 1)
  exact wordsF_of (s := w.length) (allL_in _ rfl fun x hx => (h x hx).elim (fun z => lu x z) fun z => lv x z) (Nat.zero_le _) (by omega)
structure SumOk (a d : Nat) (f : List Int → Int) : Prop where
  mg : Mg fun w => f w.reverse
  bd : ∀ w ∈ wordsG a d, (f w.reverse).natAbs < 2 ^ 2000
theorem total_comp {a d : Nat} {f : List Int → Int} (S : SumOk a d f) {e0 e1 e2 e3 e4 e5 e6 e7 e8 e9 e11 e12 e13 : Option D} : ∀ (r : Row) {e14 e15 : Option D} {l : LH} {Q : List D → LH → Prop}, (∀ p ∈ r, p.1 ∈ wordsG a d ∧ 0 ≤ p.2 ∧ p.2 < 2 ^ 30) → Q ((r.map fun p => p.2 * f p.1.reverse).map D.int) l →
    compL (gTup 2 (gCons (gName 14) (gCons (gName 15) gNil))) tYes (nE C_law_1) [14, 15] (r.map fun p => D.tup [wordD p.1, .int p.2]) [e0, e1, e2, e3, e4, e5, e6, e7, e8, e9, some (foundD a d f), e11, e12, e13, e14, e15] l Q
  | [], e14, e15, l, Q, h, q => q
  | p :: r, e14, e15, l, Q, h, q => by
    obtain ⟨h1, h2, h3⟩ := h p List.mem_cons_self
    have b := S.bd _ h1
    have ga : getA ((wordsG a d).map wkey) ((sumsG a d f).map D.int) (wkey p.1) = some (.int (f p.1.reverse)) := getA_sums f h1
    rw [List.map_cons]
    walk_at "w"
    refine ⟨rfl, ?_⟩
    walk_at "w"
    refine ifB_true ⟨?_⟩
    walk_at "w"
    refine ⟨_, keyT_word p.1, ?_⟩
    dsimp only
    rw [ga]
    refine ⟨CMulW.ok (wide_mul (a := 30) (b := 2000) (by omega) b (by decide) (by decide) (by decide)), ?_⟩
    exact total_comp S r (fun p hp => h p (List.mem_cons_of_mem _ hp)) q
theorem sum_row (f : List Int → Int) : ∀ r : Row, (r.map fun p => p.2 * f p.1.reverse).sum = sumR r fun w => f w.reverse
  | [] => rfl
  | p :: r => by rw [List.map_cons, List.sum_cons, sum_row f r, sumR]
theorem pow3_lt {n : Nat} (h : n ≤ 5) : (3 : Int) ^ n < 2 ^ 30 := by
  rcases (show n = 0 ∨ n = 1 ∨ n = 2 ∨ n = 3 ∨ n = 4 ∨ n = 5 by omega) with rfl | rfl | rfl | rfl | rfl | rfl <;> decide
theorem pair_loop {a d : Nat} (d5 : d ≤ 5) {f : List Int → Int} (S : SumOk a d f) {E : DEnds} {e0 e1 e2 e3 e4 e5 e6 e7 e8 e9 : Option D} : ∀ (ps : List (List Int × List Int)) {l : LH} {e11 e12 e13 e14 e15 : Option D}, (∀ p ∈ ps, PrOk a d p) →
    (∀ e11 e12 e13 e14 e15, E.nx [e0, e1, e2, e3, e4, e5, e6, e7, e8, e9, some (foundD a d f), e11, e12, e13, e14, e15] l) →
    forL (gTup 2 (gCons (gName 11) (gCons (gName 12) gNil))) (nS B_law_1) (ps.map prD) E [e0, e1, e2, e3, e4, e5, e6, e7, e8, e9, some (foundD a d f), e11, e12, e13, e14, e15] l
  | [], l, e11, e12, e13, e14, e15, hp, h => h _ _ _ _ _
  | p :: ps, l, e11, e12, e13, e14, e15, hp, h => by
    obtain ⟨h1, h2, h3⟩ := hp p List.mem_cons_self
    have gu : getA ((wordsG a d).map wkey) ((sumsG a d f).map D.int) (wkey p.1) = some (.int (f p.1.reverse)) := getA_sums f h1
    have gv : getA ((wordsG a d).map wkey) ((sumsG a d f).map D.int) (wkey p.2) = some (.int (f p.2.reverse)) := getA_sums f h2
    rw [List.map_cons]
    walk_at "w"
    refine ⟨rfl, ⟨?_⟩⟩
    walk_at "w"
    refine c_laid_together (u := p.1) (v := p.2) (by omega) (Hd.t _) (Hd.t _) fun r hr => ?_
    have pl := pow3_lt (show p.1.length + p.2.length ≤ 5 by omega)
    walk_at "w"
    refine ⟨by rw [List.length_map]; exact small (Nat.le_trans hr.few (Nat.le_trans (Nat.pow_le_pow_right (by decide) (show p.1.length + p.2.length ≤ 5 by omega)) (by decide))), ?_⟩
    refine total_comp S r (fun q hq => ?_) ?_
    · obtain ⟨t1, t2⟩ := hr.tm q hq
      exact ⟨in_words h1 h2 (hr.ln q hq) h3 (hr.lt q hq), t1, Int.lt_of_le_of_lt t2 pl⟩
    walk_at "w"
    refine ⟨_, rfl, ?_⟩
    rw [sum_row, hr.sm, ← S.mg.mul]
    walk_at "w"
    refine ⟨_, keyT_word p.1, ?_⟩
    dsimp only
    rw [gu]
    walk_at "w"
    refine ⟨_, keyT_word p.2, ?_⟩
    dsimp only
    rw [gv]
    refine ⟨CMulW.ok (wide_mul (a := 2000) (b := 2000) (S.bd _ h1) (S.bd _ h2) (by decide) (by decide) (by decide)), ?_⟩
    walk_at "w"
    refine ⟨(okN_int _).ok, (okN_int _).ok, ?_⟩
    rw [eqD_int, decide_eq_true rfl]
    refine ifB_false ?_
    exact pair_loop d5 S ps (fun q hq => hp q (List.mem_cons_of_mem _ hq)) h
theorem sum_ok {a d : Nat} (gd : OkG a d) {W : List Int} (rw' : Rw a d 290 W) : SumOk a d (wordF W) := by
  have g := gd.num
  refine ⟨mg_word W, fun w hw => ?_⟩
  obtain ⟨_, h2, _⟩ := wordsF_mem hw
  have h1 := rw'.gr w.reverse (by rw [List.length_reverse]; omega)
  rw [← Nat.pow_mul, List.length_reverse] at h1
  exact Nat.lt_of_le_of_lt h1 (Nat.pow_lt_pow_right (by decide) (Nat.lt_of_le_of_lt (Nat.mul_le_mul_left _ (show w.length ≤ 5 by omega)) (by decide)))
def rest22 : DTS := (sSeq (sIf (dTV (dNe (dCall kLen (aCons (dVar 8) aNil)) (dCall kLen (aCons (dVar 9) aNil)))) (sRet (dC (.bl false))) sNext)
  (sSeq (sSet 10 (dFz 1 (dCall kDictPT (aCons (dLZip (aCons (dVar 9) (aCons (dVar 8) aNil))) aNil))))
  (sFor (iSeq (dDef D__law_pairs (aCons (dVar 3) (aCons (dVar 9) (aCons (dVar 5) aNil))))) (gTup 2 (gCons (gName 11) (gCons (gName 12) gNil)))
  (nS B_law_1))))
theorem rest_ok {a d : Nat} (gd : OkG a d) {W : List Int} (rW : Rw a d 290 W) {x : Addr} {k : Nat} {l : LH} (hb : Box l x k) (hk : k < 2 ^ 27) {E : DEnds} {e0 e1 e2 e4 e6 e7 e10 e11 e12 e13 e14 e15 : Option D}
    (h : ∀ l e10 e11 e12 e13 e14 e15, E.nx [e0, e1, e2, some (.ref x), e4, some (.int (d : Nat)), e6, e7, some (.lst ((sumsG a d (wordF W)).map D.int)), some (.lst ((wordsG a d).map wordD)), e10, e11, e12, e13, e14, e15] l) :
    rest22 E [e0, e1, e2, some (.ref x), e4, some (.int (d : Nat)), e6, e7, some (.lst ((sumsG a d (wordF W)).map D.int)), some (.lst ((wordsG a d).map wordD)), e10, e11, e12, e13, e14, e15] l := by
  have S := sum_ok gd rW
  have gn := gd.num
  have nd := wkeys_nd (wordsG_nd gd)
  have wl := wordsG_len gd
  have pt := pairsT_sums (wordF W) (wordsG a d)
  have sl : (sumsG a d (wordF W)).length = (wordsG a d).length := by unfold sumsG; rw [List.length_map]
  have es : (wordsG a d).map (fun w => wordF W w.reverse) = sumsG a d (wordF W) := rfl
  rw [es] at pt
  have fin : ∀ (ps : List (List Int × List Int)) (l : LH) (e11 e12 e13 e14 e15 : Option D), (∀ p ∈ ps, PrOk a d p) → forL (gTup 2 (gCons (gName 11) (gCons (gName 12) gNil))) (nS B_law_1) (ps.map prD) E [e0, e1, e2, some (.ref x), e4, some (.int (d : Nat)), e6, e7, some (.lst ((sumsG a d (wordF W)).map D.int)), some (.lst ((wordsG a d).map wordD)), some (foundD a d (wordF W)), e11, e12, e13, e14, e15] l := fun ps l e11 e12 e13 e14 e15 hp => pair_loop (by omega) S ps hp fun e11 e12 e13 e14 e15 => h l _ _ _ _ _ _
  unfold foundD at fin
  have cp : ∀ (K : DK) (l : LH), Box l x k → (∀ (ps : List (List Int × List Int)) l', (∀ p ∈ ps, PrOk a d p) → K (.lst (ps.map prD)) l') → callD D__law_pairs [.ref x, .lst ((wordsG a d).map wordD), .int (d : Nat)] l K := fun K l hb q => c_pairs gd hb hk fun ps l' k' h1 h2 h3 h4 h5 => q ps l' h2
  generalize sumsG a d (wordF W) = sums at pt sl fin h ⊢
  generalize wordsG a d = words at wl nd pt sl fin cp h ⊢
  walk_at "w"
  rw [List.length_map, List.length_map, sl]
  refine ⟨(okN_int _).ok, (okN_int _).ok, ?_⟩
  rw [eqD_int, decide_eq_true rfl]
  refine ifB_false ?_
  walk_at "w"
  refine ⟨.inl (by rw [List.length_map]; exact small (by omega)), ?_⟩
  walk_at "w"
  refine ⟨_, pt, nd, ?_⟩
  intro t nt
  walk_at "w"
  refine ⟨_, uL_same, ?_⟩
  rw [dL_new nt]
  walk_at "w"
  refine cp _ _ hb fun ps l' hp => ?_
  exact fin ps l' _ _ _ _ _ hp
theorem law_turns {cs : List Int} {e0 : Option D} {E : DEnds} : ∀ (n i : Nat) {l : LH} {e2 e3 e4 e5 e6 e7 e8 e9 e10 e11 e12 e13 e14 e15 : Option D}, i + n ≤ 900 →
    (∀ l e2 e3 e4 e5 e6 e7 e8 e9 e10 e11 e12 e13 e14 e15, E.nx [e0, some (.lst (cs.map D.int)), e2, e3, e4, e5, e6, e7, e8, e9, e10, e11, e12, e13, e14, e15] l) →
    forL (gName 2) (nS B_law_2) (rgD i n) E [e0, some (.lst (cs.map D.int)), e2, e3, e4, e5, e6, e7, e8, e9, e10, e11, e12, e13, e14, e15] l
  | 0, i, l, e2, e3, e4, e5, e6, e7, e8, e9, e10, e11, e12, e13, e14, e15, hi, h => h _ _ _ _ _ _ _ _ _ _ _ _ _ _ _
  | n + 1, i, l, e2, e3, e4, e5, e6, e7, e8, e9, e10, e11, e12, e13, e14, e15, hi, h => by
    rw [rgD_succ]
    refine ⟨?_⟩
    walk_at "w"
    refine c_box cs (i : Int) l _ (by omega) (by omega) fun x l1 nx B1 o1 => ?_
    walk_at "w"
    refine c_sizes B1 (by decide) fun a d l2 gd B2 o2 => ?_
    have gn := gd.num
    refine ⟨rfl, ?_⟩
    walk_at "w"
    intro g ng
    refine c_Ground_init gd ng fun p c l3 GA s3 _ => ⟨rfl, ?_⟩
    have B3 := Box.sub s3 B2
    walk_at "w"
    refine c_word B3 (by omega) (by omega) (by decide) (by decide) (by omega) fun u l4 hl hw B4 o4 => ?_
    have GA4 := GA.oth o4 (Box.lst B3).choose_spec
    have hu : StepsOf a u := hw
    have ul : u.length ≤ 60 := by omega
    have ru : Rw a d 6 u := ⟨hu, (gr_word d u).le (by omega)⟩
    walk_at "w"
    refine c_scattered gd GA4 hu HdL.tu ?_
    walk_at "w"
    refine ⟨_, GA4.g, rfl, ?_⟩
    refine c_Ground_words gd GA4.g ?_
    walk_at "w"
    refine c_take B4 (by decide) (by decide) (by omega) fun r l5 r0 r1 B5 o5 => ?_
    have GA5 := GA4.oth o5 (Box.lst B4).choose_spec
    walk_at "w"
    refine ⟨(okN_int _).ok, (okN_int _).ok, ?_⟩
    refine ifB_by (fun _ => ?_) (fun _ => ?_)
    · walk_at "w"
      refine c_number B5 (by omega) fun m l6 hm B6 o6 => ?_
      have GA6 := GA5.oth o6 (Box.lst B5).choose_spec
      walk_at "w"
      refine c_sums_repeated gd GA6 (ru.up (by decide)) (n := m) (N := 200) (Nat.le_trans (Nat.le_of_lt hm) (by decide)) (by decide) (.inl (Hd.l _)) ?_
      have rw2 : Rw a d 290 (rpW u m) := (ru.rp gd (n := m) (N := 200) (Nat.le_trans (Nat.le_of_lt hm) (by decide))).up (by decide)
      refine rest_ok gd rw2 B6 (by omega) ?_
      intro l e10 e11 e12 e13 e14 e15
      exact law_turns n (i + 1) (by omega) h
    · refine rest_ok gd (ru.up (by decide)) B5 (by omega) ?_
      intro l e10 e11 e12 e13 e14 e15
      exact law_turns n (i + 1) (by omega) h
theorem law_true (ns : List Int) (hl : ns.length ≤ 63) : D_law [.scr ns] (fun _ => none) fun d _ => d = .bl true := by
  refine ⟨rfl, ?_⟩
  walk_at "w"
  refine c_folded ns 4 (by decide) (by decide) hl _ _ fun cs hc => ?_
  walk_at "w"
  walk_at "s"
  rw [List.length_map]
  obtain ⟨n, hn, e⟩ : ∃ n : Nat, n ≤ 63 ∧ (if ((cs.length : Nat) : Int) > 1 then ((cs.length : Nat) : Int) else 1) = (n : Int) := by
    refine ⟨if cs.length > 1 then cs.length else 1, by split <;> omega, ?_⟩
    split <;> split <;> omega
  rw [e]
  refine ⟨⟨by omega, by omega⟩, ?_⟩
  rw [show ((n : Int)).toNat = n from rfl]
  refine law_turns n 0 (by omega) ?_
  intro l e2 e3 e4 e5 e6 e7 e8 e9 e10 e11 e12 e13 e14 e15
  exact ⟨rfl⟩

end Law

open PySem PySem.W PyProof.Rows
namespace Law
abbrev hR : OpenRow := OpenLaw.row PySem.Challenge.rw_bracketwords_k22_products_of_sums
abbrev hQ : Program := PySem.W.view hR.prog [51]
def hL0 : List PySem.Str := ["_wall", "add_longer", "laid_counts", "laid_together", "BracketError", "NoGround", "chosen", "bare_series", "unit_series", "without_noughts", "scaled_row", "add_words", "add_joined", "many_words", "series_joined", "series_added", "is_bare", "powers_of", "raised_by_powers", "part_of", "series_raised", "next_turnword", "turnwords", "turnwords_turning", "MOST_LETTERS", "MOST_DEPTH", "MOST_BOTH", "longer_words", "Ground", "list_of_series"]
def hL1 : List PySem.Str := ["series_of_sums", "with_letter", "with_back", "series_of_word", "scattered", "sums_repeated", "_law_box", "_law_take", "_law_folded", "_law_sizes", "_law_word", "_law_number", "_law_pairs"]
def hL : List PySem.Str := hL0 ++ hL1
theorem map3 {α β γ δ : Type} {x : Option α} {f : α → β} {g : α → γ} {h : α → δ} {a : β} {b : γ} {c : δ} (h1 : x.map f = some a) (h2 : x.map g = some b) (h3 : x.map h = some c) : x.map (fun s => (f s, g s, h s)) = some (a, b, c) := by
  cases x with
  | none => cases h1
  | some v => cases h1; cases h2; cases h3; rfl
theorem runA (w : World) (os : OsState) : (HeadRun.endF (HeadRun.stepQ (HeadRun.denQ HeadRun.tabQ) hR.prog w) 20000 hR.prog w os).map (fun s => HeadRun.looksF hR.prog (boot_heap w.params) s.abs) = some true := by kernel_rfl
theorem runB (w : World) (os : OsState) : (HeadRun.endF (HeadRun.stepQ (HeadRun.denQ HeadRun.tabQ) hR.prog w) 20000 hR.prog w os).map (fun s => HeadRun.seenQ hQ hL (importedModules hR.prog.main.body) (fun s => xlAt hQ [] s && recOk hR.toRowW.records s) s.abs) = some (openGood hQ hL) := by kernel_rfl
open HeadRun in
theorem left_tab {p q : Program} {loose : List PySem.Str} {Xt : Shared → Bool} {K : Params → Frag} {as ts : List Addr} {ek : ∀ P, as = (K P).map (·.1)} {N M : Nat} (h1 : opening p = plainProg p.main.scope.names) (h2 : Nat.ble 600 N = true) (h3 : ∀ s, fenceModules? p s = some s) (h4 : Nat.ble M N = true)
    (go : ∀ (w : World) (os : OsState), (endF (stepQ (denQ tabQ) p w) M p w os).map (fun s => (looksF p (boot_heap w.params) s.abs, seenQ q loose (importedModules p.main.body) Xt s.abs, (as.map (getT s), ts.map (getT s)))) = some (true, openGood q loose, ((K w.params).map (fun x => some x.2), ts.map fun _ => some (tabObj #[])))) :
    LeftO p q loose Xt (Hook.obs (kmHook K as ek ts)) (Hook.val (kmHook K as ek ts)) N true := by
  refine left_one (M := M) h1 h2 h3 h4 fun w os => ?_
  have ob : ∀ s : SharedT, (as.map (getT s), ts.map (getT s)) = Hook.obs (kmHook K as ek ts) s.abs := fun s => Prod.ext (List.map_congr_left fun a _ => getT_eq s a) (List.map_congr_left fun a _ => getT_eq s a)
  have z := go w os
  simp only [ob] at z
  simp only [endQ_eq, seenQ_eq]
  exact z
end Law
local macro_rules
  | `(tactic| o_headL ($h $k $a $e)) => `(tactic| (refine PySem.W.holds_open (r := Law.hR) (q := Law.hQ) (loose := Law.hL) (Xt := fun s => xlAt Law.hQ [] s && recOk Law.hR.toRowW.records s) (XP := XL Law.hQ []) (Yf := Hook.obs (PySem.W.kmHook $k $a $e [37])) (Ya := Hook.val (PySem.W.kmHook $k $a $e [37])) (YP := Hook.says (PySem.W.kmHook $k $a $e [37])) (N := 20700) ?_ (Hook.of (PySem.W.kmHook $k $a $e [37])) (Hook.keeps (PySem.W.kmHook $k $a $e [37])) (fun s e => xl_of s (Bool.and_eq_true_iff.mp e).1) XL.keeps (by rfl) (by rfl) (by rfl) (fun s e => recFacts_of (Bool.and_eq_true_iff.mp e).2) (by rfl) (by first | assumption | decide +kernel) (by decide +kernel) ⟨rfl, rfl, rfl, rfl, rfl, by decide +kernel⟩ ?_ ?_))
set_option maxHeartbeats 0 in
theorem PySem.Challenge.cw_bracketwords_k22_products_of_sums_holds : PySem.Challenge.rw_bracketwords_k22_products_of_sums.Holds := by
  w_on; o_law; k_headL
  · refine Law.left_tab (M := 20000) (by kernel_rfl) (by rfl) (fun s => by kernel_rfl) (by rfl) ?_
    intro w os
    refine Law.map3 (Law.runA w os) (Law.runB w os) ?_
    kernel_rfl
  · w_witness2
  k_fill
  refine DL.walk_ofT (c := 41) (P0 := 37) (l := PySem.Challenge.rw_bracketwords_k22_products_of_sums) (n := 63) (k := 15) (x := "_law_script") (dsp := Law.D_law) rfl (by decide) rfl ⟨rfl, by decide, by decide⟩ (fun P => by kernel_rfl) (fun P => by kernel_rfl) (fun P => by kernel_rfl) ?F (fun ns hl => Law.law_true ns hl)
  case F =>
    as_aux_lemma =>
    intro w mg fa h KX G hmg
    refine' Law.all_mk (lc0 := 41) (lP0 := 37) KX G hmg ?ca0 ?cp0 ?ch0 ?co0 ?cs0 ?cm0 ?ck0 ?cn0x0 ?cn0x1 ?cn0x2 ?cn0x3 ?cn0x4 ?a0 ?l0 ?c0 ?k0 ?a1 ?l1 ?c1 ?k1 ?a2 ?l2 ?c2 ?k2 ?a3 ?l3 ?c3 ?k3 ?a4 ?l4 ?c4 ?k4 ?a5 ?l5 ?c5 ?k5 ?a6 ?i6 ?l6 ?c6 ?k6 ?a7 ?l7 ?c7 ?k7 ?a8 ?l8 ?c8 ?k8 ?a9 ?i9 ?l9 ?c9 ?k9 ?a10 ?l10 ?c10 ?k10 ?a11 ?l11 ?c11 ?k11 ?a12 ?l12 ?c12 ?k12 ?a13 ?i13 ?l13 ?c13 ?k13 ?a14 ?l14 ?c14 ?k14 ?a15 ?l15 ?c15 ?k15 ?a16 ?l16 ?c16 ?k16 ?a17 ?l17 ?c17 ?k17 ?a18 ?l18 ?c18 ?k18 ?a19 ?l19 ?c19 ?k19 ?a20 ?l20 ?c20 ?k20 ?a21 ?l21 ?c21 ?k21 ?a22 ?l22 ?c22 ?k22 ?a23 ?l23 ?c23 ?k23 ?a24 ?l24 ?c24 ?k24 ?a25 ?l25 ?c25 ?k25 ?a26 ?l26 ?c26 ?k26 ?a27 ?l27 ?c27 ?k27 ?a28 ?l28 ?c28 ?k28 ?a29 ?l29 ?c29 ?k29 ?a30 ?l30 ?c30 ?k30 ?a31 ?l31 ?c31 ?k31 ?a32 ?l32 ?c32 ?k32 ?a33 ?l33 ?c33 ?k33 ?a34 ?l34 ?c34 ?k34 ?a35 ?l35 ?c35 ?k35 ?a36 ?l36 ?c36 ?k36 ?a37 ?l37 ?c37 ?k37 ?a38 ?l38 ?c38 ?k38 ?y0 ?v0 ?v1 ?v2 ?z0 ?z1 ?z2 ?z3 ?z4 ?z5 ?z6 ?z7 ?z8 ?z9 ?z10 ?z11 ?z12 ?z13 ?z14 ?ltb
    (case ca0 => k_is); (case cp0 => k_is); (case ch0 => k_is); (case co0 => k_is); (case cs0 => k_is); (case cm0 => k_is); (case ck0 => k_is); (case cn0x0 => k_is); (case cn0x1 => k_is); (case cn0x2 => k_is); (case cn0x3 => k_is); (case cn0x4 => k_is); (case a0 => k_is); (case l0 => k_is); (case c0 => k_is); (case k0 => k_is); (case a1 => k_is); (case l1 => k_is); (case c1 => k_is); (case k1 => k_is); (case a2 => k_is); (case l2 => k_is); (case c2 => k_is); (case k2 => k_is); (case a3 => k_is); (case l3 => k_is); (case c3 => k_is); (case k3 => k_is); (case a4 => k_is); (case l4 => k_is); (case c4 => k_is); (case k4 => k_is); (case a5 => k_is); (case l5 => k_is); (case c5 => k_is); (case k5 => k_is); (case a6 => k_is); (case i6 => k_is); (case l6 => k_is); (case c6 => k_is); (case k6 => k_is); (case a7 => k_is); (case l7 => k_is); (case c7 => k_is); (case k7 => k_is); (case a8 => k_is); (case l8 => k_is); (case c8 => k_is); (case k8 => k_is); (case a9 => k_is); (case i9 => k_is); (case l9 => k_is); (case c9 => k_is); (case k9 => k_is); (case a10 => k_is); (case l10 => k_is); (case c10 => k_is); (case k10 => k_is); (case a11 => k_is); (case l11 => k_is); (case c11 => k_is); (case k11 => k_is); (case a12 => k_is); (case l12 => k_is); (case c12 => k_is); (case k12 => k_is); (case a13 => k_is); (case i13 => k_is); (case l13 => k_is); (case c13 => k_is); (case k13 => k_is); (case a14 => k_is); (case l14 => k_is); (case c14 => k_is); (case k14 => k_is); (case a15 => k_is); (case l15 => k_is); (case c15 => k_is); (case k15 => k_is); (case a16 => k_is); (case l16 => k_is); (case c16 => k_is); (case k16 => k_is); (case a17 => k_is); (case l17 => k_is); (case c17 => k_is); (case k17 => k_is); (case a18 => k_is); (case l18 => k_is); (case c18 => k_is); (case k18 => k_is); (case a19 => k_is); (case l19 => k_is); (case c19 => k_is); (case k19 => k_is); (case a20 => k_is); (case l20 => k_is); (case c20 => k_is); (case k20 => k_is); (case a21 => k_is); (case l21 => k_is); (case c21 => k_is); (case k21 => k_is); (case a22 => k_is); (case l22 => k_is); (case c22 => k_is); (case k22 => k_is); (case a23 => k_is); (case l23 => k_is); (case c23 => k_is); (case k23 => k_is); (case a24 => k_is); (case l24 => k_is); (case c24 => k_is); (case k24 => k_is); (case a25 => k_is); (case l25 => k_is); (case c25 => k_is); (case k25 => k_is); (case a26 => k_is); (case l26 => k_is); (case c26 => k_is); (case k26 => k_is); (case a27 => k_is); (case l27 => k_is); (case c27 => k_is); (case k27 => k_is); (case a28 => k_is); (case l28 => k_is); (case c28 => k_is); (case k28 => k_is); (case a29 => k_is); (case l29 => k_is); (case c29 => k_is); (case k29 => k_is); (case a30 => k_is); (case l30 => k_is); (case c30 => k_is); (case k30 => k_is); (case a31 => k_is); (case l31 => k_is); (case c31 => k_is); (case k31 => k_is); (case a32 => k_is); (case l32 => k_is); (case c32 => k_is); (case k32 => k_is); (case a33 => k_is); (case l33 => k_is); (case c33 => k_is); (case k33 => k_is); (case a34 => k_is); (case l34 => k_is); (case c34 => k_is); (case k34 => k_is); (case a35 => k_is); (case l35 => k_is); (case c35 => k_is); (case k35 => k_is); (case a36 => k_is); (case l36 => k_is); (case c36 => k_is); (case k36 => k_is); (case a37 => k_is); (case l37 => k_is); (case c37 => k_is); (case k37 => k_is); (case a38 => k_is); (case l38 => k_is); (case c38 => k_is); (case k38 => k_is); (case y0 => k_is); (case v0 => k_is); (case v1 => k_is); (case v2 => k_is); (case z0 => k_is); (case z1 => k_is); (case z2 => k_is); (case z3 => k_is); (case z4 => k_is); (case z5 => k_is); (case z6 => k_is); (case z7 => k_is); (case z8 => k_is); (case z9 => k_is); (case z10 => k_is); (case z11 => k_is); (case z12 => k_is); (case z13 => k_is); (case z14 => k_is); (case ltb => kernel_rfl)
