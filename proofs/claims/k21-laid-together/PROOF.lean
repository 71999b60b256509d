import PyProof.Rows.All
import Wide.All
import OpenK.AllK
import Wide.FinOn
import KE.OsRunLaw
import HandS.ForMost
import HandS.Rev
import HandS.Zip
import HandS.IsInst
import HandS.Wide
import HandS.WideBits
import HandS.TupAny
import HandS.TupMul
import HandS.Conv
import HandS.NoneIn
import KE.KeyNested
import HandS.Lambda
import HandS.EndBits
import KE.KNest
import KE.KNestM
import KE.DataMinMax
import KE.SortData
import HandS.SortKw
import HandS.TupSets
import HandS.Deep
import HandS.DictTup
import HandS.TupLen
import KE.KDictCopyH
import KE.KDictKeyed
import KE.DataCmp
import HandS.DictEq
import KE.GoesEnum
import KE.KDictZip
import KE.GoesMore
import HandS.ListItems
import KE.KTurns
import HandS.Style
import KE.DataAny
import HandS.Zip0
import PyProof.ZipIter
import HandS.SetFor
import HandS.Strs
import HandS.Exc
import HandS.ExcOwn
import HandS.WordsExc
import HandS.TryElse
import KE.KExcIs
import KE.RegKTryMore
import KE.RegKIsAll
import KE.KDictDisplayH
import KE.SortKeyHeap
import PySem.Challenge.RW_bracketwords_k21_laid_together
set_option Elab.async false
set_option linter.all false
set_option maxRecDepth 100000
set_option maxHeartbeats 4000000
/-! DL: a data layer over HandS. Values as trees, the mutable objects apart, readings that compute. -/
namespace DL
open PySem PySem.Spec PyProof.Rows L2

/-- data: what is never written is a tree, what may be written is an address -/
inductive D where
  | non | bl (b : Bool) | int (i : Int) | str (x : Str)
  | tup (ds : List D) | lst (ds : List D)
  | dT (ks : List (List Key)) (ds : List D) | dK (ks : List Key) (ds : List D)
  | scr (ns : List Int)
  | ref (a : Addr)
  | exc (k : Nat) | exc1 (k : Nat) (d : D)
  | kt (ds : List D)

/-- objects that may be written -/
structure Cl where
  name : Str
  fs : List Str
inductive DO where
  | lst (ds : List D) | dT (ks : List (List Key)) (ds : List D) | dK (ks : List Key) (ds : List D) | ins (c : Cl) (ds : List D)
  | dN (o : Obj) (ks ds : List D)
  | fz (d : D)
def isFz : DO → Bool
  | .fz _ => true
  | _ => false

abbrev LH := Addr → Option DO
def uL (l : LH) (a : Addr) (o : DO) : LH := fun b => if b = a then some o else l b
theorem uL_same {l : LH} {a : Addr} {o : DO} : uL l a o a = some o := by unfold uL; rw [if_pos rfl]
theorem uL_ne {l : LH} {a b : Addr} {o : DO} (h : b ≠ a) : uL l a o b = l b := by unfold uL; rw [if_neg h]
theorem uL_uL {l : LH} {a : Addr} {o u : DO} : uL (uL l a o) a u = uL l a u := by
  funext b; unfold uL; split <;> rfl
def dL (l : LH) (a : Addr) : LH := fun b => if b = a then none else l b

/-- the program's own exceptions, numbered, and the field of each -/
def exNames : List Str := ["BracketError", "NoGround", "NoPlace", "TooLong", "NoRules", "NoPut", "BadText", "NoLetter", "NoName", "TooGreat", "BadName", "Ring", "BadRow"]
def exN (k : Nat) : Str := exNames.getD k "BracketError"
def exF (k : Nat) : Str := ["", "", "", "", "", "", "at", "letter", "name", "", "", "ring", "line"].getD k ""
/-- a caught exception of the class cls, its dict at d -/
def ExH (cls : Value) (d : Option Addr) (a : Addr) : HO := .ext fun h => ∃ (oe : Obj) (vs : Array Value), h.get? a = some oe ∧ oe.cls = cls ∧ oe.dict = d ∧ oe.data = .fields vs
mutual
inductive RelD (K : PySem.W.Frag) (F : Hp) : D → V → Prop
  | non : RelD K F .non .non
  | bl (b : Bool) : RelD K F (.bl b) (.bl b)
  | int (i : Int) : RelD K F (.int i) (.int i)
  | str (x : Str) : RelD K F (.str x) (.str x)
  | ref (a : Addr) : RelD K F (.ref a) (.ref a)
  | tup {p : Addr} {vs : List V} {ds : List D} : F p = some (.tup vs) → RelDs K F ds vs → RelD K F (.tup ds) (.ref p)
  | scr {p : Addr} {ns : List Int} : SqL K F p (ns.map V.int) → RelD K F (.scr ns) (.ref p)
  | lst {p : Addr} {vs : List V} {ds : List D} : F p = some (.lst vs) → RelDs K F ds vs → RelD K F (.lst ds) (.ref p)
  | dT {p : Addr} {od : Obj} {vs : List V} {ks : List (List Key)} {ds : List D} : F p = some (.frz od (.dT (ks.zip vs))) → ks.length = vs.length → RelDs K F ds vs → RelD K F (.dT ks ds) (.ref p)
  | dK {p : Addr} {od : Obj} {vs : List V} {ks : List Key} {ds : List D} : F p = some (.frz od (.dK (ks.zip vs))) → ks.length = vs.length → RelDs K F ds vs → RelD K F (.dK ks ds) (.ref p)
  | exc {p C : Addr} {k : Nat} : PySem.W.nsIn K mainGlobals (exN k) = some (some (.ref C)) → F p = some (ExH (.ref C) none p) → RelD K F (.exc k) (.ref p)
  | exc1 {p C dx : Addr} {k : Nat} {d : D} {v : V} : PySem.W.nsIn K mainGlobals (exN k) = some (some (.ref C)) → F p = some (ExH (.ref C) (some dx) p) → F dx = some (.xd [(exF k, v)]) → RelD K F d v → RelD K F (.exc1 k d) (.ref p)
  | kt {p : Addr} {od : Obj} {vs : List V} {ds : List D} : F p = some (.frz od (.tup vs)) → od.cls = .type "tuple" → od.dict = none → RelDs K F ds vs → RelD K F (.kt ds) (.ref p)
inductive RelDs (K : PySem.W.Frag) (F : Hp) : List D → List V → Prop
  | nil : RelDs K F [] []
  | cons {d : D} {ds : List D} {v : V} {vs : List V} : RelD K F d v → RelDs K F ds vs → RelDs K F (d :: ds) (v :: vs)
end

section
variable {K : PySem.W.Frag} {F F' F1 F2 H : Hp}
theorem rd_mono (h : Same F F') {a : Addr} {u : HO} : Rd F a u → Rd F' a u
  | .inl e => .inl (h _ _ e)
  | .inr ⟨o, e⟩ => .inr ⟨o, h _ _ e⟩
theorem sqT_mono (h : Same F F') {a : Addr} {xs : List V} : SqT K F a xs → SqT K F' a xs
  | .inl e => .inl (rd_mono h e)
  | .inr e => .inr e
theorem sqL_mono (h : Same F F') {a : Addr} {xs : List V} : SqL K F a xs → SqL K F' a xs
  | .inl e => .inl (rd_mono h e)
  | .inr e => .inr e
mutual
theorem RelD.mono (h : Same F F') : ∀ {d : D} {v : V}, RelD K F d v → RelD K F' d v
  | _, _, .non => .non
  | _, _, .bl b => .bl b
  | _, _, .int b => .int b
  | _, _, .str b => .str b
  | _, _, .ref b => .ref b
  | _, _, .tup a b => .tup (h _ _ a) (RelDs.mono h b)
  | _, _, .scr a => .scr (sqL_mono h a)
  | _, _, .lst a b => .lst (h _ _ a) (RelDs.mono h b)
  | _, _, .dT a e b => .dT (h _ _ a) e (RelDs.mono h b)
  | _, _, .dK a e b => .dK (h _ _ a) e (RelDs.mono h b)
  | _, _, .exc a e => .exc a (h _ _ e)
  | _, _, .exc1 a e f r => .exc1 a (h _ _ e) (h _ _ f) (RelD.mono h r)
  | _, _, .kt a e f r => .kt (h _ _ a) e f (RelDs.mono h r)
theorem RelDs.mono (h : Same F F') : ∀ {ds : List D} {vs : List V}, RelDs K F ds vs → RelDs K F' ds vs
  | _, _, .nil => .nil
  | _, _, .cons a b => .cons (RelD.mono h a) (RelDs.mono h b)
end
theorem RelDs.length : ∀ {ds : List D} {vs : List V}, RelDs K F ds vs → ds.length = vs.length
  | _, _, .nil => rfl
  | _, _, .cons _ b => by rw [List.length_cons, List.length_cons, b.length]
theorem RelDs.get : ∀ {ds : List D} {vs : List V} {i : Nat} {d : D}, RelDs K F ds vs → ds[i]? = some d → ∃ v, vs[i]? = some v ∧ RelD K F d v
  | _, _, _, _, .nil, e => by simp at e
  | _, _, 0, _, .cons r _, e => by simp at e; subst e; exact ⟨_, rfl, r⟩
  | _, _, i + 1, _, .cons _ t, e => by
    obtain ⟨u, h1, h2⟩ := RelDs.get (i := i) t (by simpa using e)
    exact ⟨u, by simpa using h1, h2⟩
theorem RelDs.append : ∀ {ds es : List D} {vs ws : List V}, RelDs K F ds vs → RelDs K F es ws → RelDs K F (ds ++ es) (vs ++ ws)
  | _, _, _, _, .nil, s => s
  | _, _, _, _, .cons r t, s => .cons r (RelDs.append t s)
theorem RelDs.take : ∀ {ds : List D} {vs : List V} (n : Nat), RelDs K F ds vs → RelDs K F (ds.take n) (vs.take n)
  | _, _, 0, _ => .nil
  | _, _, _ + 1, .nil => .nil
  | _, _, n + 1, .cons r t => .cons r (RelDs.take n t)
theorem RelDs.drop : ∀ {ds : List D} {vs : List V} (n : Nat), RelDs K F ds vs → RelDs K F (ds.drop n) (vs.drop n)
  | _, _, 0, r => r
  | _, _, _ + 1, .nil => .nil
  | _, _, n + 1, .cons _ t => RelDs.drop n t
theorem RelDs.set {d : D} {v : V} (r : RelD K F d v) : ∀ {ds : List D} {vs : List V} (i : Nat), RelDs K F ds vs → RelDs K F (ds.set i d) (vs.set i v)
  | _, _, _, .nil => .nil
  | _, _, 0, .cons _ t => .cons r t
  | _, _, i + 1, .cons q t => .cons q (RelDs.set r i t)
theorem RelDs.reverse : ∀ {ds : List D} {vs : List V}, RelDs K F ds vs → RelDs K F ds.reverse vs.reverse
  | _, _, .nil => .nil
  | _, _, .cons r t => by
    rw [List.reverse_cons, List.reverse_cons]
    exact (RelDs.reverse t).append (.cons r .nil)
theorem RelDs.one {d : D} {vs : List V} (h : RelDs K F [d] vs) : ∃ v, vs = [v] ∧ RelD K F d v := by
  cases h with
  | cons a b => cases b; exact ⟨_, rfl, a⟩
theorem RelDs.two {d e : D} {vs : List V} (h : RelDs K F [d, e] vs) : ∃ v u, vs = [v, u] ∧ RelD K F d v ∧ RelD K F e u := by
  cases h with
  | cons a b =>
    obtain ⟨u, rfl, r⟩ := b.one
    exact ⟨_, u, rfl, a, r⟩
theorem RelDs.ints : ∀ {ns : List Int} {vs : List V}, RelDs K F (ns.map D.int) vs → vs = ns.map V.int
  | [], _, .nil => rfl
  | n :: ns, _, .cons a b => by cases a; rw [RelDs.ints b]; rfl
theorem relDs_ints : ∀ (ns : List Int), RelDs K F (ns.map D.int) (ns.map V.int)
  | [] => .nil
  | n :: ns => .cons (.int n) (relDs_ints ns)
end

/-! ### dicts whose keys are tuples of any depth: numbers, truth values, None -/
mutual
def nkD : D → NestedKey
  | .bl b => .num (if b = true then 1 else 0)
  | .int i => .num i
  | .tup ds => .tup (nksD ds)
  | _ => .none
def nksD : List D → List NestedKey
  | [] => []
  | d :: ds => nkD d :: nksD ds
end
mutual
def nkOk : D → Bool
  | .non => true
  | .bl _ => true
  | .int _ => true
  | .tup ds => nksOk ds
  | _ => false
def nksOk : List D → Bool
  | [] => true
  | d :: ds => nkOk d && nksOk ds
end
/-- a key: a tuple -/
def nkT : D → Bool
  | .tup ds => nksOk ds && decide ((nkD (.tup ds)).depth ≤ 8)
  | _ => false
/-- the object at a is just o -/
def EO (a : Addr) (o : Obj) : HO := .ext fun h => h.get? a = some o
structure NdF (o : Obj) (a : Addr) (ks : List D) (as : List Addr) (vs : List V) : Prop where
  sys : (a == sysModules) = false
  few : ks.length ≤ sizeLine
  len1 : as.length = ks.length
  len2 : vs.length = ks.length
  ok : ∀ k ∈ ks, nkT k = true
  one : (ks.map nkD).Nodup
  dict : o.ExactDict
  es : ∃ (es : Array DictEntry) (ep : Nat) (us : List Value), o.data = .dict es ep ∧ Vals vs us ∧ ∀ (P : Program) (w : World), es.toList = ((ks.map nkD).zip (as.zip us)).map (entryOfKey (nestedKind P w))
theorem tq {K : PySem.W.Frag} {H : Hp} {p : Addr} {vs : List V} (e : H p = some (.tup vs)) : SqT K H p vs := .inl (.inl e)
/-! ### what is held: F never changes, Fr is kept by what runs, l may be written -/
def DOk (K : PySem.W.Frag) (F H : Hp) (a : Addr) : DO → Prop
  | .lst ds => ∃ vs, RelDs K F ds vs ∧ H a = some (.lst vs)
  | .dT ks ds => ∃ vs, RelDs K F ds vs ∧ ks.length = vs.length ∧ H a = some (.dT (ks.zip vs))
  | .dK ks ds => ∃ vs, RelDs K F ds vs ∧ ks.length = vs.length ∧ H a = some (.dK (ks.zip vs))
  | .ins c ds => ∃ C dx vs, RelDs K F ds vs ∧ PySem.W.nsIn K mainGlobals c.name = some (some (.ref C)) ∧ vs.length ≤ c.fs.length ∧ H a = some (.ins C dx (c.fs.zip vs))
  | .dN o ks ds => ∃ (as : List Addr) (vs : List V), RelDs K F ks (as.map V.ref) ∧ RelDs K F ds vs ∧ NdF o a ks as vs ∧ H a = some (EO a o)
  | .fz d => RelD K F d (.ref a) ∧ ∃ u, F a = some u
theorem DOk.mono {K : PySem.W.Frag} {F F' H H' : Hp} {a : Addr} {o : DO} (h : Same F F') (e : H' a = H a) (x : DOk K F H a o) : DOk K F' H' a o := by
  cases o with
  | lst ds => obtain ⟨vs, r, q⟩ := x; exact ⟨vs, r.mono h, e.trans q⟩
  | dT ks ds => obtain ⟨vs, r, n, q⟩ := x; exact ⟨vs, r.mono h, n, e.trans q⟩
  | dK ks ds => obtain ⟨vs, r, n, q⟩ := x; exact ⟨vs, r.mono h, n, e.trans q⟩
  | ins c ds => obtain ⟨C, dx, vs, r, z, n, q⟩ := x; exact ⟨C, dx, vs, r.mono h, z, n, e.trans q⟩
  | dN o ks ds => obtain ⟨as, vs, r, r2, f, q⟩ := x; exact ⟨as, vs, r.mono h, r2.mono h, f, e.trans q⟩
  | fz d => obtain ⟨r, u, q⟩ := x; exact ⟨r.mono h, u, h _ _ q⟩
theorem DOk.there {K : PySem.W.Frag} {F H : Hp} {a : Addr} {o : DO} (s : Same F H) (x : DOk K F H a o) : ∃ u, H a = some u := by
  cases o with
  | lst ds => obtain ⟨vs, r, q⟩ := x; exact ⟨_, q⟩
  | dT ks ds => obtain ⟨vs, r, n, q⟩ := x; exact ⟨_, q⟩
  | dK ks ds => obtain ⟨vs, r, n, q⟩ := x; exact ⟨_, q⟩
  | ins c ds => obtain ⟨C, dx, vs, r, z, n, q⟩ := x; exact ⟨_, q⟩
  | dN o ks ds => obtain ⟨as, vs, r, r2, f, q⟩ := x; exact ⟨_, q⟩
  | fz d => obtain ⟨r, u, q⟩ := x; exact ⟨_, s _ _ q⟩

def isTupO : HO → Bool
  | .tup _ => true
  | .tbl _ => true
  | _ => false
/-! ### tables of code objects -/
def isTblO : HO → Bool
  | .tbl _ => true
  | _ => false
theorem tbl_of {o : HO} (h : isTupO o = false) : isTblO o = false := by
  cases o <;> first | rfl | cases h
def isTC : HO → Bool
  | .tbl _ => true
  | .ext _ => true
  | _ => false
/-- the def that makes lambdas -/
def lamMaker : Str := "laid_together"
def tabOf (K : PySem.W.Frag) : List (Addr × Str) := match PySem.W.tabIn K lamMaker with
  | some q => [(q.2, lamMaker ++ ".<locals>.<lambda>")]
  | none => []
/-- tables and what they tell of stay -/
def KeepT (H H' : Hp) : Prop := ∀ b o, ((∃ ps, o = .tbl ps) ∨ ∃ q, o = LamX.CodeO b q) → H b = some o → H' b = some o
theorem tabS_step {H H' : Hp} {P : Addr} {q : Str} (t : LamX.TabS H P q) (k : KeepT H H') : LamX.TabS H' P q := by
  obtain ⟨ps, h1, h2, h3⟩ := t
  refine ⟨ps, k _ _ (.inl ⟨_, rfl⟩) h1, h2, fun pos cv hc => ?_⟩
  obtain ⟨c, e1, e2⟩ := h3 pos cv hc
  exact ⟨c, e1, k _ _ (.inr ⟨_, rfl⟩) e2⟩
theorem keep_new {H : Hp} {p : Addr} {o : HO} (n : H p = none) : KeepT H (upd H p o) := fun b x _ e => by
  rw [upd_ne (ne_of_none e n)]
  exact e
theorem keep_at {H : Hp} {p : Addr} {o o' : HO} (e : H p = some o) (h : isTC o = false) : KeepT H (upd H p o') := fun b x hx q => by
  have hb : b ≠ p := fun z => by
    subst z
    rw [e] at q
    cases q
    rcases hx with ⟨ps, rfl⟩ | ⟨q, rfl⟩
    · cases h
    · cases h
  rw [upd_ne hb]
  exact q
theorem eo_code {a : Addr} {o : Obj} {q : Str} {es : Array DictEntry} {ep : Nat} (hd : o.data = .dict es ep) : EO a o ≠ LamX.CodeO a q := fun e => by
  have e' := HO.ext.inj e
  have hh : ({ (default : Heap) with objs := Array.replicate (a + 1) o } : Heap).get? a = some o := by
    obtain ⟨c, d, dt, sl⟩ := o
    have hd : dt = Data.dict es ep := hd
    subst hd
    simp [Heap.get?]
  have := (congrFun e' _).mp hh
  obtain ⟨oc, vs, t, h1, h2, _⟩ := this
  rw [hh] at h1
  cases h1
  rw [hd] at h2
  cases h2
theorem DOk.notbl {K : PySem.W.Frag} {F H : Hp} {a : Addr} {o : DO} (x : DOk K F H a o) (nf : isFz o = false) {u : HO} (e : H a = some u) : isTblO u = false := by
  cases o with
  | lst ds => obtain ⟨vs, _, q⟩ := x; rw [e] at q; cases q; rfl
  | dT ks ds => obtain ⟨vs, _, _, q⟩ := x; rw [e] at q; cases q; rfl
  | dK ks ds => obtain ⟨vs, _, _, q⟩ := x; rw [e] at q; cases q; rfl
  | ins c ds => obtain ⟨C, dx, vs, _, _, _, q⟩ := x; rw [e] at q; cases q; rfl
  | dN o ks ds => obtain ⟨as, vs, _, _, _, q⟩ := x; rw [e] at q; cases q; rfl
  | fz d => cases nf
theorem DOk.keep {K : PySem.W.Frag} {F H : Hp} {a : Addr} {o : DO} (x : DOk K F H a o) (nf : isFz o = false) {u : HO} : KeepT H (upd H a u) := by
  cases o with
  | lst ds => obtain ⟨vs, _, q⟩ := x; exact keep_at q rfl
  | dT ks ds => obtain ⟨vs, _, _, q⟩ := x; exact keep_at q rfl
  | dK ks ds => obtain ⟨vs, _, _, q⟩ := x; exact keep_at q rfl
  | ins c ds => obtain ⟨C, dx, vs, _, _, _, q⟩ := x; exact keep_at q rfl
  | dN o ks ds =>
    obtain ⟨as, vs, _, _, f, q⟩ := x
    intro b y hy e
    have hb : b ≠ a := fun z => by
      subst z
      rw [q] at e
      cases e
      rcases hy with ⟨ps, z⟩ | ⟨z, e⟩
      · cases z
      · obtain ⟨es, ep, us, hd, _⟩ := f.es
        exact eo_code hd e
    rw [upd_ne hb]
    exact e
  | fz d => cases nf
structure Rep (K : PySem.W.Frag) (F Fr : Hp) (l : LH) (H : Hp) : Prop where
  fz : Same F H
  fr : Same Fr H
  fd : ∀ a o, Fr a = some o → F a = none ∧ l a = none
  lv : ∀ a o, l a = some o → (isFz o = false → F a = none) ∧ DOk K F H a o
  ft : ∀ a vs, Fr a ≠ some (.tup vs)
  tb : ∀ p ∈ tabOf K, LamX.TabS H p.1 p.2
  nt : ∀ a o, F a = some o → isTblO o = false
  nr : ∀ a o, Fr a = some o → isTblO o = false

section
variable {K : PySem.W.Frag} {F F' F1 F2 Fr H : Hp} {l : LH} {p : Addr}
theorem Rep.F_none (r : Rep K F Fr l H) (n : H p = none) : F p = none := r.fz.free n
theorem Rep.Fr_none (r : Rep K F Fr l H) (n : H p = none) : Fr p = none := r.fr.free n
theorem Rep.l_none (r : Rep K F Fr l H) (n : H p = none) : l p = none := by
  cases q : l p with
  | none => rfl
  | some o =>
    obtain ⟨u, e⟩ := (r.lv p o q).2.there r.fz
    rw [n] at e; cases e
theorem same_upd {H : Hp} {p : Addr} {o : HO} (h : H p = none) : Same H (upd H p o) := fun b x e => by
  rw [upd_ne (ne_of_none e h)]
  exact e
theorem same_upd2 {F H : Hp} {p : Addr} {o : HO} (h : Same F H) : Same (upd F p o) (upd H p o) := fun b x e => by
  by_cases hb : b = p
  · subst hb; rw [upd_same] at e ⊢; exact e
  · rw [upd_ne hb] at e ⊢; exact h b x e
/-- a new object that stays as it is -/
theorem Rep.laid (r : Rep K F Fr l H) (n : H p = none) (o : HO) (ho : isTblO o = false := by rfl) : Rep K (upd F p o) Fr l (upd H p o) where
  fz := same_upd2 r.fz
  fr := fun b x e => by
    rw [upd_ne (fun z => by subst z; rw [r.Fr_none n] at e; cases e)]
    exact r.fr b x e
  fd := fun b x e => by
    have hb : b ≠ p := fun z => by subst z; rw [r.Fr_none n] at e; cases e
    rw [upd_ne hb]
    exact r.fd b x e
  lv := fun b x e => by
    have hb : b ≠ p := fun z => by subst z; rw [r.l_none n] at e; cases e
    obtain ⟨h1, h2⟩ := r.lv b x e
    rw [upd_ne hb]
    exact ⟨h1, h2.mono (same_upd (r.F_none n)) (upd_ne hb)⟩
  ft := r.ft
  tb := fun q hq => tabS_step (r.tb q hq) (keep_new n)
  nt := fun b x e => by
    by_cases hb : b = p
    · subst hb; rw [upd_same] at e; cases e; exact ho
    · rw [upd_ne hb] at e; exact r.nt b x e
  nr := r.nr
/-- a new object that may be written -/
theorem Rep.made (r : Rep K F Fr l H) (n : H p = none) {o : HO} {d : DO} (ok : DOk K F (upd H p o) p d) : Rep K F Fr (uL l p d) (upd H p o) where
  fz := fun b x e => by
    rw [upd_ne (fun z => by subst z; rw [r.F_none n] at e; cases e)]
    exact r.fz b x e
  fr := fun b x e => by
    rw [upd_ne (fun z => by subst z; rw [r.Fr_none n] at e; cases e)]
    exact r.fr b x e
  fd := fun b x e => by
    have hb : b ≠ p := fun z => by subst z; rw [r.Fr_none n] at e; cases e
    rw [uL_ne hb]
    exact r.fd b x e
  lv := fun b x e => by
    by_cases hb : b = p
    · subst hb; rw [uL_same] at e; cases e; exact ⟨fun _ => r.F_none n, ok⟩
    · rw [uL_ne hb] at e
      obtain ⟨h1, h2⟩ := r.lv b x e
      exact ⟨h1, h2.mono (fun _ _ q => q) (upd_ne hb)⟩
  ft := r.ft
  tb := fun q hq => tabS_step (r.tb q hq) (keep_new n)
  nt := r.nt
  nr := r.nr
/-- an object that may be written is -/
theorem Rep.write (r : Rep K F Fr l H) {a : Addr} {o : DO} (h : l a = some o) (nf : isFz o = false) {u : HO} {d : DO} (ok : DOk K F (upd H a u) a d) : Rep K F Fr (uL l a d) (upd H a u) where
  fz := fun b x e => by
    rw [upd_ne (fun z => by subst z; rw [(r.lv b o h).1 nf] at e; cases e)]
    exact r.fz b x e
  fr := fun b x e => by
    rw [upd_ne (fun z => by subst z; rw [(r.fd b x e).2] at h; cases h)]
    exact r.fr b x e
  fd := fun b x e => by
    have hb : b ≠ a := fun z => by subst z; rw [(r.fd b x e).2] at h; cases h
    rw [uL_ne hb]
    exact r.fd b x e
  lv := fun b x e => by
    by_cases hb : b = a
    · subst hb; rw [uL_same] at e; cases e; exact ⟨fun _ => (r.lv b o h).1 nf, ok⟩
    · rw [uL_ne hb] at e
      obtain ⟨h1, h2⟩ := r.lv b x e
      exact ⟨h1, h2.mono (fun _ _ q => q) (upd_ne hb)⟩
  ft := r.ft
  tb := fun q hq => tabS_step (r.tb q hq) ((r.lv a o h).2.keep nf)
  nt := r.nt
  nr := r.nr
theorem DOk.up {F : Hp} {ds : List D} {vs : List V} (r : RelDs K F ds vs) : DOk K F (upd H p (.lst vs)) p (.lst ds) := ⟨vs, r, upd_same⟩
/-- an own object that is kept by what runs: taken up -/
theorem Rep.take (r : Rep K F Fr l H) (n : H p = none) (o : HO) (ho : isTupO o = false := by rfl) : Rep K F (upd Fr p o) l (upd H p o) where
  fz := fun b x e => by
    rw [upd_ne (fun z => by subst z; rw [r.F_none n] at e; cases e)]
    exact r.fz b x e
  fr := same_upd2 r.fr
  fd := fun b x e => by
    by_cases hb : b = p
    · subst hb; exact ⟨r.F_none n, r.l_none n⟩
    · rw [upd_ne hb] at e; exact r.fd b x e
  lv := fun b x e => by
    have hb : b ≠ p := fun z => by subst z; rw [r.l_none n] at e; cases e
    obtain ⟨h1, h2⟩ := r.lv b x e
    exact ⟨h1, h2.mono (fun _ _ q => q) (upd_ne hb)⟩
  ft := fun b vs e => by
    by_cases hb : b = p
    · subst hb; rw [upd_same] at e; cases e; cases ho
    · rw [upd_ne hb] at e; exact r.ft b vs e
  tb := fun q hq => tabS_step (r.tb q hq) (keep_new n)
  nt := r.nt
  nr := fun b x e => by
    by_cases hb : b = p
    · subst hb; rw [upd_same] at e; cases e; exact tbl_of ho
    · rw [upd_ne hb] at e; exact r.nr b x e
theorem Rep.turn (r : Rep K F (upd Fr p o) l H) (o' : HO) (ho : isTupO o' = false := by rfl) (hx : isTC o = false := by rfl) : Rep K F (upd Fr p o') l (upd H p o') where
  fz := fun b x e => by
    rw [upd_ne (fun z => by subst z; rw [(r.fd b o upd_same).1] at e; cases e)]
    exact r.fz b x e
  fr := fun b x e => by
    by_cases hb : b = p
    · subst hb; rw [upd_same] at e ⊢; exact e
    · rw [upd_ne hb] at e ⊢
      exact r.fr b x (by rw [upd_ne hb]; exact e)
  fd := fun b x e => by
    by_cases hb : b = p
    · subst hb; exact r.fd b o upd_same
    · rw [upd_ne hb] at e; exact r.fd b x (by rw [upd_ne hb]; exact e)
  lv := fun b x e => by
    have hb : b ≠ p := fun z => by subst z; rw [(r.fd b o upd_same).2] at e; cases e
    obtain ⟨h1, h2⟩ := r.lv b x e
    exact ⟨h1, h2.mono (fun _ _ q => q) (upd_ne hb)⟩
  ft := fun b vs e => by
    by_cases hb : b = p
    · subst hb; rw [upd_same] at e; cases e; cases ho
    · rw [upd_ne hb] at e; exact r.ft b vs (by rw [upd_ne hb]; exact e)
  tb := fun q hq => tabS_step (r.tb q hq) (keep_at (r.fr _ _ upd_same) hx)
  nt := r.nt
  nr := fun b x e => by
    by_cases hb : b = p
    · subst hb; rw [upd_same] at e; cases e; exact tbl_of ho
    · rw [upd_ne hb] at e; exact r.nr b x (by rw [upd_ne hb]; exact e)
/-- given out as what never changes -/
theorem Rep.give (r : Rep K F (upd Fr p o) l H) (n : Fr p = none) : Rep K (upd F p o) Fr l H where
  fz := fun b x e => by
    by_cases hb : b = p
    · subst hb; rw [upd_same] at e; exact r.fr b x (by rw [upd_same]; exact e)
    · rw [upd_ne hb] at e; exact r.fz b x e
  fr := fun b x e => by
    have hb : b ≠ p := fun z => by subst z; rw [n] at e; cases e
    exact r.fr b x (by rw [upd_ne hb]; exact e)
  fd := fun b x e => by
    have hb : b ≠ p := fun z => by subst z; rw [n] at e; cases e
    rw [upd_ne hb]
    exact r.fd b x (by rw [upd_ne hb]; exact e)
  lv := fun b x e => by
    have hb : b ≠ p := fun z => by subst z; rw [(r.fd b o upd_same).2] at e; cases e
    obtain ⟨h1, h2⟩ := r.lv b x e
    rw [upd_ne hb]
    exact ⟨h1, h2.mono (same_upd (r.fd p o upd_same).1) rfl⟩
  ft := fun b vs e => by
    have hb : b ≠ p := fun z => by subst z; rw [n] at e; cases e
    exact r.ft b vs (by rw [upd_ne hb]; exact e)
  tb := r.tb
  nt := fun b x e => by
    by_cases hb : b = p
    · subst hb; rw [upd_same] at e; cases e; exact r.nr b _ upd_same
    · rw [upd_ne hb] at e; exact r.nt b x e
  nr := fun b x e => r.nr b x (by rw [upd_ne (fun z => by subst z; rw [n] at e; cases e)]; exact e)
/-- given out as what may be written -/
theorem Rep.giveL (r : Rep K F (upd Fr p o) l H) (n : Fr p = none) {d : DO} (ok : DOk K F H p d) : Rep K F Fr (uL l p d) H where
  fz := r.fz
  fr := fun b x e => by
    have hb : b ≠ p := fun z => by subst z; rw [n] at e; cases e
    exact r.fr b x (by rw [upd_ne hb]; exact e)
  fd := fun b x e => by
    have hb : b ≠ p := fun z => by subst z; rw [n] at e; cases e
    rw [uL_ne hb]
    exact r.fd b x (by rw [upd_ne hb]; exact e)
  lv := fun b x e => by
    by_cases hb : b = p
    · subst hb; rw [uL_same] at e; cases e; exact ⟨fun _ => (r.fd b o upd_same).1, ok⟩
    · rw [uL_ne hb] at e; exact r.lv b x e
  ft := fun b vs e => by
    have hb : b ≠ p := fun z => by subst z; rw [n] at e; cases e
    exact r.ft b vs (by rw [upd_ne hb]; exact e)
  tb := r.tb
  nt := r.nt
  nr := fun b x e => r.nr b x (by rw [upd_ne (fun z => by subst z; rw [n] at e; cases e)]; exact e)
/-- what may be written is from now on never written -/
theorem Rep.freeze (r : Rep K F Fr l H) {a : Addr} {o : DO} (h : l a = some o) (nf : isFz o = false) {u : HO} (e : H a = some u) : Rep K (upd F a u) Fr (dL l a) H where
  fz := fun b x q => by
    by_cases hb : b = a
    · subst hb; rw [upd_same] at q; cases q; exact e
    · rw [upd_ne hb] at q; exact r.fz b x q
  fr := r.fr
  fd := fun b x q => by
    have hb : b ≠ a := fun z => by subst z; rw [(r.fd b x q).2] at h; cases h
    unfold dL
    rw [upd_ne hb, if_neg hb]
    exact r.fd b x q
  lv := fun b x q => by
    unfold dL at q
    by_cases hb : b = a
    · rw [if_pos hb] at q; cases q
    · rw [if_neg hb] at q
      obtain ⟨h1, h2⟩ := r.lv b x q
      exact ⟨fun z => by rw [upd_ne hb]; exact h1 z, h2.mono (same_upd ((r.lv a o h).1 nf)) rfl⟩
  ft := r.ft
  tb := r.tb
  nt := fun b x q => by
    by_cases hb : b = a
    · subst hb; rw [upd_same] at q; cases q; exact (r.lv b o h).2.notbl nf e
    · rw [upd_ne hb] at q; exact r.nt b x q
  nr := r.nr
/-- a tuple that is there is kept -/
theorem Rep.tupIn (r : Rep K F Fr l H) {q : Addr} {vs : List V} (e : H q = some (.tup vs)) : ∃ F', Same F F' ∧ F' q = some (.tup vs) ∧ Rep K F' Fr l H := by
  cases hq : F q with
  | some u =>
    have := r.fz q u hq
    rw [e] at this; cases this
    exact ⟨F, Same.refl F, hq, r⟩
  | none =>
    refine ⟨upd F q (.tup vs), same_upd hq, upd_same, ?_⟩
    exact {
      fz := fun b x z => by
        by_cases hb : b = q
        · subst hb; rw [upd_same] at z; cases z; exact e
        · rw [upd_ne hb] at z; exact r.fz b x z
      fr := r.fr
      fd := fun b x z => by
        have hb : b ≠ q := fun w => by
          subst w
          have := r.fr b x z
          rw [e] at this; cases this
          exact r.ft _ _ z
        rw [upd_ne hb]
        exact r.fd b x z
      lv := fun b x z => by
        obtain ⟨h1, h2⟩ := r.lv b x z
        refine ⟨fun nf => ?_, h2.mono (same_upd hq) rfl⟩
        have hb : b ≠ q := fun w => by
          subst w
          cases x with
          | lst ds => obtain ⟨vs, _, q⟩ := h2; rw [e] at q; cases q
          | dT ks ds => obtain ⟨vs, _, _, q⟩ := h2; rw [e] at q; cases q
          | dK ks ds => obtain ⟨vs, _, _, q⟩ := h2; rw [e] at q; cases q
          | ins c ds => obtain ⟨C, dx, vs, _, _, _, q⟩ := h2; rw [e] at q; cases q
          | dN o ks ds => obtain ⟨as, vs, _, _, _, q⟩ := h2; rw [e] at q; cases q
          | fz d => cases nf
        rw [upd_ne hb]
        exact h1 nf
      ft := r.ft
      tb := r.tb
      nt := fun b x z => by
        by_cases hb : b = q
        · subst hb; rw [upd_same] at z; cases z; rfl
        · rw [upd_ne hb] at z; exact r.nt b x z
      nr := r.nr }
end
end DL

namespace DL
open PySem PySem.Spec PyProof.Rows L2

abbrev St := L2.St
/-! ### slots -/
abbrev DSt := List (Option D)
def RepE (K : PySem.W.Frag) (F : Hp) : DSt → St → Prop
  | [], [] => True
  | some d :: e, some v :: σ => RelD K F d v ∧ RepE K F e σ
  | none :: e, _ :: σ => RepE K F e σ
  | _, _ => False
def nthE : DSt → Nat → Option D
  | [], _ => none
  | x :: _, 0 => x
  | _ :: r, n + 1 => nthE r n
def setK : DSt → Nat → D → (DSt → Prop) → Prop
  | [], _, _, k => k []
  | _ :: r, 0, d, k => k (some d :: r)
  | x :: r, n + 1, d, k => setK r n d (fun r' => k (x :: r'))
def clrK : DSt → Nat → (DSt → Prop) → Prop
  | [], _, k => k []
  | _ :: r, 0, k => k (none :: r)
  | x :: r, n + 1, k => clrK r n (fun r' => k (x :: r'))
def wipeK : List Nat → DSt → (DSt → Prop) → Prop
  | [], e, k => k e
  | v :: vs, e, k => wipeK vs e (fun e' => clrK e' v k)
theorem setK_eq : ∀ (e : DSt) (i : Nat) (d : D) (k : DSt → Prop), setK e i d k = k (e.set i (some d))
  | [], _, _, _ => rfl
  | _ :: _, 0, _, _ => rfl
  | x :: r, n + 1, d, k => setK_eq r n d _
theorem clrK_eq : ∀ (e : DSt) (i : Nat) (k : DSt → Prop), clrK e i k = k (e.set i none)
  | [], _, _ => rfl
  | _ :: _, 0, _ => rfl
  | x :: r, n + 1, k => clrK_eq r n _
def wipeE (e : DSt) : List Nat → DSt
  | [] => e
  | v :: vs => (wipeE e vs).set v none
theorem wipeK_eq : ∀ (vs : List Nat) (e : DSt) (k : DSt → Prop), wipeK vs e k = k (wipeE e vs)
  | [], _, _ => rfl
  | v :: vs, e, k => by unfold wipeK; rw [wipeK_eq vs e]; exact clrK_eq _ _ _
section
variable {K : PySem.W.Frag} {F F' : Hp}
theorem RepE.mono (h : Same F F') : ∀ {e : DSt} {σ : St}, RepE K F e σ → RepE K F' e σ
  | [], [], _ => trivial
  | some d :: e, some v :: σ, ⟨a, b⟩ => ⟨a.mono h, RepE.mono h b⟩
  | none :: e, _ :: σ, b => RepE.mono h (e := e) (σ := σ) b
  | some _ :: _, none :: _, z => z.elim
  | [], _ :: _, z => z.elim
  | some _ :: _, [], z => z.elim
  | none :: _, [], z => z.elim
theorem RepE.get : ∀ {e : DSt} {σ : St} {i : Nat} {d : D}, RepE K F e σ → nthE e i = some d → ∃ v, σ[i]? = some (some v) ∧ RelD K F d v
  | [], _, _, _, _, q => by cases q
  | some d :: e, some v :: σ, 0, _, ⟨a, b⟩, q => by cases q; exact ⟨v, rfl, a⟩
  | none :: e, _ :: σ, 0, _, b, q => by cases q
  | some d :: e, some v :: σ, i + 1, _, ⟨a, b⟩, q => by
    obtain ⟨u, h1, h2⟩ := RepE.get (i := i) b q
    exact ⟨u, by simpa using h1, h2⟩
  | none :: e, _ :: σ, i + 1, _, b, q => by
    obtain ⟨u, h1, h2⟩ := RepE.get (e := e) (σ := σ) (i := i) b q
    exact ⟨u, by simpa using h1, h2⟩
  | some _ :: _, none :: _, _, _, z, _ => z.elim
  | some _ :: _, [], _, _, z, _ => z.elim
  | none :: _, [], _, _, z, _ => z.elim
theorem RepE.set {d : D} {v : V} (r : RelD K F d v) : ∀ {e : DSt} {σ : St} (i : Nat), RepE K F e σ → RepE K F (e.set i (some d)) (σ.set i (some v))
  | [], [], _, _ => trivial
  | some d :: e, some v :: σ, 0, ⟨a, b⟩ => ⟨r, b⟩
  | none :: e, _ :: σ, 0, b => ⟨r, b⟩
  | some d :: e, some v :: σ, i + 1, ⟨a, b⟩ => ⟨a, RepE.set r i b⟩
  | none :: e, _ :: σ, i + 1, b => RepE.set r (e := e) (σ := σ) i b
  | some _ :: _, none :: _, _, z => z.elim
  | [], _ :: _, _, z => z.elim
  | some _ :: _, [], _, z => z.elim
  | none :: _, [], _, z => z.elim
theorem RepE.clr : ∀ {e : DSt} {σ : St} (i : Nat) (x : Option V), RepE K F e σ → RepE K F (e.set i none) (σ.set i x)
  | [], [], _, _, _ => trivial
  | some d :: e, some v :: σ, 0, _, ⟨a, b⟩ => b
  | none :: e, _ :: σ, 0, _, b => b
  | some d :: e, some v :: σ, i + 1, x, ⟨a, b⟩ => ⟨a, RepE.clr i x b⟩
  | none :: e, _ :: σ, i + 1, x, b => RepE.clr (e := e) (σ := σ) i x b
  | some _ :: _, none :: _, _, _, z => z.elim
  | [], _ :: _, _, _, z => z.elim
  | some _ :: _, [], _, _, z => z.elim
  | none :: _, [], _, _, z => z.elim
theorem RepE.wipe {e : DSt} {σ : St} (r : RepE K F e σ) : ∀ vs : List Nat, RepE K F (wipeE e vs) (L2.wipe σ vs)
  | [] => r
  | v :: vs => RepE.clr v none (RepE.wipe r vs)
theorem RepE.start {ds : List D} {vs : List V} (r : RelDs K F ds vs) (n : Nat) : RepE K F (ds.map some ++ List.replicate n none) (vs.map some ++ List.replicate n none) := by
  induction r using RelDs.rec (motive_1 := fun _ _ _ => True) with
  | nil => 
    show RepE K F (List.replicate n none) (List.replicate n none)
    induction n with
    | zero => trivial
    | succ n ih => exact ih
  | cons a b _ ih => exact ⟨a, ih⟩
  | _ => trivial
end

/-! ### what is wanted -/
abbrev DK := D → LH → Prop
abbrev DTE := DSt → LH → DK → Prop
abbrev DTA := DSt → LH → (List D → LH → Prop) → Prop
abbrev DTT := DSt → LH → (Bool → LH → Prop) → Prop
abbrev DTG := D → DSt → LH → (DSt → LH → Prop) → Prop
abbrev DTI := DSt → LH → (List D → LH → Prop) → Prop
structure DEnds where
  nx : DSt → LH → Prop
  rt : DK
  bk : DSt → LH → Prop
  ct : DSt → LH → Prop
abbrev DTS := DEnds → DSt → LH → Prop

section
variable (K : PySem.W.Frag) (F Fr : Hp)
def LK (Q : DK) : VK := fun v H => ∃ F' d l, Same F F' ∧ RelD K F' d v ∧ Rep K F' Fr l H ∧ Q d l
def LA (Q : List D → LH → Prop) : List V → Hp → Prop := fun vs H => ∃ F' ds l, Same F F' ∧ RelDs K F' ds vs ∧ Rep K F' Fr l H ∧ Q ds l
def LB (Q : Bool → LH → Prop) : Bool → Hp → Prop := fun b H => ∃ F' l, Same F F' ∧ Rep K F' Fr l H ∧ Q b l
def LS (Q : DSt → LH → Prop) : St → Hp → Prop := fun σ H => ∃ F' e l, Same F F' ∧ RepE K F' e σ ∧ Rep K F' Fr l H ∧ Q e l
def LH' (Q : LH → Prop) : Hp → Prop := fun H => ∃ F' l, Same F F' ∧ Rep K F' Fr l H ∧ Q l
def LE (E : DEnds) : Ends := { nx := LS K F Fr E.nx, rt := LK K F Fr E.rt, bk := LS K F Fr E.bk, ct := LS K F Fr E.ct }
end
section
variable {K : PySem.W.Frag} {F F1 Fr : Hp}
theorem LK.weak (h : Same F F1) {Q : DK} {v : V} {H : Hp} : LK K F1 Fr Q v H → LK K F Fr Q v H
  | ⟨F', d, l, a, b⟩ => ⟨F', d, l, h.trans a, b⟩
theorem LA.weak (h : Same F F1) {Q : List D → LH → Prop} {v : List V} {H : Hp} : LA K F1 Fr Q v H → LA K F Fr Q v H
  | ⟨F', d, l, a, b⟩ => ⟨F', d, l, h.trans a, b⟩
theorem LB.weak (h : Same F F1) {Q : Bool → LH → Prop} {v : Bool} {H : Hp} : LB K F1 Fr Q v H → LB K F Fr Q v H
  | ⟨F', l, a, b⟩ => ⟨F', l, h.trans a, b⟩
theorem LS.weak (h : Same F F1) {Q : DSt → LH → Prop} {v : St} {H : Hp} : LS K F1 Fr Q v H → LS K F Fr Q v H
  | ⟨F', d, l, a, b⟩ => ⟨F', d, l, h.trans a, b⟩
theorem LK.mk {Q : DK} {v : V} {H : Hp} {d : D} {l : LH} (r : RelD K F d v) (p : Rep K F Fr l H) (q : Q d l) : LK K F Fr Q v H := ⟨F, d, l, Same.refl F, r, p, q⟩
theorem LK.new {Q : DK} {H : Hp} {d : D} {l : LH} {p : Addr} {o : HO} (n : H p = none) (R : Rep K F Fr l H) (r : RelD K (upd F p o) d (.ref p)) (q : Q d l) (ho : isTblO o = false := by rfl) : LK K F Fr Q (.ref p) (upd H p o) :=
  ⟨upd F p o, d, l, same_upd (R.F_none n), r, R.laid n o ho, q⟩
theorem relTup {p : Addr} {vs : List V} {ds : List D} (n : F p = none) (r : RelDs K F ds vs) : RelD K (upd F p (.tup vs)) (.tup ds) (.ref p) := .tup upd_same (r.mono (same_upd n))
theorem relLst {p : Addr} {vs : List V} {ds : List D} (n : F p = none) (r : RelDs K F ds vs) : RelD K (upd F p (.lst vs)) (.lst ds) (.ref p) := .lst upd_same (r.mono (same_upd n))
theorem LK.tup {Q : DK} {H : Hp} {vs : List V} {ds : List D} {l : LH} {p : Addr} (n : H p = none) (R : Rep K F Fr l H) (r : RelDs K F ds vs) (q : Q (.tup ds) l) : LK K F Fr Q (.ref p) (upd H p (.tup vs)) :=
  LK.new n R (relTup (R.F_none n) r) q
theorem LK.lst {Q : DK} {H : Hp} {vs : List V} {ds : List D} {l : LH} {p : Addr} (n : H p = none) (R : Rep K F Fr l H) (r : RelDs K F ds vs) (q : Q (.lst ds) l) : LK K F Fr Q (.ref p) (upd H p (.lst vs)) :=
  LK.new n R (relLst (R.F_none n) r) q
/-- a new list that may be written -/
def newL (o : DO) (l : LH) (Q : DK) : Prop := ∀ a, l a = none → Q (.ref a) (uL l a o)
theorem LK.mut {Q : DK} {H : Hp} {vs : List V} {ds : List D} {l : LH} {p : Addr} (n : H p = none) (R : Rep K F Fr l H) (r : RelDs K F ds vs) (q : newL (.lst ds) l Q) : LK K F Fr Q (.ref p) (upd H p (.lst vs)) :=
  ⟨F, .ref p, _, Same.refl F, .ref p, R.made n (show DOk K F _ p (.lst ds) from ⟨vs, r, upd_same⟩), q p (R.l_none n)⟩
end

/-! ### the strongest readings -/
def WE (X : Cx) (e : Expr) : TE := fun σ H Q => ∀ pins s, Inv X pins σ H s → wpAny (model X.prog X.w) X.A (eval e X.env) (EP X pins σ Q) X.xe s
def WT (X : Cx) (e : Expr) : TT := fun σ H Q => ∀ pins s, Inv X pins σ H s → wpAny (model X.prog X.w) X.A (isTrue e X.env (eval e X.env)) (TP X pins σ Q) X.xe s
def WW (X : Cx) (e : Expr) : TT := fun σ H Q => ∀ whole pins s, Inv X pins σ H s → wpAny (model X.prog X.w) X.A (isTrue e X.env whole) (TP X pins σ Q) X.xe s
def WA (X : Cx) (es : List Expr) : TA := fun σ H Q => ∀ pos pins s, Inv X pins σ H s → wpAny (model X.prog X.w) X.A (spliced (backTo pos (starEach es X.env))) (AP X pins σ Q) X.xe s
def WS (X : Cx) (st : Stmt) : TS := fun D σ H => ∀ pins s, Inv X pins σ H s → wpAny (model X.prog X.w) X.A (exec st X.env) (SP X pins D) X.xe s
def WSs (X : Cx) (st : List Stmt) : TS := fun D σ H => ∀ pins s, Inv X pins σ H s → wpAny (model X.prog X.w) X.A (execs st X.env) (SP X pins D) X.xe s
def WG (X : Cx) (tg : Expr) : TG := fun v σ H Q => ∀ pins s u, Inv X pins σ H s → RelV v u → wpAny (model X.prog X.w) X.A (assign tg X.env u) (fun _ s' => ∃ σ' H', Inv X pins σ' H' s' ∧ Q σ' H') X.xe s
def WGs (X : Cx) (ts : List Expr) : TGs := fun vs σ H Q => ∀ pins s us, Inv X pins σ H s → Vals vs us → wpAny (model X.prog X.w) X.A (assignInOrder ((assignEach ts X.env).map (·.2)) us) (fun _ s' => ∃ σ' H', Inv X pins σ' H' s' ∧ Q σ' H') X.xe s
section
variable {X : Cx}
theorem peW {e : Expr} : PE X e (WE X e) := ⟨fun pins s _ _ _ I h => h pins s I⟩
theorem ptW {e : Expr} : PT X e (WT X e) := ⟨fun pins s _ _ _ I h => h pins s I⟩
theorem pwW {e : Expr} : PW X e (WW X e) := ⟨fun whole pins s _ _ _ I h => h whole pins s I⟩
theorem paW {e : List Expr} : PA X e (WA X e) := ⟨fun pos pins s _ _ _ I h => h pos pins s I⟩
theorem psW {e : Stmt} : PS X e (WS X e) := ⟨fun pins s _ _ _ I h => h pins s I⟩
theorem pssW {e : List Stmt} : PSs X e (WSs X e) := ⟨fun pins s _ _ _ I h => h pins s I⟩
theorem pgW {e : Expr} : PG X e (WG X e) := ⟨fun pins s _ _ _ u _ I r h => h pins s u I r⟩
theorem pgsW {e : List Expr} : PGs X e (WGs X e) := ⟨fun pins s _ _ _ us _ I r h => h pins s us I r⟩
theorem EP.mono {pins : List (Addr × Obj)} {σ : St} {Q Q' : VK} {u : Value} {s : Shared} (h : ∀ v H, Q v H → Q' v H) : EP X pins σ Q u s → EP X pins σ Q' u s
  | ⟨v, H, a, b, c⟩ => ⟨v, H, a, b, h _ _ c⟩
theorem WE.mono {e : Expr} {σ : St} {H : Hp} {Q Q' : VK} (w : WE X e σ H Q) (h : ∀ v H, Q v H → Q' v H) : WE X e σ H Q' := fun pins s I => thn (w pins s I) fun _ _ q => EP.mono h q
theorem WT.mono {e : Expr} {σ : St} {H : Hp} {Q Q' : Bool → Hp → Prop} (w : WT X e σ H Q) (h : ∀ v H, Q v H → Q' v H) : WT X e σ H Q' := fun pins s I => thn (w pins s I) fun _ _ ⟨H, a, b⟩ => ⟨H, a, h _ _ b⟩
theorem WW.mono {e : Expr} {σ : St} {H : Hp} {Q Q' : Bool → Hp → Prop} (w : WW X e σ H Q) (h : ∀ v H, Q v H → Q' v H) : WW X e σ H Q' := fun whole pins s I => thn (w whole pins s I) fun _ _ ⟨H, a, b⟩ => ⟨H, a, h _ _ b⟩
theorem WA.mono {e : List Expr} {σ : St} {H : Hp} {Q Q' : List V → Hp → Prop} (w : WA X e σ H Q) (h : ∀ v H, Q v H → Q' v H) : WA X e σ H Q' := fun pos pins s I => thn (w pos pins s I) fun _ _ ⟨vs, H, a, b, c⟩ => ⟨vs, H, a, b, h _ _ c⟩
theorem SP.mono {pins : List (Addr × Obj)} {D D' : Ends} {f : Flow} {s : Shared} (h1 : ∀ σ H, D.nx σ H → D'.nx σ H) (h2 : ∀ v H, D.rt v H → D'.rt v H) (h3 : ∀ σ H, D.bk σ H → D'.bk σ H) (h4 : ∀ σ H, D.ct σ H → D'.ct σ H) (q : SP X pins D f s) : SP X pins D' f s := by
  cases f with
  | next => obtain ⟨σ, H, a, b⟩ := q; exact ⟨σ, H, a, h1 _ _ b⟩
  | brk => obtain ⟨σ, H, a, b⟩ := q; exact ⟨σ, H, a, h3 _ _ b⟩
  | cont => obtain ⟨σ, H, a, b⟩ := q; exact ⟨σ, H, a, h4 _ _ b⟩
  | ret u => obtain ⟨v, σ, H, a, b, c⟩ := q; exact ⟨v, σ, H, a, b, h2 _ _ c⟩
theorem WS.mono {e : Stmt} {σ : St} {H : Hp} {D D' : Ends} (w : WS X e D σ H) (h1 : ∀ σ H, D.nx σ H → D'.nx σ H) (h2 : ∀ v H, D.rt v H → D'.rt v H) (h3 : ∀ σ H, D.bk σ H → D'.bk σ H) (h4 : ∀ σ H, D.ct σ H → D'.ct σ H) : WS X e D' σ H := fun pins s I => thn (w pins s I) fun _ _ q => SP.mono h1 h2 h3 h4 q
theorem WSs.mono {e : List Stmt} {σ : St} {H : Hp} {D D' : Ends} (w : WSs X e D σ H) (h1 : ∀ σ H, D.nx σ H → D'.nx σ H) (h2 : ∀ v H, D.rt v H → D'.rt v H) (h3 : ∀ σ H, D.bk σ H → D'.bk σ H) (h4 : ∀ σ H, D.ct σ H → D'.ct σ H) : WSs X e D' σ H := fun pins s I => thn (w pins s I) fun _ _ q => SP.mono h1 h2 h3 h4 q
theorem WG.mono {e : Expr} {v : V} {σ : St} {H : Hp} {Q Q' : St → Hp → Prop} (w : WG X e v σ H Q) (h : ∀ σ H, Q σ H → Q' σ H) : WG X e v σ H Q' := fun pins s u I r => thn (w pins s u I r) fun _ _ ⟨σ, H, a, b⟩ => ⟨σ, H, a, h _ _ b⟩
theorem WGs.mono {e : List Expr} {v : List V} {σ : St} {H : Hp} {Q Q' : St → Hp → Prop} (w : WGs X e v σ H Q) (h : ∀ σ H, Q σ H → Q' σ H) : WGs X e v σ H Q' := fun pins s u I r => thn (w pins s u I r) fun _ _ ⟨σ, H, a, b⟩ => ⟨σ, H, a, h _ _ b⟩
theorem _root_.L2.PE.we {e : Expr} {t : TE} (h : PE X e t) {σ : St} {H : Hp} {Q : VK} (q : t σ H Q) : WE X e σ H Q := fun pins s I => h.run pins s σ H Q I q
theorem _root_.L2.PT.wt {e : Expr} {t : TT} (h : PT X e t) {σ : St} {H : Hp} {Q : Bool → Hp → Prop} (q : t σ H Q) : WT X e σ H Q := fun pins s I => h.run pins s σ H Q I q
theorem _root_.L2.PW.ww {e : Expr} {t : TT} (h : PW X e t) {σ : St} {H : Hp} {Q : Bool → Hp → Prop} (q : t σ H Q) : WW X e σ H Q := fun whole pins s I => h.run whole pins s σ H Q I q
theorem _root_.L2.PA.wa {e : List Expr} {t : TA} (h : PA X e t) {σ : St} {H : Hp} {Q : List V → Hp → Prop} (q : t σ H Q) : WA X e σ H Q := fun pos pins s I => h.run pos pins s σ H Q I q
theorem _root_.L2.PS.ws {e : Stmt} {t : TS} (h : PS X e t) {σ : St} {H : Hp} {D : Ends} (q : t D σ H) : WS X e D σ H := fun pins s I => h.run pins s σ H D I q
theorem _root_.L2.PSs.wss {e : List Stmt} {t : TS} (h : PSs X e t) {σ : St} {H : Hp} {D : Ends} (q : t D σ H) : WSs X e D σ H := fun pins s I => h.run pins s σ H D I q
theorem _root_.L2.PG.wg {e : Expr} {t : TG} (h : PG X e t) {v : V} {σ : St} {H : Hp} {Q : St → Hp → Prop} (q : t v σ H Q) : WG X e v σ H Q := fun pins s u I r => h.run pins s σ H v u Q I r q
theorem _root_.L2.PGs.wgs {e : List Expr} {t : TGs} (h : PGs X e t) {v : List V} {σ : St} {H : Hp} {Q : St → Hp → Prop} (q : t v σ H Q) : WGs X e v σ H Q := fun pins s u I r => h.run pins s σ H v u Q I r q
end

/-! ### the judgements -/
structure DE (X : Cx) (e : Expr) (t : DTE) : Prop where
  run : ∀ F Fr env l σ H Q, RepE X.K F env σ → Rep X.K F Fr l H → t env l Q → WE X e σ H (LK X.K F Fr Q)
instance {X : Cx} {e : Expr} {t : DTE} : CoeFun (DE X e t) (fun _ => ∀ F Fr env l σ H Q, RepE X.K F env σ → Rep X.K F Fr l H → t env l Q → WE X e σ H (LK X.K F Fr Q)) := ⟨DE.run⟩
structure DT (X : Cx) (e : Expr) (t : DTT) : Prop where
  run : ∀ F Fr env l σ H Q, RepE X.K F env σ → Rep X.K F Fr l H → t env l Q → WT X e σ H (LB X.K F Fr Q)
instance {X : Cx} {e : Expr} {t : DTT} : CoeFun (DT X e t) (fun _ => ∀ F Fr env l σ H Q, RepE X.K F env σ → Rep X.K F Fr l H → t env l Q → WT X e σ H (LB X.K F Fr Q)) := ⟨DT.run⟩
structure DW (X : Cx) (e : Expr) (t : DTT) : Prop where
  run : ∀ F Fr env l σ H Q, RepE X.K F env σ → Rep X.K F Fr l H → t env l Q → WW X e σ H (LB X.K F Fr Q)
instance {X : Cx} {e : Expr} {t : DTT} : CoeFun (DW X e t) (fun _ => ∀ F Fr env l σ H Q, RepE X.K F env σ → Rep X.K F Fr l H → t env l Q → WW X e σ H (LB X.K F Fr Q)) := ⟨DW.run⟩
structure DA (X : Cx) (e : List Expr) (t : DTA) : Prop where
  run : ∀ F Fr env l σ H Q, RepE X.K F env σ → Rep X.K F Fr l H → t env l Q → WA X e σ H (LA X.K F Fr Q)
instance {X : Cx} {e : List Expr} {t : DTA} : CoeFun (DA X e t) (fun _ => ∀ F Fr env l σ H Q, RepE X.K F env σ → Rep X.K F Fr l H → t env l Q → WA X e σ H (LA X.K F Fr Q)) := ⟨DA.run⟩
structure DS (X : Cx) (st : Stmt) (t : DTS) : Prop where
  run : ∀ F Fr env l σ H E, RepE X.K F env σ → Rep X.K F Fr l H → t E env l → WS X st (LE X.K F Fr E) σ H
instance {X : Cx} {st : Stmt} {t : DTS} : CoeFun (DS X st t) (fun _ => ∀ F Fr env l σ H E, RepE X.K F env σ → Rep X.K F Fr l H → t E env l → WS X st (LE X.K F Fr E) σ H) := ⟨DS.run⟩
structure DSs (X : Cx) (st : List Stmt) (t : DTS) : Prop where
  run : ∀ F Fr env l σ H E, RepE X.K F env σ → Rep X.K F Fr l H → t E env l → WSs X st (LE X.K F Fr E) σ H
instance {X : Cx} {st : List Stmt} {t : DTS} : CoeFun (DSs X st t) (fun _ => ∀ F Fr env l σ H E, RepE X.K F env σ → Rep X.K F Fr l H → t E env l → WSs X st (LE X.K F Fr E) σ H) := ⟨DSs.run⟩
/-- vs: the slots that the target may write -/
def LG (K : PySem.W.Frag) (F Fr : Hp) (vs : List Nat) (σ : St) (Q : DSt → LH → Prop) : St → Hp → Prop := fun σ' H => L2.wipe σ' vs = L2.wipe σ vs ∧ LS K F Fr Q σ' H
structure DG (X : Cx) (tg : Expr) (vs : List Nat) (g : DTG) : Prop where
  run : ∀ F Fr env l σ H d v Q, RepE X.K F env σ → Rep X.K F Fr l H → RelD X.K F d v → g d env l Q → WG X tg v σ H (LG X.K F Fr vs σ Q)
instance {X : Cx} {tg : Expr} {vs : List Nat} {g : DTG} : CoeFun (DG X tg vs g) (fun _ => ∀ F Fr env l σ H d v Q, RepE X.K F env σ → Rep X.K F Fr l H → RelD X.K F d v → g d env l Q → WG X tg v σ H (LG X.K F Fr vs σ Q)) := ⟨DG.run⟩
structure DGs (X : Cx) (tg : List Expr) (vs : List Nat) (g : List D → DSt → LH → (DSt → LH → Prop) → Prop) : Prop where
  run : ∀ F Fr env l σ H d v Q, RepE X.K F env σ → Rep X.K F Fr l H → RelDs X.K F d v → g d env l Q → WGs X tg v σ H (LG X.K F Fr vs σ Q)
instance {X : Cx} {tg : List Expr} {vs : List Nat} {g : List D → DSt → LH → (DSt → LH → Prop) → Prop} : CoeFun (DGs X tg vs g) (fun _ => ∀ F Fr env l σ H d v Q, RepE X.K F env σ → Rep X.K F Fr l H → RelDs X.K F d v → g d env l Q → WGs X tg v σ H (LG X.K F Fr vs σ Q)) := ⟨DGs.run⟩
/-- what an iterator gives: the items ds, the heap may be any that holds -/
def JOk (K : PySem.W.Frag) (F : Hp) (J : It) (ds : List D) : Prop := ∀ (i : Nat) F' Fr l H, Same F F' → Rep K F' Fr l H →
  (ds.length ≤ i → J.stop i H) ∧ (∀ d, ds[i]? = some d → J.go i H ∧ ∀ x H', J.yld i H x H' → ∃ F2, Same F' F2 ∧ RelD K F2 d x ∧ Rep K F2 Fr l H')
def WI (X : Cx) (tg iter : Expr) : TI := fun σ H R => ∀ pins s, Inv X pins σ H s → wpAny (model X.prog X.w) X.A (eval iter X.env) (fun v s1 => wpAny (model X.prog X.w) X.A (pyIter v) (PIE X pins σ tg R) X.xe s1) X.xe s
theorem piW {X : Cx} {tg iter : Expr} : PI X tg iter (WI X tg iter) := ⟨fun pins s σ H R I h => h pins s I⟩
theorem _root_.L2.PI.wi {X : Cx} {tg iter : Expr} {t : TI} (h : PI X tg iter t) {σ : St} {H : Hp} {R : It → Hp → Prop} (q : t σ H R) : WI X tg iter σ H R := fun pins s I => h.run pins s σ H R I q
theorem WI.mono {X : Cx} {tg iter : Expr} {σ : St} {H : Hp} {R R' : It → Hp → Prop} (w : WI X tg iter σ H R) (h : ∀ J H, R J H → R' J H) : WI X tg iter σ H R' := fun pins s I => thn (w pins s I) fun _ _ q => thn q fun _ _ ⟨it, fp, tn, J, H', a, b, c, d, e, f⟩ => ⟨it, fp, tn, J, H', a, b, c, d, e, h _ _ f⟩
def LI (K : PySem.W.Frag) (F Fr : Hp) (R : List D → LH → Prop) : It → Hp → Prop := fun J H => ∃ F1 l1 ds, Same F F1 ∧ Rep K F1 Fr l1 H ∧ JOk K F1 J ds ∧ R ds l1
structure DI (X : Cx) (tg iter : Expr) (t : DTI) : Prop where
  run : ∀ F Fr env l σ H R, RepE X.K F env σ → Rep X.K F Fr l H → t env l R → WI X tg iter σ H (LI X.K F Fr R)
instance {X : Cx} {tg iter : Expr} {t : DTI} : CoeFun (DI X tg iter t) (fun _ => ∀ F Fr env l σ H R, RepE X.K F env σ → Rep X.K F Fr l H → t env l R → WI X tg iter σ H (LI X.K F Fr R)) := ⟨DI.run⟩
end DL

namespace DL
open PySem PySem.Spec PyProof.Rows L2

/-! ### data as the library's data -/
mutual
def toPy : D → PyData
  | .non => .none
  | .bl b => .bool b
  | .int i => .int i
  | .str x => .str x
  | .tup ds => .tuple (toPys ds)
  | .lst ds => .list (toPys ds)
  | .dT _ _ => .dict []
  | .scr _ => .dict []
  | .dK _ _ => .dict []
  | .ref _ => .dict []
  | .exc _ => .dict []
  | .exc1 _ _ => .dict []
  | .kt ds => .tuple (toPys ds)
def toPys : List D → List PyData
  | [] => []
  | d :: ds => toPy d :: toPys ds
end
theorem toPys_map : ∀ ds : List D, toPys ds = ds.map toPy
  | [] => rfl
  | d :: ds => by rw [toPys, toPys_map ds]; rfl
mutual
theorem RelD.dp {K : PySem.W.Frag} {F H : Hp} (h : Same F H) : ∀ {d : D} {v : V}, RelD K F d v → (toPy d).canLay0 = true → Dp K H v (toPy d)
  | _, _, .non, _ => .non
  | _, _, .bl b, _ => .bl b
  | _, _, .int b, _ => .int b
  | _, _, .str b, _ => .str b
  | _, _, .ref b, c => by rw [toPy, PyData.canLay0] at c; cases c
  | _, _, .scr b, c => by rw [toPy, PyData.canLay0] at c; cases c
  | _, _, .exc a b, c => by rw [toPy, PyData.canLay0] at c; cases c
  | _, _, .exc1 a b e f, c => by rw [toPy, PyData.canLay0] at c; cases c
  | _, _, .kt a e f b, c => by
    rw [toPy, PyData.canLay0] at c
    exact .tup (.inl (.inr ⟨_, h _ _ a⟩)) (RelDs.dp h b c)
  | _, _, .tup a b, c => by
    rw [toPy, PyData.canLay0] at c
    exact .tup (tq (h _ _ a)) (RelDs.dp h b c)
  | _, _, .lst a b, c => by
    rw [toPy, PyData.canLay0] at c
    exact .lst (.inl (.inl (h _ _ a))) (RelDs.dp h b c)
  | _, _, .dT a e b, c => by rw [toPy, PyData.canLay0] at c; cases c
  | _, _, .dK a e b, c => by rw [toPy, PyData.canLay0] at c; cases c
theorem RelDs.dp {K : PySem.W.Frag} {F H : Hp} (h : Same F H) : ∀ {ds : List D} {vs : List V}, RelDs K F ds vs → PyData.canLayAll0 (toPys ds) = true → DpAll K H vs (toPys ds)
  | _, _, .nil, _ => .nil
  | _, _, .cons a b, c => by
    rw [toPys, PyData.canLayAll0, Bool.and_eq_true] at c
    exact .cons (RelD.dp h a c.1) (RelDs.dp h b c.2)
end

/-! ### expressions -/
section
variable {X : Cx} {a b e : Expr} {ta tb tc te : DTE} {pos : Pos}
def dVar (i : Nat) : DTE := fun env l Q => match nthE env i with | some d => Q d l | none => False
def dC (d : D) : DTE := fun _ l Q => Q d l
theorem de_var (i : Nat) {x : Str} {pos : Pos} (hN : X.N[i]? = some x := by rfl) (hv : Vis X.env.scope x := by first | exact Or.inl rfl | exact Or.inr (Or.inl rfl) | exact Or.inr (Or.inr rfl)) (hd : (x == ("__debug__" : Str)) = false := by decide)
    (hcd : (x == ("__classdict__" : Str)) = false := by decide) : DE X (.Name x pos) (dVar i) := by
  refine ⟨?_⟩
  intro F Fr env l σ H Q he hr ht
  refine (pv i hN hv hd hcd).we ?_
  unfold dVar at ht
  cases q : nthE env i with
  | none => rw [q] at ht; exact ht.elim
  | some d =>
    rw [q] at ht
    obtain ⟨v, h1, h2⟩ := he.get q
    exact ⟨v, h1, LK.mk h2 hr ht⟩
theorem de_int {i j pos} : DE X (.Constant (.int i) j pos) (dC (.int i)) := ⟨fun F Fr env l σ H Q he hr ht => pe_int.we (LK.mk (.int i) hr ht)⟩
theorem de_bl {b j pos} : DE X (.Constant (.bool b) j pos) (dC (.bl b)) := ⟨fun F Fr env l σ H Q he hr ht => pe_bl.we (LK.mk (.bl b) hr ht)⟩
theorem de_non {j pos} : DE X (.Constant .none j pos) (dC .non) := ⟨fun F Fr env l σ H Q he hr ht => pe_non.we (LK.mk .non hr ht)⟩
theorem de_str {x j pos} : DE X (.Constant (.str x) j pos) (dC (.str x)) := ⟨fun F Fr env l σ H Q he hr ht => pe_str.we (LK.mk (.str x) hr ht)⟩
/-! operators, by values -/
def KOp (X : Cx) (r : R2) (k : D → D → LH → DK → Prop) : Prop := ∀ F Fr l H Q d e v u (Q' : VK), Rep X.K F Fr l H → RelD X.K F d v → RelD X.K F e u → (∀ v H, LK X.K F Fr Q v H → Q' v H) → k d e l Q → r v u H Q'
def KUn (X : Cx) (r : V → Hp → VK → Prop) (k : D → LH → DK → Prop) : Prop := ∀ F Fr l H Q d v (Q' : VK), Rep X.K F Fr l H → RelD X.K F d v → (∀ v H, LK X.K F Fr Q v H → Q' v H) → k d l Q → r v H Q'
def KCall (X : Cx) (r : List V → Hp → VK → Prop) (k : List D → LH → DK → Prop) : Prop := ∀ F Fr l H Q ds vs (Q' : VK), Rep X.K F Fr l H → RelDs X.K F ds vs → (∀ v H, LK X.K F Fr Q v H → Q' v H) → k ds l Q → r vs H Q'
def dOp (k : D → D → LH → DK → Prop) (ta tb : DTE) : DTE := fun env l Q => ta env l fun x l1 => tb env l1 fun y l2 => k x y l2 Q
def dUn (k : D → LH → DK → Prop) (ta : DTE) : DTE := fun env l Q => ta env l fun x l1 => k x l1 Q
theorem two {F Fr : Hp} {env : DSt} {l : LH} {σ : St} {H : Hp} {Q : DK} {r : R2} {k : D → D → LH → DK → Prop} (hk : KOp X r k) (ha : DE X a ta) (hb : DE X b tb) (he : RepE X.K F env σ) (hr : Rep X.K F Fr l H) (ht : dOp k ta tb env l Q) :
    WE X a σ H fun x H1 => WE X b σ H1 fun y H2 => r x y H2 (LK X.K F Fr Q) := by
  refine (ha F Fr env l σ H _ he hr ht).mono fun x H1 ⟨F1, d, l1, s1, r1, R1, q1⟩ => ?_
  refine (hb F1 Fr env l1 σ H1 _ (he.mono s1) R1 q1).mono fun y H2 ⟨F2, d2, l2, s2, r2, R2, q2⟩ => ?_
  exact hk F2 Fr l2 H2 Q d d2 x y _ R2 (r1.mono s2) r2 (fun v H q => q.weak (s1.trans s2)) q2
theorem de_op {op : Operator} {r : R2} {k : D → D → LH → DK → Prop} (ho : OpR X (binaryOp op) r) (hk : KOp X r k) (ha : DE X a ta) (hb : DE X b tb) : DE X (.BinOp a op b pos) (dOp k ta tb) :=
  ⟨fun F Fr env l σ H Q he hr ht => (pe_op ho peW peW).we (two hk ha hb he hr ht)⟩
theorem de_cmp {op : CmpOp} {r : R2} {k : D → D → LH → DK → Prop} (ho : OpR X (compareOp op) r) (hk : KOp X r k) (ha : DE X a ta) (hb : DE X b tb) (hm : behindInMarks op b = false) : DE X (.Compare a [op] [b] pos) (dOp k ta tb) :=
  ⟨fun F Fr env l σ H Q he hr ht => (pe_cmpR ho peW peW hm).we (two hk ha hb he hr ht)⟩
theorem de_un {op : UnaryOp} {r : V → Hp → VK → Prop} {k : D → LH → DK → Prop} (ho : UnR X (unaryOp op) r) (hk : KUn X r k) (ha : DE X a ta) : DE X (.UnaryOp op a pos) (dUn k ta) := by
  refine ⟨?_⟩
  intro F Fr env l σ H Q he hr ht
  refine (pe_un ho peW).we ?_
  refine (ha F Fr env l σ H _ he hr ht).mono fun x H1 ⟨F1, d, l1, s1, r1, R1, q1⟩ => ?_
  exact hk F1 Fr l1 H1 Q d x _ R1 r1 (fun v H q => q.weak s1) q1
/-! and, or, not, if as values -/
/-- by a known truth -/
structure ifB (b : Bool) (A B : Prop) : Prop where
  t : b = true → A
  f : b = false → B
theorem ifB_T {A B : Prop} (h : ifB true A B) : A := h.t rfl
theorem ifB_F {A B : Prop} (h : ifB false A B) : B := h.f rfl
theorem ifB_true {A B : Prop} (h : A) : ifB true A B := ⟨fun _ => h, (fun e => nomatch e)⟩
theorem ifB_false {A B : Prop} (h : B) : ifB false A B := ⟨(fun e => nomatch e), fun _ => h⟩
theorem ifB_dec {c A B : Prop} [Decidable c] (h1 : c → A) (h2 : ¬ c → B) : ifB (decide c) A B := ⟨fun e => h1 (of_decide_eq_true e), fun e => h2 (of_decide_eq_false e)⟩
def dIf (tt : DTT) (ta tb : DTE) : DTE := fun env l Q => tt env l fun c l1 => ifB c (ta env l1 Q) (tb env l1 Q)
theorem de_if {c : Expr} {tt : DTT} (hc : DT X c tt) (ha : DE X a ta) (hb : DE X b tb) : DE X (.IfExp c a b pos) (dIf tt ta tb) := by
  refine ⟨?_⟩
  intro F Fr env l σ H Q he hr ht
  refine (pe_ifExp ptW peW peW).we ?_
  refine (hc F Fr env l σ H _ he hr ht).mono fun x H1 ⟨F1, l1, s1, R1, q1⟩ => ?_
  cases x with
  | true => exact L2.iteT ((ha F1 Fr env l1 σ H1 _ (he.mono s1) R1 (ifB_T q1)).mono fun _ _ q => q.weak s1)
  | false => exact L2.iteF ((hb F1 Fr env l1 σ H1 _ (he.mono s1) R1 (ifB_F q1)).mono fun _ _ q => q.weak s1)

/-! tests -/
def dTV (t : DTE) : DTT := fun env l Q => t env l fun x l1 => match x with
  | .bl b => Q b l1
  | _ => False
theorem dt_val (h : DE X e te) (hs : ∀ whole, isTrue e X.env whole = (do let v ← whole; standAt e.pos; holding [v] (truthy v)) := by intro _; rfl) : DT X e (dTV te) := by
  refine ⟨?_⟩
  intro F Fr env l σ H Q he hr ht
  refine (pt_val peW hs).wt ?_
  refine (h F Fr env l σ H _ he hr ht).mono fun x H1 ⟨F1, d, l1, s1, r1, R1, q1⟩ => ?_
  cases r1 with
  | bl z => exact ⟨z, rfl, F1, l1, s1, R1, q1⟩
  | _ => exact q1.elim
theorem dt_cmp {op : CmpOp} {r : R2} {k : D → D → LH → DK → Prop} (ho : OpR X (compareOp op) r) (hk : KOp X r k) (ha : DE X a ta) (hb : DE X b tb) (hm : behindInMarks op b = false) : DT X (.Compare a [op] [b] pos) (dTV (dOp k ta tb)) := by
  refine ⟨?_⟩
  intro F Fr env l σ H Q he hr ht
  refine (pt_cmpR ho peW peW hm).wt ?_
  have h2 : WE X a σ H fun x H1 => WE X b σ H1 fun y H2 => r x y H2 (LK X.K F Fr fun x l1 => match x with | .bl b => Q b l1 | _ => False) := two hk ha hb he hr ht
  refine (ha F Fr env l σ H _ he hr ht).mono fun x H1 ⟨F1, d, l1, s1, r1, R1, q1⟩ => ?_
  refine (hb F1 Fr env l1 σ H1 _ (he.mono s1) R1 q1).mono fun y H2 ⟨F2, d2, l2, s2, r2, R2, q2⟩ => ?_
  refine hk F2 Fr l2 H2 _ d d2 x y _ R2 (r1.mono s2) r2 (fun v H q => ?_) q2
  obtain ⟨F3, d3, l3, s3, r3, R3, q3⟩ := q
  cases r3 with
  | bl z => exact ⟨z, rfl, F3, l3, s1.trans (s2.trans s3), R3, q3⟩
  | _ => exact q3.elim
theorem dw_dt {t : DTT} (h : DW X e t) : DT X e t := ⟨fun F Fr env l σ H Q he hr ht pins s I => h F Fr env l σ H Q he hr ht _ pins s I⟩
def tOr (t u : DTT) : DTT := fun env l Q => t env l fun c l1 => ifB c (Q true l1) (u env l1 Q)
def tNot (t : DTT) : DTT := fun env l Q => t env l fun c l1 => Q (!c) l1
variable {tt tu : DTT}
theorem dw_or1 (ha : DT X a tt) : DW X (.BoolOp .Or [a] pos) tt := ⟨fun F Fr env l σ H Q he hr ht => (pw_or1 ptW).ww (ha F Fr env l σ H Q he hr ht)⟩
theorem dw_or {rest : List Expr} (ha : DT X a tt) (hb : DW X (.BoolOp .Or (b :: rest) pos) tu) : DW X (.BoolOp .Or (a :: b :: rest) pos) (tOr tt tu) := by
  refine ⟨?_⟩
  intro F Fr env l σ H Q he hr ht
  refine (pw_or ptW pwW).ww ?_
  refine (ha F Fr env l σ H _ he hr ht).mono fun x H1 ⟨F1, l1, s1, R1, q1⟩ => ?_
  cases x with
  | false => exact L2.iteF ((hb F1 Fr env l1 σ H1 _ (he.mono s1) R1 (ifB_F q1)).mono fun _ _ q => q.weak s1)
  | true => exact L2.iteT ⟨F1, l1, s1, R1, ifB_T q1⟩
theorem dt_not (ha : DT X a tt) : DT X (.UnaryOp .Not a pos) (tNot tt) := by
  refine ⟨?_⟩
  intro F Fr env l σ H Q he hr ht
  refine (pt_not ptW).wt ?_
  exact (ha F Fr env l σ H _ he hr ht).mono fun x H1 ⟨F1, l1, s1, R1, q1⟩ => ⟨F1, l1, s1, R1, q1⟩

/-! argument lists, displays -/
def aNil : DTA := fun _ l Q => Q [] l
def aCons (t : DTE) (u : DTA) : DTA := fun env l Q => t env l fun d l1 => u env l1 fun ds l2 => Q (d :: ds) l2
variable {es : List Expr} {u : DTA}
theorem da_nil : DA X [] aNil := ⟨fun F Fr env l σ H Q he hr ht => pa_nil.wa ⟨F, [], l, Same.refl F, .nil, hr, ht⟩⟩
theorem da_cons (ha : DE X e te) (hr : DA X es u) (hs : starEach (e :: es) X.env = (false, eval e X.env) :: starEach es X.env := by rfl) : DA X (e :: es) (aCons te u) := by
  refine ⟨?_⟩
  intro F Fr env l σ H Q he hR ht
  refine (pa_cons peW paW hs).wa ?_
  refine (ha F Fr env l σ H _ he hR ht).mono fun x H1 ⟨F1, d, l1, s1, r1, R1, q1⟩ => ?_
  refine (hr F1 Fr env l1 σ H1 _ (he.mono s1) R1 q1).mono fun xs H2 ⟨F2, ds, l2, s2, r2, R2, q2⟩ => ?_
  exact ⟨F2, d :: ds, l2, s1.trans s2, .cons (r1.mono s2) r2, R2, q2⟩
def dTup (t : DTA) : DTE := fun env l Q => t env l fun ds l1 => ds.length ≤ sizeLine ∧ Q (.tup ds) l1
def dLst (t : DTA) : DTE := fun env l Q => t env l fun ds l1 => ds.length ≤ sizeLine ∧ Q (.lst ds) l1
def dLstM (t : DTA) : DTE := fun env l Q => t env l fun ds l1 => ds.length ≤ sizeLine ∧ newL (.lst ds) l1 Q
theorem de_tup {x1} (h : DA X es u) : DE X (.Tuple es x1 pos) (dTup u) := by
  refine ⟨?_⟩
  intro F Fr env l σ H Q he hR ht
  refine (pe_tup paW).we ?_
  refine (h F Fr env l σ H _ he hR ht).mono fun x H1 ⟨F1, ds, l1, s1, r1, R1, q1, q2⟩ => ?_
  exact ⟨by rw [← r1.length]; exact q1, fun p np => (LK.tup np R1 r1 q2).weak s1⟩
theorem de_lst (h : DA X es u) : DE X (.List es pos) (dLst u) := by
  refine ⟨?_⟩
  intro F Fr env l σ H Q he hR ht
  refine (pe_lst paW).we ?_
  refine (h F Fr env l σ H _ he hR ht).mono fun x H1 ⟨F1, ds, l1, s1, r1, R1, q1, q2⟩ => ?_
  exact ⟨by rw [← r1.length]; exact q1, fun p np => (LK.lst np R1 r1 q2).weak s1⟩
theorem de_lstM (h : DA X es u) : DE X (.List es pos) (dLstM u) := by
  refine ⟨?_⟩
  intro F Fr env l σ H Q he hR ht
  refine (pe_lst paW).we ?_
  refine (h F Fr env l σ H _ he hR ht).mono fun x H1 ⟨F1, ds, l1, s1, r1, R1, q1, q2⟩ => ?_
  exact ⟨by rw [← r1.length]; exact q1, fun p np => (LK.mut np R1 r1 q2).weak s1⟩

/-! calls of built-ins, by values -/
def dCall (k : List D → LH → DK → Prop) (t : DTA) : DTE := fun env l Q => t env l fun ds l1 => k ds l1 Q
theorem callK {r : List V → Hp → VK → Prop} {k : List D → LH → DK → Prop} (hk : KCall X r k) (h : DA X es u) {F Fr : Hp} {env : DSt} {l : LH} {σ : St} {H : Hp} {Q : DK} (he : RepE X.K F env σ) (hR : Rep X.K F Fr l H) (ht : dCall k u env l Q) :
    WA X es σ H fun vs H1 => r vs H1 (LK X.K F Fr Q) :=
  (h F Fr env l σ H _ he hR ht).mono fun x H1 ⟨F1, ds, l1, s1, r1, R1, q1⟩ => hk F1 Fr l1 H1 Q ds x _ R1 r1 (fun _ _ q => q.weak s1) q1
theorem de_callB {id : String} {r : List V → Hp → VK → Prop} {k : List D → LH → DK → Prop} {x : Str} {p : Pos} (hc : CallR X (.builtin id) r) (hk : KCall X r k) (hg : Gl X x) (hm : X.mg x = none) (hv : bootBuiltins x = some (.builtin id)) (h : DA X (e :: es) u) (hn : x ≠ "__name__" := by decide) (hdb : (x == ("__debug__" : Str)) = false := by decide)
    (he : starEach (e :: es) X.env = (false, eval e X.env) :: starEach es X.env := by rfl) (hpl : (backTo pos (starEach es X.env)).any (·.1) = false := by rfl) : DE X (.Call (.Name x p) (e :: es) [] pos) (dCall k u) :=
  ⟨fun F Fr env l σ H Q hE hr ht => (pe_callB hc hg hm hv paW hn hdb he hpl).we (callK hk h hE hr ht)⟩
theorem de_callT {T : String} {r : List V → Hp → VK → Prop} {k : List D → LH → DK → Prop} {x : Str} {p : Pos} (hc : CallR X (.type T) r) (hk : KCall X r k) (hg : Gl X x) (hm : X.mg x = none) (hv : bootBuiltins x = some (.type T)) (h : DA X (e :: es) u) (hn : x ≠ "__name__" := by decide) (hdb : (x == ("__debug__" : Str)) = false := by decide)
    (he : starEach (e :: es) X.env = (false, eval e X.env) :: starEach es X.env := by rfl) (hpl : (backTo pos (starEach es X.env)).any (·.1) = false := by rfl) : DE X (.Call (.Name x p) (e :: es) [] pos) (dCall k u) :=
  ⟨fun F Fr env l σ H Q hE hr ht => (pe_callTy hc hg hm hv paW hn hdb he hpl).we (callK hk h hE hr ht)⟩
end
end DL

namespace DL
open PySem PySem.Spec PyProof.Rows L2

/-! ### the operators' readings -/
section
variable {X : Cx}
/-- + -/
def kAdd : D → D → LH → DK → Prop := fun x y l Q => match x, y with
  | .int i, .int j => Q (.int (i + j)) l
  | .tup xs, .tup ys => xs.length + ys.length ≤ sizeLine ∧ Q (.tup (xs ++ ys)) l
  | .lst xs, .lst ys => xs.length + ys.length ≤ sizeLine ∧ Q (.lst (xs ++ ys)) l
  | .str i, .str j => i.length + j.length ≤ sizeLine ∧ Q (.str (i ++ j)) l
  | _, _ => False
def rAdd4 (K : PySem.W.Frag) : R2 := fun x y H Q => rI0 (fun i j => .int (i + j)) x y H Q ∨ (rCatA K x y H Q ∨ (rCat x y H Q ∨ ∃ i j, x = .str i ∧ y = .str j ∧ i.length + j.length ≤ sizeLine ∧ Q (.str (i ++ j)) H))
theorem op_add4 : OpR X (binaryOp .Add) (rAdd4 X.K) := op_add.or (op_catA.or (op_cat.or op_add_str))
theorem kAdd_ok : KOp X (rAdd4 X.K) kAdd := by
  intro F Fr l H Q d e v u Q' R rd re hq q
  cases rd with
  | int i =>
    cases re <;> try exact q.elim
    exact .inl ⟨_, _, rfl, rfl, hq _ _ (LK.mk (.int _) R q)⟩
  | str i =>
    cases re <;> try exact q.elim
    exact .inr (.inr (.inr ⟨_, _, rfl, rfl, q.1, hq _ _ (LK.mk (.str _) R q.2)⟩))
  | @tup p vs ds h1 r1 =>
    cases re <;> try exact q.elim
    rename_i p2 vs2 ds2 h2 r2
    refine .inr (.inl ⟨p, p2, vs, vs2, rfl, rfl, tq (R.fz _ _ h1), tq (R.fz _ _ h2), by rw [← r1.length, ← r2.length]; exact q.1, fun e => ?_, fun _ e => ?_, fun _ _ p np => ?_⟩)
    · subst e
      cases r1
      exact hq _ _ (LK.mk (.tup h2 r2) R q.2)
    · subst e
      cases r2
      have q2 := q.2
      rw [List.append_nil] at q2
      exact hq _ _ (LK.mk (.tup h1 r1) R q2)
    · exact hq _ _ (LK.tup np R (r1.append r2) q.2)
  | @lst p vs ds h1 r1 =>
    cases re <;> try exact q.elim
    rename_i p2 vs2 ds2 h2 r2
    exact .inr (.inr (.inl ⟨p, p2, vs, vs2, rfl, rfl, R.fz _ _ h1, R.fz _ _ h2, by rw [← r1.length, ← r2.length]; exact q.1, fun p np => hq _ _ (LK.lst np R (r1.append r2) q.2)⟩))
  | _ => exact q.elim

/-- whole numbers -/
theorem op_mulA : OpR X (binaryOp .Mult) (rI IntMulOk fun i j => .int (i * j)) := opI fun _ _ _ _ _ _ _ hc q => mul_int q hc
def dAdd : DTE → DTE → DTE := dOp kAdd
def kSub : D → D → LH → DK → Prop := fun x y l Q => match x, y with
  | .int i, .int j => Q (.int (i - j)) l
  | _, _ => False
theorem kSub_ok : KOp X (rI0 fun i j => .int (i - j)) kSub := by
  intro F Fr l H Q d e v u Q' R rd re hq q
  cases rd <;> try exact q.elim
  cases re <;> try exact q.elim
  exact ⟨_, _, rfl, rfl, hq _ _ (LK.mk (by constructor) R q)⟩
def kMod : D → D → LH → DK → Prop := fun x y l Q => match x, y with
  | .int i, .int j => 0 < j ∧ Q (.int (i % j)) l
  | _, _ => False
theorem kMod_ok : KOp X (rI (fun _ j => 0 < j) fun i j => .int (i % j)) kMod := by
  intro F Fr l H Q d e v u Q' R rd re hq q
  cases rd <;> try exact q.elim
  cases re <;> try exact q.elim
  exact ⟨_, _, rfl, rfl, q.1, hq _ _ (LK.mk (by constructor) R q.2)⟩
def kDiv : D → D → LH → DK → Prop := fun x y l Q => match x, y with
  | .int i, .int j => (0 < j ∧ j.natAbs.log2 < 9000) ∧ Q (.int (i / j)) l
  | _, _ => False
theorem kDiv_ok : KOp X (rI CDivW fun i j => .int (i / j)) kDiv := by
  intro F Fr l H Q d e v u Q' R rd re hq q
  cases rd <;> try exact q.elim
  cases re <;> try exact q.elim
  exact ⟨_, _, rfl, rfl, q.1, hq _ _ (LK.mk (by constructor) R q.2)⟩
def kPow : D → D → LH → DK → Prop := fun x y l Q => match x, y with
  | .int i, .int j => (0 ≤ j ∧ j ≤ 1000000 ∧ i.natAbs < 2 ^ 64) ∧ Q (.int (i ^ j.toNat)) l
  | _, _ => False
theorem kPow_ok : KOp X (rI CPow fun i j => .int (i ^ j.toNat)) kPow := by
  intro F Fr l H Q d e v u Q' R rd re hq q
  cases rd <;> try exact q.elim
  cases re <;> try exact q.elim
  exact ⟨_, _, rfl, rfl, q.1, hq _ _ (LK.mk (by constructor) R q.2)⟩
def kGt : D → D → LH → DK → Prop := fun x y l Q => match x, y with
  | .int i, .int j => Q (.bl (decide (j < i))) l
  | _, _ => False
theorem kGt_ok : KOp X (rI0 fun i j => .bl (decide (j < i))) kGt := by
  intro F Fr l H Q d e v u Q' R rd re hq q
  cases rd <;> try exact q.elim
  cases re <;> try exact q.elim
  exact ⟨_, _, rfl, rfl, hq _ _ (LK.mk (by constructor) R q)⟩
def kGe : D → D → LH → DK → Prop := fun x y l Q => match x, y with
  | .int i, .int j => Q (.bl (decide (j ≤ i))) l
  | _, _ => False
theorem kGe_ok : KOp X (rI0 fun i j => .bl (decide (j ≤ i))) kGe := by
  intro F Fr l H Q d e v u Q' R rd re hq q
  cases rd <;> try exact q.elim
  cases re <;> try exact q.elim
  exact ⟨_, _, rfl, rfl, hq _ _ (LK.mk (by constructor) R q)⟩
def dSub : DTE → DTE → DTE := dOp kSub
def dMod : DTE → DTE → DTE := dOp kMod
def dDiv : DTE → DTE → DTE := dOp kDiv
def dPow : DTE → DTE → DTE := dOp kPow
def dGt : DTE → DTE → DTE := dOp kGt
def dGe : DTE → DTE → DTE := dOp kGe
variable {a b e : Expr} {ta tb tc te : DTE} {pos : Pos}
theorem de_add (ha : DE X a ta) (hb : DE X b tb) : DE X (.BinOp a .Add b pos) (dAdd ta tb) := de_op op_add4 kAdd_ok ha hb
theorem de_sub (ha : DE X a ta) (hb : DE X b tb) : DE X (.BinOp a .Sub b pos) (dSub ta tb) := de_op op_sub kSub_ok ha hb
theorem de_mod (ha : DE X a ta) (hb : DE X b tb) : DE X (.BinOp a .Mod b pos) (dMod ta tb) := de_op op_mod kMod_ok ha hb
theorem de_div (ha : DE X a ta) (hb : DE X b tb) : DE X (.BinOp a .FloorDiv b pos) (dDiv ta tb) := de_op op_fdivW kDiv_ok ha hb
theorem de_pow (ha : DE X a ta) (hb : DE X b tb) : DE X (.BinOp a .Pow b pos) (dPow ta tb) := de_op op_pow kPow_ok ha hb
theorem de_ge (ha : DE X a ta) (hb : DE X b tb) : DE X (.Compare a [.GtE] [b] pos) (dGe ta tb) := de_cmp op_ge kGe_ok ha hb (nomark _)
theorem dt_gt (ha : DE X a ta) (hb : DE X b tb) : DT X (.Compare a [.Gt] [b] pos) (dTV (dGt ta tb)) := dt_cmp op_gt kGt_ok ha hb (nomark _)
theorem un_negK : KUn X (rU fun i => .int (-i)) (fun x l Q => match x with | .int i => Q (.int (-i)) l | _ => False) := by
  intro F Fr l H Q d v Q' R rd hq q
  cases rd <;> try exact q.elim
  exact ⟨_, rfl, hq _ _ (LK.mk (.int _) R q)⟩
def dNeg : DTE → DTE := dUn fun x l Q => match x with | .int i => Q (.int (-i)) l | _ => False
theorem de_neg (ha : DE X a ta) : DE X (.UnaryOp .USub a pos) (dNeg ta) := de_un un_neg un_negK ha

def kLt : D → D → LH → DK → Prop := fun x y l Q => match x, y with
  | .int i, .int j => Q (.bl (decide (i < j))) l
  | .tup xs, .tup ys => ∃ ns ms, xs = ns.map D.int ∧ ys = ms.map D.int ∧ Q (.bl (HT.lexLt ns ms)) l
  | _, _ => False
theorem op_lt2 (hu : X.A.units < cLine) : OpR X (compareOp .Lt) (fun x y H Q => rI0 (fun i j => .bl (decide (i < j))) x y H Q ∨ rLtT X.K x y H Q) := op_lt.or (op_ltT hu)
theorem kLt_ok : KOp X (fun x y H Q => rI0 (fun i j => .bl (decide (i < j))) x y H Q ∨ rLtT X.K x y H Q) kLt := by
  intro F Fr l H Q d e v u Q' R rd re hq q
  cases rd with
  | int i =>
    cases re <;> try exact q.elim
    exact .inl ⟨_, _, rfl, rfl, hq _ _ (LK.mk (.bl _) R q)⟩
  | @tup p vs ds h1 r1 =>
    cases re <;> try exact q.elim
    rename_i p2 vs2 ds2 h2 r2
    obtain ⟨ns, ms, rfl, rfl, q⟩ := q
    have e1 := r1.ints
    have e2 := r2.ints
    subst e1 e2
    exact .inr ⟨p, p2, ns, ms, rfl, rfl, tq (R.fz _ _ h1), tq (R.fz _ _ h2), hq _ _ (LK.mk (.bl _) R q)⟩
  | _ => exact q.elim
def dLt : DTE → DTE → DTE := dOp kLt
theorem dt_lt (hu : X.A.units < cLine) (ha : DE X a ta) (hb : DE X b tb) : DT X (.Compare a [.Lt] [b] pos) (dTV (dLt ta tb)) := dt_cmp (op_lt2 hu) kLt_ok ha hb (nomark _)

/-- an object's content -/
def getO (l : LH) (a : Addr) (k : DO → Prop) : Prop := ∃ o, l a = some o ∧ k o
/-- == -/
def okD (d : D) : Prop := SeqAt.shaped (toPy d) = true
def eqD (d e : D) : Bool := PyData.eqv (toPy d) (toPy e)
/-- a list that may be written, as it stands -/
def resL (d : D) (l : LH) (k : D → Prop) : Prop := match d with
  | .ref a => getO l a fun o => match o with | .lst ds => k (.lst ds) | _ => False
  | d => k d
theorem resL_ok {K : PySem.W.Frag} {F Fr H : Hp} {l : LH} {d : D} {v : V} {k : D → Prop} (R : Rep K F Fr l H) (r : RelD K F d v) (q : resL d l k) : ∃ d', k d' ∧ ((toPy d').canLay0 = true → Dp K H v (toPy d')) := by
  cases r with
  | ref a =>
    obtain ⟨o, ho, q⟩ := q
    cases o with
    | lst ds =>
      obtain ⟨vs, r1, h1⟩ := (R.lv _ _ ho).2
      refine ⟨_, q, fun c => ?_⟩
      rw [toPy, PyData.canLay0] at c
      exact .lst (.inl (.inl h1)) (r1.dp R.fz c)
    | _ => exact q.elim
  | non => exact ⟨_, q, RelD.dp R.fz .non⟩
  | bl b => exact ⟨_, q, RelD.dp R.fz (.bl b)⟩
  | int b => exact ⟨_, q, RelD.dp R.fz (.int b)⟩
  | str b => exact ⟨_, q, RelD.dp R.fz (.str b)⟩
  | tup a b => exact ⟨_, q, RelD.dp R.fz (.tup a b)⟩
  | scr a => exact ⟨_, q, RelD.dp R.fz (.scr a)⟩
  | lst a b => exact ⟨_, q, RelD.dp R.fz (.lst a b)⟩
  | dT a b c => exact ⟨_, q, RelD.dp R.fz (.dT a b c)⟩
  | dK a b c => exact ⟨_, q, RelD.dp R.fz (.dK a b c)⟩
  | exc a b => exact ⟨_, q, RelD.dp R.fz (.exc a b)⟩
  | exc1 a b c d => exact ⟨_, q, RelD.dp R.fz (.exc1 a b c d)⟩
  | kt a b c d => exact ⟨_, q, RelD.dp R.fz (.kt a b c d)⟩
def kEq : D → D → LH → DK → Prop := fun x y l Q => resL x l fun x => resL y l fun y => okD x ∧ okD y ∧ Q (.bl (eqD x y)) l
def kNe : D → D → LH → DK → Prop := fun x y l Q => resL x l fun x => resL y l fun y => okD x ∧ okD y ∧ Q (.bl (!eqD x y)) l
theorem kEq_ok : KOp X (rEqD X.K) kEq := by
  intro F Fr l H Q d e v u Q' R rd re hq q
  obtain ⟨d', q, h1⟩ := resL_ok R rd q
  obtain ⟨e', q, h2⟩ := resL_ok R re q
  obtain ⟨c1, c2, q⟩ := q
  exact ⟨_, _, h1 (SeqAt.canLay_of_shaped c1), h2 (SeqAt.canLay_of_shaped c2), c1, c2, hq _ _ (LK.mk (.bl _) R q)⟩
theorem kNe_ok : KOp X (rNeD X.K) kNe := by
  intro F Fr l H Q d e v u Q' R rd re hq q
  obtain ⟨d', q, h1⟩ := resL_ok R rd q
  obtain ⟨e', q, h2⟩ := resL_ok R re q
  obtain ⟨c1, c2, q⟩ := q
  exact ⟨_, _, h1 (SeqAt.canLay_of_shaped c1), h2 (SeqAt.canLay_of_shaped c2), c1, c2, hq _ _ (LK.mk (.bl _) R q)⟩
def dEq : DTE → DTE → DTE := dOp kEq
def dNe : DTE → DTE → DTE := dOp kNe
theorem dt_eq (hu : X.A.units + 64 < cLine) (ha : DE X a ta) (hb : DE X b tb) : DT X (.Compare a [.Eq] [b] pos) (dTV (dEq ta tb)) := dt_cmp (op_eqD hu) kEq_ok ha hb (nomark _)
theorem dt_ne (hu : X.A.units + 64 < cLine) (ha : DE X a ta) (hb : DE X b tb) : DT X (.Compare a [.NotEq] [b] pos) (dTV (dNe ta tb)) := dt_cmp (op_neD hu) kNe_ok ha hb (nomark _)
def kNotN : D → D → LH → DK → Prop := fun x y l Q => match y with | .non => Q (.bl (match x with | .non => false | _ => true)) l | _ => False
theorem kNotN_ok : KOp X (fun x y H Q => y = .non ∧ Q (.bl (!decide (x = .non))) H) kNotN := by
  intro F Fr l H Q d e v u Q' R rd re hq q
  cases re <;> try exact q.elim
  refine ⟨rfl, ?_⟩
  cases rd <;> exact hq _ _ (LK.mk (.bl _) R q)
def dNotN : DTE → DTE → DTE := dOp kNotN
theorem dt_notN (ha : DE X a ta) (hb : DE X b tb) : DT X (.Compare a [.IsNot] [b] pos) (dTV (dNotN ta tb)) := dt_cmp op_notN kNotN_ok ha hb (nomark _)

/-! ### subscripts -/
theorem atI_rel {K : PySem.W.Frag} {F : Hp} {ds : List D} {vs : List V} {i : Int} {d : D} (r : RelDs K F ds vs) (h : atI ds i = some d) : ∃ v, atI vs i = some v ∧ RelD K F d v := by
  unfold atI at h ⊢
  rw [← r.length]
  cases q : ixN ds.length i with
  | none => rw [q] at h; cases h
  | some j =>
    rw [q] at h
    exact r.get h
def kIx : D → D → LH → DK → Prop := fun x y l Q => match x, y with
  | .tup ds, .int i => ∃ d, atI ds i = some d ∧ Q d l
  | .lst ds, .int i => ∃ d, atI ds i = some d ∧ Q d l
  | .ref a, .int i => getO l a fun o => match o with | .lst ds => ∃ d, atI ds i = some d ∧ Q d l | _ => False
  | .scr ns, .int i => ∃ d, atI (ns.map D.int) i = some d ∧ Q d l
  | .str z, .int i => z.length ≤ sizeLine ∧ ∃ c, atI z.cps.toList i = some c ∧ Q (.str ⟨#[c]⟩) l
  | _, _ => False
theorem kIx_ok : KOp X (rIx X.K) kIx := by
  intro F Fr l H Q d e v u Q' R rd re hq q
  cases rd with
  | @tup p vs ds h1 r1 =>
    cases re <;> try exact q.elim
    obtain ⟨d, hd, q⟩ := q
    obtain ⟨v, hv, rv⟩ := atI_rel r1 hd
    exact .inr (.inl ⟨p, vs, _, v, rfl, rfl, tq (R.fz _ _ h1), hv, hq _ _ (LK.mk rv R q)⟩)
  | @lst p vs ds h1 r1 =>
    cases re <;> try exact q.elim
    obtain ⟨d, hd, q⟩ := q
    obtain ⟨v, hv, rv⟩ := atI_rel r1 hd
    exact .inl ⟨p, vs, _, v, rfl, rfl, .inl (.inl (R.fz _ _ h1)), hv, hq _ _ (LK.mk rv R q)⟩
  | @scr p ns h1 =>
    cases re <;> try exact q.elim
    obtain ⟨d, hd, q⟩ := q
    obtain ⟨v, hv, rv⟩ := atI_rel (relDs_ints (K := X.K) (F := F) ns) hd
    exact .inl ⟨p, _, _, v, rfl, rfl, sqL_mono R.fz h1, hv, hq _ _ (LK.mk rv R q)⟩
  | ref a =>
    cases re <;> try exact q.elim
    obtain ⟨o, ho, q⟩ := q
    cases o with
    | lst ds =>
      obtain ⟨d, hd, q⟩ := q
      obtain ⟨vs, r1, h1⟩ := (R.lv _ _ ho).2
      obtain ⟨v, hv, rv⟩ := atI_rel r1 hd
      exact .inl ⟨a, vs, _, v, rfl, rfl, .inl (.inl h1), hv, hq _ _ (LK.mk rv R q)⟩
    | _ => exact q.elim
  | str z =>
    cases re <;> try exact q.elim
    obtain ⟨hz, c, hc, q⟩ := q
    exact .inr (.inr ⟨_, _, c, rfl, rfl, hz, hc, hq _ _ (LK.mk (.str _) R q)⟩)
  | _ => exact q.elim
def dIx : DTE → DTE → DTE := dOp kIx
theorem de_ix (ha : DE X a ta) (hb : DE X b tb) (hs : PlainIx b := by exact fun _ _ => rfl) : DE X (.Subscript a b pos) (dIx ta tb) :=
  ⟨fun F Fr env l σ H Q he hr ht => (pe_ix ix_seq peW peW hs).we (two kIx_ok ha hb he hr ht)⟩
/-- slices -/
def cutD (ds : List D) (lo hi : Option Int) : List D := (ds.drop (HT.sIx ds.length 0 lo)).take (HT.sIx ds.length ds.length hi - HT.sIx ds.length 0 lo)
theorem cut_rel {K : PySem.W.Frag} {F : Hp} {ds : List D} {vs : List V} (r : RelDs K F ds vs) (lo hi : Option Int) : RelDs K F (cutD ds lo hi) (cutV vs lo hi) := by
  unfold cutD cutV
  rw [← r.length]
  exact (r.drop _).take _
theorem cut_whole (ds : List D) (lo hi : Option Int) (h : HT.sIx ds.length 0 lo = 0 ∧ HT.sIx ds.length ds.length hi = ds.length) : cutD ds lo hi = ds := by
  unfold cutD
  rw [h.1, h.2, List.drop_zero, Nat.sub_zero, List.take_length]
abbrev DTO := DSt → LH → (Option Int → LH → Prop) → Prop
def LO (K : PySem.W.Frag) (F Fr : Hp) (Q : Option Int → LH → Prop) : Option Int → Hp → Prop := fun v H => ∃ F' l, Same F F' ∧ Rep K F' Fr l H ∧ Q v l
def WO (X : Cx) (e : Option Expr) : TO := fun σ H Q => ∀ pins s, Inv X pins σ H s → wpAny (model X.prog X.w) X.A (evalPart e X.env) (fun u s' => ∃ o H', Inv X pins σ H' s' ∧ IsPart u o ∧ Q o H') X.xe s
theorem poW {e : Option Expr} : PO X e (WO X e) := ⟨fun pins s _ _ _ I h => h pins s I⟩
theorem WO.mono {e : Option Expr} {σ : St} {H : Hp} {Q Q' : Option Int → Hp → Prop} (w : WO X e σ H Q) (h : ∀ v H, Q v H → Q' v H) : WO X e σ H Q' := fun pins s I => thn (w pins s I) fun _ _ ⟨o, H, a, b, c⟩ => ⟨o, H, a, b, h _ _ c⟩
structure DP (X : Cx) (e : Option Expr) (t : DTO) : Prop where
  run : ∀ F Fr env l σ H Q, RepE X.K F env σ → Rep X.K F Fr l H → t env l Q → WO X e σ H (LO X.K F Fr Q)
instance {X : Cx} {e : Option Expr} {t : DTO} : CoeFun (DP X e t) (fun _ => ∀ F Fr env l σ H Q, RepE X.K F env σ → Rep X.K F Fr l H → t env l Q → WO X e σ H (LO X.K F Fr Q)) := ⟨DP.run⟩
def oNo : DTO := fun _ l Q => Q none l
def oSm (t : DTE) : DTO := fun env l Q => t env l fun d l1 => match d with | .int i => Q (some i) l1 | _ => False
theorem dp_no : DP X none oNo := ⟨fun F Fr env l σ H Q he hr ht pins s I => po_none.run pins s σ H _ I ⟨F, l, Same.refl F, hr, ht⟩⟩
theorem dp_sm (h : DE X e te) : DP X (some e) (oSm te) := by
  refine ⟨?_⟩
  intro F Fr env l σ H Q he hr ht pins s I
  refine (po_some (peW (X := X) (e := e))).run pins s σ H _ I ?_
  refine (h F Fr env l σ H _ he hr ht).mono fun x H1 ⟨F1, d, l1, s1, r1, R1, q1⟩ => ?_
  cases r1 with
  | int i => exact ⟨i, rfl, F1, l1, s1, R1, q1⟩
  | _ => exact q1.elim
def kSl (x : D) (lo hi : Option Int) (l : LH) (Q : DK) : Prop := match x with
  | .tup ds => Q (.tup (cutD ds lo hi)) l
  | .lst ds => Q (.lst (cutD ds lo hi)) l
  | .scr ns => Q (.lst (cutD (ns.map D.int) lo hi)) l
  | .ref a => getO l a fun o => match o with | .lst ds => Q (.lst (cutD ds lo hi)) l | _ => False
  | _ => False
def dSl (te : DTE) (tl tu : DTO) : DTE := fun env l Q => te env l fun x l1 => tl env l1 fun lo l2 => tu env l2 fun hi l3 => kSl x lo hi l3 Q
variable {lo hi : Option Expr} {tl tu : DTO} {p2 : Pos}
theorem de_sl (he : DE X e te) (hl : DP X lo tl) (hu : DP X hi tu) : DE X (.Subscript e (.Slice lo hi none p2) pos) (dSl te tl tu) := by
  refine ⟨?_⟩
  intro F Fr env l σ H Q hE hR ht
  refine (pe_slice (sl_list.or sl_tupA) peW poW poW).we ?_
  refine (he F Fr env l σ H _ hE hR ht).mono fun x H1 ⟨F1, d, l1, s1, r1, R1, q1⟩ => ?_
  refine (hl F1 Fr env l1 σ H1 _ (hE.mono s1) R1 q1).mono fun i H2 ⟨F2, l2, s2, R2, q2⟩ => ?_
  refine (hu F2 Fr env l2 σ H2 _ ((hE.mono s1).mono s2) R2 q2).mono fun j H3 ⟨F3, l3, s3, R3, q3⟩ => ?_
  have r3 := r1.mono (s2.trans s3)
  have S := s1.trans (s2.trans s3)
  cases r3 with
  | @tup p vs ds h1 rr =>
    refine .inr ⟨p, vs, rfl, tq (R3.fz _ _ h1), fun c => ?_, fun c p np => (LK.tup np R3 (cut_rel rr i j) q3).weak S⟩
    rw [← rr.length] at c
    have q4 : Q (.tup (cutD ds i j)) l3 := q3
    rw [cut_whole ds i j c] at q4
    exact (LK.mk (.tup h1 rr) R3 q4).weak S
  | @lst p vs ds h1 rr => exact .inl ⟨p, vs, rfl, .inl (.inl (R3.fz _ _ h1)), fun p np => (LK.lst np R3 (cut_rel rr i j) q3).weak S⟩
  | @scr p ns h1 => exact .inl ⟨p, _, rfl, sqL_mono R3.fz h1, fun p np => (LK.lst np R3 (cut_rel (relDs_ints ns) i j) q3).weak S⟩
  | ref a =>
    obtain ⟨o, ho, q3⟩ := q3
    cases o with
    | lst ds =>
      obtain ⟨vs, r1, h1⟩ := (R3.lv _ _ ho).2
      exact .inl ⟨a, vs, rfl, .inl (.inl h1), fun p np => (LK.lst np R3 (cut_rel r1 i j) q3).weak S⟩
    | _ => exact q3.elim
  | _ => exact q3.elim
end
end DL

namespace DL
open PySem PySem.Spec PyProof.Rows L2
/-! tuple * int, whatever the int -/
theorem tuple_mulSame (l : Addr) (items : Array Value) (n : Nat) (dd : Option Addr) (sl : Array (Option Value)) (x : Int) (u : Tok) (c0 : (decide (x < -(2 ^ 63)) || decide (x ≥ 2 ^ 63)) = false) (c1 : (items.isEmpty || x == 1) = true) :
    Meets (Builtin.«tuple.__mul__» ⟨[.ref l, .int x u], []⟩) (fun _ R s => s.heap.get? l = some { cls := .type "tuple", dict := dd, data := .seq items n, slots := sl } ∧ R (.ok (.ret (Value.ref l))) s) :=
  .of_wp fun prog w A R s h => by
    obtain ⟨hp, g, d, tk, os⟩ := s
    obtain ⟨hl, h⟩ := h
    have f1 := AutoSeq1.idx_int
    wp_walk using wpAny_loadPart' hl
    repeat (first
      | (refine wpAny_ite_false (decide_eq_false (by rw [c0]; exact Bool.false_ne_true)) ?_; wp_walk using wpAny_loadPart' hl)
      | (refine wpAny_ite_true (decide_eq_true (by rw [c1])) ?_; wp_walk using wpAny_loadPart' hl))
    exact ⟨_, rfl, h⟩
theorem tuple_mulNone (l : Addr) (items : Array Value) (n : Nat) (dd : Option Addr) (sl : Array (Option Value)) (x : Int) (u : Tok) (c0 : (decide (x < -(2 ^ 63)) || decide (x ≥ 2 ^ 63)) = false) (c1 : (items.isEmpty || x == 1) = false) (c2 : (decide (x ≤ 0) || items.isEmpty) = true) :
    Meets (Builtin.«tuple.__mul__» ⟨[.ref l, .int x u], []⟩) (fun _ R s => s.heap.get? l = some { cls := .type "tuple", dict := dd, data := .seq items n, slots := sl } ∧
      R (.ok (.ret (Value.ref s.heap.objs.size))) { s with heap := s.heap.push { cls := Value.type "tuple", data := Data.seq #[] }, toks := s.toks }) :=
  .of_wp fun prog w A R s h => by
    obtain ⟨hp, g, d, tk, os⟩ := s
    obtain ⟨hl, h⟩ := h
    have f1 := AutoSeq1.idx_int
    wp_walk using wpAny_loadPart' hl
    repeat (first
      | (refine wpAny_ite_false (decide_eq_false (by rw [c0]; exact Bool.false_ne_true)) ?_; wp_walk using wpAny_loadPart' hl)
      | (refine wpAny_ite_false (decide_eq_false (by rw [c1]; exact Bool.false_ne_true)) ?_; wp_walk using wpAny_loadPart' hl)
      | (refine wpAny_ite_true (decide_eq_true (by rw [c2])) ?_; wp_walk using wpAny_loadPart' hl))
    exact ⟨_, rfl, h⟩
def rMulT (K : PySem.W.Frag) : R2 := fun x y H Q => ∃ l k xs, x = .ref l ∧ y = .int k ∧ SqT K H l xs ∧ -(2 ^ 63) ≤ k ∧ k < 2 ^ 63 ∧ xs.length * k.toNat ≤ sizeLine ∧
  ((xs = [] ∨ k = 1) → Q (.ref l) H) ∧ (¬ (xs = [] ∨ k = 1) → ∀ p, H p = none → Q (.ref p) (upd H p (.tup (List.replicate k.toNat xs).flatten)))
section
variable {X : Cx}
theorem op_mulT : OpR X (binaryOp .Mult) (rMulT X.K) := by
  intro pins s σ H x y v u Q I rx ry h
  obtain ⟨l, k, xs, rfl, rfl, hT, h1, h2, hz, q1, q2⟩ := h
  cases rx
  obtain ⟨t, rfl⟩ := ry
  obtain ⟨its, r, ⟨⟨cls, dd, data, sl⟩, ho, hc, n, hd⟩, hs⟩ := I.tuple hT
  simp only at hc hd
  subst hc hd
  have hle : its.length = xs.length := r.length.symm
  have hsz0 : its.toArray.size = xs.length := by rw [List.size_toArray, hle]
  have c0 : (decide (k < -(2 ^ 63)) || decide (k ≥ 2 ^ 63)) = false := by
    rw [decide_eq_false (by omega), decide_eq_false (by omega)] <;> rfl
  refine wpAny_binaryOp_repeat_ref (T := "tuple") (U := "int") (by decide) ⟨_, ho, rfl⟩ (fun s' => typeIs_int s' k t) noFill_tuple_mul F.fills_int_mul F.slot_int_rmul repeat_tuple F.slot_int_index.lookup
    (call_meets F.slot_int_rmul (typeIs_int s k t) F.entry_int_rmul (F.args_int_rmul_2 _ _) (int_rmul_tuple k t l its.toArray n dd sl)
      ⟨ho, rfl, ⟨_, ho, rfl⟩, ?_⟩)
  have hemp : its.toArray.isEmpty = decide (xs = []) := by
    cases r with
    | nil => rfl
    | cons _ _ => rfl
  by_cases hw : xs = [] ∨ k = 1
  · refine call_meets F.slot_tuple_mul ⟨_, ho, rfl⟩ F.entry_tuple_mul (F.args_tuple_mul_2 _ _) (tuple_mulSame l its.toArray n dd sl k t c0 ?_) ⟨ho, ?_⟩
    · rw [hemp]
      rcases hw with e | e
      · rw [decide_eq_true e]; rfl
      · rw [e, beq_self_eq_true, Bool.or_true]
    · exact ⟨.ref l, H, I, rfl, q1 hw⟩
  · have hne : xs ≠ [] := fun e => hw (.inl e)
    have hi : its.toArray.isEmpty = false := by rw [hemp]; exact decide_eq_false hne
    have c1 : (its.toArray.isEmpty || k == 1) = false := by
      rw [hi, Bool.false_or]
      exact beq_eq_false_iff_ne.mpr fun e => hw (.inr e)
    have new : ∀ (ws : Array Value), Vals (List.replicate k.toNat xs).flatten ws.toList → EP X pins σ Q (.ref s.heap.objs.size) { s with heap := s.heap.push { cls := Value.type "tuple", data := Data.seq ws }, toks := s.toks } := fun ws rv => by
      refine ⟨.ref s.heap.objs.size, _, I.laid (t' := s.toks) (o := .tup (List.replicate k.toNat xs).flatten) (fun b ob q => Heap.get?_push_of_some _ q) (Nat.le_refl _) ?_, rfl, q2 hw _ (I.hok.fresh (Nat.le_refl _))⟩
      exact ⟨by rw [PyProof.Rows.lm_len_rep_flat, Nat.mul_comm]; exact hz, ws.toList, rv, IsTup.new _ _⟩
    by_cases hk : k ≤ 0
    · refine call_meets F.slot_tuple_mul ⟨_, ho, rfl⟩ F.entry_tuple_mul (F.args_tuple_mul_2 _ _) (tuple_mulNone l its.toArray n dd sl k t c0 c1 (by rw [decide_eq_true hk, Bool.true_or])) ⟨ho, ?_⟩
      have e0 : k.toNat = 0 := by omega
      exact new #[] (by rw [e0]; exact .nil)
    · have hN : xs.length * k.toNat ≤ 16777216 := by rw [← sizeLine_eq]; exact hz
      have hm : ((its.toArray.size : Nat) : Int) * k ≤ 16777216 := by
        rw [hsz0]
        have e1 : ((k.toNat : Nat) : Int) = k := by omega
        have e2 : ((xs.length : Nat) : Int) * k = ((xs.length * k.toNat : Nat) : Int) := by rw [← e1]; simp
        rw [e2]
        generalize xs.length * k.toNat = z at hN ⊢
        omega
      have flen : (List.replicate k.toNat its).flatten.length ≤ sizeLine := by
        rw [PyProof.Rows.lm_len_rep_flat, hle, Nat.mul_comm]
        exact hz
      have c2 : (decide (k ≤ 0) || its.toArray.isEmpty) = false := by
        rw [hi, Bool.or_false]
        exact decide_eq_false (by omega)
      have c4 : Builtin.Tuple.tupleTooMany (((its.toArray.size : Nat) : Int) * k) = false := by
        unfold Builtin.Tuple.tupleTooMany
        rw [sizeLine_eq]
        exact decide_eq_false (by omega)
      refine call_meets F.slot_tuple_mul ⟨_, ho, rfl⟩ F.entry_tuple_mul (F.args_tuple_mul_2 _ _) (tuple_mulW l its.toArray n dd sl k t c0 c1 c2 (by omega) c4 (by rw [size_rep, List.size_toArray]; exact flen)) ⟨ho, ?_⟩
      rw [size_rep]
      exact new _ (r.rep k.toNat)
/-- * -/
def kMul : D → D → LH → DK → Prop := fun x y l Q => match x, y with
  | .int i, .int j => IntMulOk i j ∧ Q (.int (i * j)) l
  | .tup xs, .int k => (-(2 ^ 63) ≤ k ∧ k < 2 ^ 63 ∧ xs.length * k.toNat ≤ sizeLine) ∧ Q (.tup (List.replicate k.toNat xs).flatten) l
  | .lst xs, .int k => (-(2 ^ 63) ≤ k ∧ k < 2 ^ 63 ∧ xs.length * k.toNat ≤ sizeLine) ∧ Q (.lst (List.replicate k.toNat xs).flatten) l
  | _, _ => False
theorem RelDs.rep {K : PySem.W.Frag} {F : Hp} {xs : List D} {us : List V} (h : RelDs K F xs us) : ∀ k : Nat, RelDs K F (List.replicate k xs).flatten (List.replicate k us).flatten
  | 0 => .nil
  | k + 1 => by
    rw [List.replicate_succ, List.replicate_succ, List.flatten_cons, List.flatten_cons]
    exact h.append (RelDs.rep h k)
def rMul3 (K : PySem.W.Frag) : R2 := fun x y H Q => rI IntMulOk (fun i j => .int (i * j)) x y H Q ∨ (rMulT K x y H Q ∨ rRep x y H Q)
theorem op_mul3 : OpR X (binaryOp .Mult) (rMul3 X.K) := op_mulA.or (op_mulT.or op_rep)
theorem kMul_ok : KOp X (rMul3 X.K) kMul := by
  intro F Fr l H Q d e v u Q' R rd re hq q
  cases rd with
  | int i =>
    cases re <;> try exact q.elim
    exact .inl ⟨_, _, rfl, rfl, q.1, hq _ _ (LK.mk (.int _) R q.2)⟩
  | @tup p vs ds h1 rr =>
    cases re <;> try exact q.elim
    rename_i k
    obtain ⟨⟨a1, a2, a3⟩, q⟩ := q
    refine .inr (.inl ⟨p, k, vs, rfl, rfl, tq (R.fz _ _ h1), a1, a2, by rw [← rr.length]; exact a3, fun c => ?_, fun c p np => hq _ _ (LK.tup np R (rr.rep _) q)⟩)
    have e : (List.replicate k.toNat ds).flatten = ds := by
      rcases c with c | c
      · subst c
        cases rr
        simp
      · subst c
        show (List.replicate 1 ds).flatten = ds
        simp
    rw [e] at q
    exact hq _ _ (LK.mk (.tup h1 rr) R q)
  | @lst p vs ds h1 rr =>
    cases re <;> try exact q.elim
    obtain ⟨⟨a1, a2, a3⟩, q⟩ := q
    exact .inr (.inr ⟨p, _, vs, rfl, rfl, R.fz _ _ h1, a1, a2, by rw [← rr.length]; exact a3, fun p np => hq _ _ (LK.lst np R (rr.rep _) q)⟩)
  | _ => exact q.elim
variable {a b e : Expr} {ta tb tc te : DTE} {pos : Pos}
def dMul : DTE → DTE → DTE := dOp kMul
theorem de_mul (ha : DE X a ta) (hb : DE X b tb) : DE X (.BinOp a .Mult b pos) (dMul ta tb) := de_op op_mul3 kMul_ok ha hb
end
end DL

namespace DL
open PySem PySem.Spec PyProof.Rows L2

/-! ### built-ins -/
section
variable {X : Cx}
def kLen : List D → LH → DK → Prop := fun ds l Q => match ds with
  | [.tup xs] => Q (.int xs.length) l
  | [.lst xs] => Q (.int xs.length) l
  | [.scr xs] => Q (.int xs.length) l
  | [.kt xs] => Q (.int xs.length) l
  | [.str z] => z.length ≤ sizeLine ∧ Q (.int z.length) l
  | [.ref a] => getO l a fun o => match o with | .lst xs => Q (.int xs.length) l | _ => False
  | _ => False
theorem call_len2 : CallR X (.builtin "len") (fun xs H Q => (∃ p ys, xs = [.ref p] ∧ (SqL X.K H p ys ∨ SqT X.K H p ys) ∧ Q (.int ys.length) H) ∨ ∃ z, xs = [.str z] ∧ z.length ≤ sizeLine ∧ Q (.int z.length) H) := call_len_seq.or call_len_str
theorem kLen_ok : KCall X (fun xs H Q => (∃ p ys, xs = [.ref p] ∧ (SqL X.K H p ys ∨ SqT X.K H p ys) ∧ Q (.int ys.length) H) ∨ ∃ z, xs = [.str z] ∧ z.length ≤ sizeLine ∧ Q (.int z.length) H) kLen := by
  intro F Fr l H Q ds vs Q' R rd hq q
  cases rd with
  | nil => exact q.elim
  | cons r1 rr =>
    cases rr with
    | cons _ _ => cases r1 <;> exact q.elim
    | nil =>
      cases r1 with
      | @tup p vs ds h1 r1 => exact .inl ⟨p, vs, rfl, .inr (tq (R.fz _ _ h1)), hq _ _ (LK.mk (.int _) R (by rw [← r1.length]; exact q))⟩
      | @kt p od vs ds h1 _ _ r1 => exact .inl ⟨p, vs, rfl, .inr (.inl (.inr ⟨_, R.fz _ _ h1⟩)), hq _ _ (LK.mk (.int _) R (by rw [← r1.length]; exact q))⟩
      | @lst p vs ds h1 r1 => exact .inl ⟨p, vs, rfl, .inl (.inl (.inl (R.fz _ _ h1))), hq _ _ (LK.mk (.int _) R (by rw [← r1.length]; exact q))⟩
      | @scr p ns h1 => exact .inl ⟨p, _, rfl, .inl (sqL_mono R.fz h1), hq _ _ (LK.mk (.int _) R (by rw [List.length_map]; exact q))⟩
      | str z => exact .inr ⟨_, rfl, q.1, hq _ _ (LK.mk (.int _) R q.2)⟩
      | ref a =>
        obtain ⟨o, ho, q⟩ := q
        cases o with
        | lst ds =>
          obtain ⟨vs, r1, h1⟩ := (R.lv _ _ ho).2
          exact .inl ⟨a, vs, rfl, .inl (.inl (.inl h1)), hq _ _ (LK.mk (.int _) R (by rw [← r1.length]; exact q))⟩
        | _ => exact q.elim
      | _ => exact q.elim
def kAbs : List D → LH → DK → Prop := fun ds l Q => match ds with
  | [.int i] => Q (.int (if i < 0 then -i else i)) l
  | _ => False
theorem kAbs_ok : KCall X (fun xs H Q => ∃ i, xs = [.int i] ∧ Q (.int (if i < 0 then -i else i)) H) kAbs := by
  intro F Fr l H Q ds vs Q' R rd hq q
  cases rd with
  | nil => exact q.elim
  | cons r1 rr =>
    cases rr with
    | cons _ _ => cases r1 <;> exact q.elim
    | nil =>
      cases r1 <;> try exact q.elim
      exact ⟨_, rfl, hq _ _ (LK.mk (.int _) R q)⟩
/-- int(n), int(flag) -/
def kInt1 : List D → LH → DK → Prop := fun ds l Q => match ds with
  | [.int i] => Q (.int i) l
  | [.bl b] => Q (.int (if b then 1 else 0)) l
  | _ => False
theorem kInt1_ok : KCall X (fun xs H Q => (∃ i, xs = [.int i] ∧ Q (.int i) H) ∨ ∃ k, xs = [.bl k] ∧ Q (.int (if k then 1 else 0)) H) kInt1 := by
  intro F Fr l H Q ds vs Q' R rd hq q
  cases rd with
  | nil => exact q.elim
  | cons r1 rr =>
    cases rr with
    | cons _ _ => cases r1 <;> exact q.elim
    | nil =>
      cases r1 <;> try exact q.elim
      · exact .inr ⟨_, rfl, hq _ _ (LK.mk (.int _) R q)⟩
      · exact .inl ⟨_, rfl, hq _ _ (LK.mk (.int _) R q)⟩
def kMax : List D → LH → DK → Prop := fun ds l Q => match ds with
  | [.int i, .int j] => Q (.int (if j > i then j else i)) l
  | _ => False
theorem kMax_ok : KCall X (fun xs H Q => ∃ i j, xs = [.int i, .int j] ∧ Q (.int (if j > i then j else i)) H) kMax := by
  intro F Fr l H Q ds vs Q' R rd hq q
  cases rd with
  | nil => exact q.elim
  | cons r1 rr =>
    cases r1 <;> try (cases rr <;> exact q.elim)
    cases rr with
    | nil => exact q.elim
    | cons r2 rr =>
      cases rr with
      | cons _ _ => cases r2 <;> exact q.elim
      | nil =>
        cases r2 <;> try exact q.elim
        exact ⟨_, _, rfl, hq _ _ (LK.mk (.int _) R q)⟩
def kDivmod : List D → LH → DK → Prop := fun ds l Q => match ds with
  | [.int i, .int j] => CDiv i j ∧ Q (.tup [.int (i / j), .int (i % j)]) l
  | _ => False
theorem kDivmod_ok : KCall X (fun xs H Q => ∃ i j, xs = [.int i, .int j] ∧ CDiv i j ∧ ∀ p, H p = none → Q (.ref p) (upd H p (.tup [.int (i / j), .int (i % j)]))) kDivmod := by
  intro F Fr l H Q ds vs Q' R rd hq q
  cases rd with
  | nil => exact q.elim
  | cons r1 rr =>
    cases r1 <;> try (cases rr <;> exact q.elim)
    cases rr with
    | nil => exact q.elim
    | cons r2 rr =>
      cases rr with
      | cons _ _ => cases r2 <;> exact q.elim
      | nil =>
        cases r2 <;> try exact q.elim
        exact ⟨_, _, rfl, q.1, fun p np => hq _ _ (LK.tup np R (.cons (.int _) (.cons (.int _) .nil)) q.2)⟩
/-- list(x), tuple(x) -/
def kList (new : List D → LH → DK → Prop) : List D → LH → DK → Prop := fun ds l Q => match ds with
  | [.tup xs] => new xs l Q
  | [.kt xs] => new xs l Q
  | [.lst xs] => new xs l Q
  | [.ref a] => getO l a fun o => match o with | .lst xs => new xs l Q | _ => False
  | _ => False
def nLst : List D → LH → DK → Prop := fun xs l Q => Q (.lst xs) l
def nMut : List D → LH → DK → Prop := fun xs l Q => newL (.lst xs) l Q
def kListF := kList nLst
def kListM := kList nMut
def kTuple : List D → LH → DK → Prop := fun ds l Q => match ds with
  | [.tup xs] => Q (.tup xs) l
  | [.kt xs] => Q (.kt xs) l
  | [.lst xs] => Q (.tup xs) l
  | [.ref a] => getO l a fun o => match o with | .lst xs => Q (.tup xs) l | _ => False
  | _ => False
theorem kList_ok {new : List D → LH → DK → Prop} (hn : ∀ {F Fr : Hp} {l : LH} {H : Hp} {Q : DK} {vs : List V} {ds : List D} {p : Addr}, H p = none → Rep X.K F Fr l H → RelDs X.K F ds vs → new ds l Q → LK X.K F Fr Q (.ref p) (upd H p (.lst vs))) :
    KCall X (fun xs H Q => ∃ p ys, xs = [.ref p] ∧ (SqL X.K H p ys ∨ SqT X.K H p ys) ∧ ∀ l, H l = none → Q (.ref l) (upd H l (.lst ys))) (kList new) := by
  intro F Fr l H Q ds vs Q' R rd hq q
  cases rd with
  | nil => exact q.elim
  | cons r1 rr =>
    cases rr with
    | cons _ _ => cases r1 <;> exact q.elim
    | nil =>
      cases r1 with
      | @tup p vs ds h1 r1 => exact ⟨p, vs, rfl, .inr (tq (R.fz _ _ h1)), fun p np => hq _ _ (hn np R r1 q)⟩
      | @kt p od vs ds h1 _ _ r1 => exact ⟨p, vs, rfl, .inr (.inl (.inr ⟨_, R.fz _ _ h1⟩)), fun p np => hq _ _ (hn np R r1 q)⟩
      | @lst p vs ds h1 r1 => exact ⟨p, vs, rfl, .inl (.inl (.inl (R.fz _ _ h1))), fun p np => hq _ _ (hn np R r1 q)⟩
      | ref a =>
        obtain ⟨o, ho, q⟩ := q
        cases o with
        | lst ds =>
          obtain ⟨vs, r1, h1⟩ := (R.lv _ _ ho).2
          exact ⟨a, vs, rfl, .inl (.inl (.inl h1)), fun p np => hq _ _ (hn np R r1 q)⟩
        | _ => exact q.elim
      | _ => exact q.elim
theorem kListF_ok : KCall X (fun xs H Q => ∃ p ys, xs = [.ref p] ∧ (SqL X.K H p ys ∨ SqT X.K H p ys) ∧ ∀ l, H l = none → Q (.ref l) (upd H l (.lst ys))) kListF := kList_ok fun np R r q => LK.lst np R r q
theorem kListM_ok : KCall X (fun xs H Q => ∃ p ys, xs = [.ref p] ∧ (SqL X.K H p ys ∨ SqT X.K H p ys) ∧ ∀ l, H l = none → Q (.ref l) (upd H l (.lst ys))) kListM := kList_ok fun np R r q => LK.mut np R r q
theorem kTuple_ok : KCall X (fun xs H Q => ∃ p ys, xs = [.ref p] ∧ ((SqL X.K H p ys ∧ ∀ l, H l = none → Q (.ref l) (upd H l (.tup ys))) ∨ (SqT X.K H p ys ∧ Q (.ref p) H))) kTuple := by
  intro F Fr l H Q ds vs Q' R rd hq q
  cases rd with
  | nil => exact q.elim
  | cons r1 rr =>
    cases rr with
    | cons _ _ => cases r1 <;> exact q.elim
    | nil =>
      cases r1 with
      | @tup p vs ds h1 r1 => exact ⟨p, vs, rfl, .inr ⟨tq (R.fz _ _ h1), hq _ _ (LK.mk (.tup h1 r1) R q)⟩⟩
      | @kt p od vs ds h1 hc hd r1 => exact ⟨p, vs, rfl, .inr ⟨.inl (.inr ⟨_, R.fz _ _ h1⟩), hq _ _ (LK.mk (.kt h1 hc hd r1) R q)⟩⟩
      | @lst p vs ds h1 r1 => exact ⟨p, vs, rfl, .inl ⟨.inl (.inl (R.fz _ _ h1)), fun p np => hq _ _ (LK.tup np R r1 q)⟩⟩
      | ref a =>
        obtain ⟨o, ho, q⟩ := q
        cases o with
        | lst ds =>
          obtain ⟨vs, r1, h1⟩ := (R.lv _ _ ho).2
          exact ⟨a, vs, rfl, .inl ⟨.inl (.inl h1), fun p np => hq _ _ (LK.tup np R r1 q)⟩⟩
        | _ => exact q.elim
      | _ => exact q.elim
/-! isinstance -/
inductive Ty | non | bl | int | str | tup | lst
def tyName : Ty → String
  | .non => "NoneType" | .bl => "bool" | .int => "int" | .str => "str" | .tup => "tuple" | .lst => "list"
def isTy : Ty → Ty → Bool
  | .non, .non | .bl, .bl | .int, .int | .str, .str | .tup, .tup | .lst, .lst | .bl, .int => true
  | _, _ => false
theorem isTy_ok : ∀ a b : Ty, kitB (tyName a) (tyName b) = some (isTy a b) := by
  intro a b
  cases a <;> cases b <;> decide +kernel
def tyK (d : D) (l : LH) (k : Ty → Prop) : Prop := match d with
  | .non => k .non | .bl _ => k .bl | .int _ => k .int | .str _ => k .str | .tup _ => k .tup | .lst _ => k .lst
  | .ref a => getO l a fun o => match o with | .lst _ => k .lst | _ => False
  | _ => False
theorem tyK_ok {K : PySem.W.Frag} {F Fr H : Hp} {l : LH} {d : D} {v : V} {k : Ty → Prop} (R : Rep K F Fr l H) (r : RelD K F d v) (q : tyK d l k) : ∃ t, k t ∧ TyX K H v (.type (tyName t)) := by
  cases r with
  | non => exact ⟨_, q, .base .non⟩
  | bl b => exact ⟨_, q, .base (.bl b)⟩
  | int i => exact ⟨_, q, .base (.int i)⟩
  | str i => exact ⟨_, q, .base (.str i)⟩
  | tup h1 r1 =>
    refine ⟨_, q, ?_⟩
    exact .base (.tup (R.fz _ _ h1))
  | lst h1 r1 => exact ⟨_, q, .base (.lst (R.fz _ _ h1))⟩
  | ref a =>
    obtain ⟨o, ho, q⟩ := q
    cases o with
    | lst ds =>
      obtain ⟨vs, r1, h1⟩ := (R.lv _ _ ho).2
      exact ⟨_, q, .base (.lst h1)⟩
    | _ => exact q.elim
  | _ => exact q.elim
variable {a b e : Expr} {ta tb tc te : DTE} {pos : Pos} {es : List Expr} {u : DTA}
def dIsI (T : Ty) (te : DTE) : DTE := fun env l Q => te env l fun d l1 => tyK d l1 fun t => Q (.bl (isTy t T)) l1
theorem ClsVty (n : String) : ClsV (.ty n) (.type n) := by constructor
theorem de_isI {x y : Str} {p p2 : Pos} (T : Ty) (hx : x = "isinstance" := by rfl) (hg : Gl X x) (hm : X.mg x = none) (hv : bootBuiltins x = some (.builtin "isinstance")) (hg2 : Gl X y) (hm2 : X.mg y = none) (hv2 : bootBuiltins y = some (.type (tyName T))) (hn2 : y ≠ "__name__") (hd2 : (y == ("__debug__" : Str)) = false) (h : DE X e te)
    (he : starEach (e :: [.Name y p2]) X.env = (false, eval e X.env) :: starEach [.Name y p2] X.env := by rfl) : DE X (.Call (.Name x p) [e, .Name y p2] [] pos) (dIsI T te) := by
  refine ⟨?_⟩
  intro F Fr env l σ H Q hE hR ht
  subst hx
  refine (pe_callB call_isi hg hm hv (pa_cons peW (pa_cons (pe_bltn (v := .ty (tyName T)) hg2 hm2 hv2 rfl hn2 hd2) pa_nil) he) (by decide) (by decide) he).we ?_
  refine (h F Fr env l σ H _ hE hR ht).mono fun x H1 ⟨F1, d, l1, s1, r1, R1, q1⟩ => ?_
  obtain ⟨t, q2, ty⟩ := tyK_ok R1 r1 q1
  exact ⟨x, .ty (tyName T), _, _, isTy t T, rfl, ClsVty _, ty, kit_ty (isTy_ok t T), F1, _, l1, s1, .bl _, R1, q2⟩

theorem de_len (hg : Gl X "len") (hm : X.mg "len" = none) {p : Pos} (h : DE X e te) (he : starEach [e] X.env = (false, eval e X.env) :: starEach [] X.env := by rfl) : DE X (.Call (.Name "len" p) [e] [] pos) (dCall kLen (aCons te aNil)) :=
  de_callB call_len2 kLen_ok hg hm PySem.boot_len (da_cons h da_nil he) (by decide) (by decide) he
end
end DL

namespace DL
open PySem PySem.Spec PyProof.Rows L2

/-! ### targets -/
theorem wipe_set {i : Nat} {x : Option V} : ∀ {vs : List Nat} {σ : St}, i ∈ vs → L2.wipe (σ.set i x) vs = L2.wipe σ vs := by
  have key : ∀ (vs : List Nat) (σ : St), (i ∈ vs → L2.wipe (σ.set i x) vs = L2.wipe σ vs) ∧ (i ∉ vs → L2.wipe (σ.set i x) vs = (L2.wipe σ vs).set i x) := by
    intro vs
    induction vs with
    | nil => exact fun σ => ⟨fun h => by simp at h, fun _ => rfl⟩
    | cons v vs ih =>
      intro σ
      obtain ⟨h1, h2⟩ := ih σ
      constructor
      · intro h
        show (L2.wipe (σ.set i x) vs).set v none = (L2.wipe σ vs).set v none
        by_cases hi : i ∈ vs
        · rw [h1 hi]
        · have e : i = v := by
            rcases List.mem_cons.mp h with e | e
            · exact e
            · exact absurd e hi
          subst e
          rw [h2 hi, List.set_set]
      · intro h
        simp only [List.mem_cons, not_or] at h
        show (L2.wipe (σ.set i x) vs).set v none = ((L2.wipe σ vs).set v none).set i x
        rw [h2 h.2, List.set_comm _ _ h.1]
  intro vs σ h
  exact (key vs σ).1 h
section
variable {X : Cx}
def gName (i : Nat) : DTG := fun d env l Q => setK env i d fun env' => Q env' l
theorem dg_name {i : Nat} {x : Str} {pos : Pos} {vs : List Nat} (hN : X.N.Nodup) (hi : X.N[i]? = some x) (hx : Loc X.env.scope x) (hv : i ∈ vs) (hf : X.fn x = true ∨ X.env.scope.names.lookup x = some .local := by first | exact .inl rfl | exact .inr rfl | assumption) : DG X (.Name x pos) vs (gName i) := by
  refine ⟨?_⟩
  intro F Fr env l σ H d v Q he hr hd ht
  refine (pg_name hN hi hx hf).wg ?_
  unfold gName at ht
  rw [setK_eq] at ht
  exact ⟨wipe_set hv, F, _, l, Same.refl F, he.set hd i, hr, ht⟩
def gNil : List D → DSt → LH → (DSt → LH → Prop) → Prop := fun ds env l Q => match ds with | [] => Q env l | _ => False
def gCons (g : DTG) (u : List D → DSt → LH → (DSt → LH → Prop) → Prop) : List D → DSt → LH → (DSt → LH → Prop) → Prop := fun ds env l Q => match ds with
  | d :: r => g d env l fun env1 l1 => u r env1 l1 Q
  | [] => False
def gTup (n : Nat) (u : List D → DSt → LH → (DSt → LH → Prop) → Prop) : DTG := fun d env l Q => match d with
  | .tup ds => ds.length = n ∧ u ds env l Q
  | .lst ds => ds.length = n ∧ u ds env l Q
  | .ref a => getO l a fun o => match o with | .lst ds => ds.length = n ∧ u ds env l Q | _ => False
  | _ => False
theorem dgs_nil {vs : List Nat} : DGs X [] vs gNil := by
  refine ⟨?_⟩
  intro F Fr env l σ H d v Q he hr hd ht
  cases hd with
  | nil => exact pgs_nil.wgs ⟨rfl, rfl, F, env, l, Same.refl F, he, hr, ht⟩
  | cons _ _ => exact ht.elim
theorem dgs_cons {e : Expr} {es : List Expr} {vs : List Nat} {g : DTG} {u : List D → DSt → LH → (DSt → LH → Prop) → Prop} (h1 : DG X e vs g) (h2 : DGs X es vs u)
    (hm : (assignEach (e :: es) X.env).map (·.2) = assign e X.env :: (assignEach es X.env).map (·.2) := by rfl) : DGs X (e :: es) vs (gCons g u) := by
  refine ⟨?_⟩
  intro F Fr env l σ H d v Q he hr hd ht
  cases hd with
  | nil => exact ht.elim
  | cons r1 rr =>
    refine (pgs_cons pgW pgsW hm).wgs ?_
    refine ⟨_, _, rfl, ?_⟩
    refine (h1 F Fr env l σ H _ _ _ he hr r1 ht).mono fun σ1 H1 ⟨w1, F1, env1, l1, s1, he1, R1, q1⟩ => ?_
    refine (h2 F1 Fr env1 l1 σ1 H1 _ _ _ he1 R1 (rr.mono s1) q1).mono fun σ2 H2 ⟨w2, q2⟩ => ?_
    exact ⟨w2.trans w1, q2.weak s1⟩
theorem dg_tup {es : List Expr} {k n : Nat} {pos : Pos} {vs : List Nat} {u : List D → DSt → LH → (DSt → LH → Prop) → Prop} (hc : X.calm = true) (h : DGs X es vs u)
    (hn : (assignEach es X.env).length = n := by rfl) (hst : (assignEach es X.env).findIdx? (·.1) = none := by rfl) : DG X (.Tuple es k pos) vs (gTup n u) := by
  refine ⟨?_⟩
  intro F Fr env l σ H d v Q he hr hd ht
  cases hd with
  | @tup p vs ds h1 rr =>
    refine (pg_tup hc pgsW hn hst).wg ?_
    exact ⟨p, _, rfl, tq (hr.fz _ _ h1), by rw [← rr.length]; exact ht.1, h F Fr env l σ H _ _ _ he hr rr ht.2⟩
  | @lst p vs ds h1 rr =>
    refine (pg_unl hc pgsW hn hst).wg ?_
    exact ⟨p, _, rfl, .inl (.inl (hr.fz _ _ h1)), by rw [← rr.length]; exact ht.1, h F Fr env l σ H _ _ _ he hr rr ht.2⟩
  | ref a =>
    obtain ⟨o, ho, ht⟩ := ht
    cases o with
    | lst ds =>
      obtain ⟨vs, rr, h1⟩ := (hr.lv _ _ ho).2
      refine (pg_unl hc pgsW hn hst).wg ?_
      exact ⟨a, _, rfl, .inl (.inl h1), by rw [← rr.length]; exact ht.1, h F Fr env l σ H _ _ _ he hr rr ht.2⟩
    | _ => exact ht.elim
  | _ => exact ht.elim
/-- o[i] = v -/
def gSub (to ti : DTE) (k : D → D → D → LH → (LH → Prop) → Prop) : DTG := fun d env l Q => to env l fun o l1 => ti env l1 fun i l2 => k o i d l2 fun l3 => Q env l3
def KSet (X : Cx) (t : TSet) (k : D → D → D → LH → (LH → Prop) → Prop) : Prop := ∀ F Fr l H (Q : LH → Prop) o i d ov iv v (Q' : Hp → Prop), Rep X.K F Fr l H → RelD X.K F o ov → RelD X.K F i iv → RelD X.K F d v → (∀ H, LH' X.K F Fr Q H → Q' H) → k o i d l Q → t ov iv v H Q'
theorem dg_sub {o i : Expr} {to ti : DTE} {t : TSet} {k : D → D → D → LH → (LH → Prop) → Prop} {pos : Pos} {vs : List Nat} (hs : PSet X t) (hk : KSet X t k) (ho : DE X o to) (hi : DE X i ti)
    (ha : ∀ v, assign (.Subscript o i pos) X.env v = (do
      let ov ← holding [v] (eval o X.env)
      let iv ← holding [v, ov] (eval i X.env)
      standAt pos
      holding [v, ov, iv] (setItem ov iv v)
      release [v, ov, iv] []) := by intro _; rfl) : DG X (.Subscript o i pos) vs (gSub to ti k) := by
  refine ⟨?_⟩
  intro F Fr env l σ H d v Q he hr hd ht
  refine (pg_sub peW peW hs ha).wg ?_
  refine (ho F Fr env l σ H _ he hr ht).mono fun x H1 ⟨F1, d1, l1, s1, r1, R1, q1⟩ => ?_
  refine (hi F1 Fr env l1 σ H1 _ (he.mono s1) R1 q1).mono fun y H2 ⟨F2, d2, l2, s2, r2, R2, q2⟩ => ?_
  refine hk F2 Fr l2 H2 _ d1 d2 d x y v _ R2 (r1.mono s2) r2 (hd.mono (s1.trans s2)) (fun H3 q => ?_) q2
  obtain ⟨F3, l3, s3, R3, q3⟩ := q
  exact ⟨rfl, F3, env, l3, s1.trans (s2.trans s3), he.mono (s1.trans (s2.trans s3)), R3, q3⟩
def kSetL : D → D → D → LH → (LH → Prop) → Prop := fun o i d l Q => match o, i with
  | .ref a, .int k => getO l a fun u => match u with | .lst ds => ∃ j, ixN ds.length k = some j ∧ Q (uL l a (.lst (ds.set j d))) | _ => False
  | _, _ => False
theorem kSetL_ok : KSet X rSetL kSetL := by
  intro F Fr l H Q o i d ov iv v Q' R ro ri rd hq q
  cases ro <;> try exact q.elim
  cases ri <;> try exact q.elim
  obtain ⟨u, ho, q⟩ := q
  cases u with
  | lst ds =>
    obtain ⟨j, hj, q⟩ := q
    obtain ⟨vs, rr, h1⟩ := (R.lv _ _ ho).2
    exact ⟨_, vs, _, j, rfl, rfl, h1, by rw [← rr.length]; exact hj, hq _ ⟨F, _, Same.refl F, R.write ho rfl (show DOk X.K F _ _ (.lst (ds.set j d)) from ⟨_, rr.set rd j, upd_same⟩), q⟩⟩
  | _ => exact q.elim
def gIx (to ti : DTE) : DTG := gSub to ti kSetL

/-! ### statements -/
section
variable {e : Expr} {te : DTE} {st : Stmt} {rest : List Stmt} {t u : DTS} {pos : Pos}
def sSeq (t u : DTS) : DTS := fun E env l => t ⟨u E, E.rt, E.bk, E.ct⟩ env l
def sNext : DTS := fun E env l => E.nx env l
theorem dss_nil : DSs X [] sNext := ⟨fun F Fr env l σ H E he hr ht => pss_nil.wss ⟨F, env, l, Same.refl F, he, hr, ht⟩⟩
theorem dss_one (h : DS X st t) : DSs X [st] t := ⟨fun F Fr env l σ H E he hr ht => (pss_one psW).wss (h F Fr env l σ H E he hr ht)⟩
theorem dss_cons (h1 : DS X st t) (h2 : DSs X rest u) : DSs X (st :: rest) (sSeq t u) := by
  refine ⟨?_⟩
  intro F Fr env l σ H E he hr ht
  refine (pss_cons psW pssW).wss ?_
  refine (h1 F Fr env l σ H _ he hr ht).mono (fun σ1 H1 ⟨F1, env1, l1, s1, he1, R1, q1⟩ => ?_) (fun _ _ q => q) (fun _ _ q => q) (fun _ _ q => q)
  exact (h2 F1 Fr env1 l1 σ1 H1 E he1 R1 q1).mono (fun _ _ q => LS.weak s1 q) (fun _ _ q => LK.weak s1 q) (fun _ _ q => LS.weak s1 q) (fun _ _ q => LS.weak s1 q)
def sRet (te : DTE) : DTS := fun E env l => te env l E.rt
theorem ds_ret (h : DE X e te) : DS X (.Return (some e) pos) (sRet te) := ⟨fun F Fr env l σ H E he hr ht => (ps_ret peW).ws (h F Fr env l σ H _ he hr ht)⟩
def sExpr (te : DTE) : DTS := fun E env l => te env l fun _ l1 => E.nx env l1
theorem ds_expr (h : DE X e te) (hs : swapsWith e none pos.line X.env = pure false := by rfl) : DS X (.Expr e pos) (sExpr te) := by
  refine ⟨?_⟩
  intro F Fr env l σ H E he hr ht
  refine (ps_expr peW hs).ws ?_
  exact (h F Fr env l σ H _ he hr ht).mono fun x H1 ⟨F1, d, l1, s1, r1, R1, q1⟩ => ⟨F1, env, l1, s1, he.mono s1, R1, q1⟩
def sIf (tt : DTT) (t u : DTS) : DTS := fun E env l => tt env l fun c l1 => ifB c (t E env l1) (u E env l1)
theorem ds_if {c : Expr} {a b : List Stmt} {tt : DTT} (hc : DT X c tt) (ha : DSs X a t) (hb : DSs X b u) : DS X (.If c a b pos) (sIf tt t u) := by
  refine ⟨?_⟩
  intro F Fr env l σ H E he hr ht
  refine (ps_if ptW pssW pssW).ws ?_
  refine (hc F Fr env l σ H _ he hr ht).mono fun x H1 ⟨F1, l1, s1, R1, q1⟩ => ?_
  cases x with
  | true => exact L2.iteT ((ha F1 Fr env l1 σ H1 E (he.mono s1) R1 (ifB_T q1)).mono (fun _ _ q => LS.weak s1 q) (fun _ _ q => LK.weak s1 q) (fun _ _ q => LS.weak s1 q) (fun _ _ q => LS.weak s1 q))
  | false => exact L2.iteF ((hb F1 Fr env l1 σ H1 E (he.mono s1) R1 (ifB_F q1)).mono (fun _ _ q => LS.weak s1 q) (fun _ _ q => LK.weak s1 q) (fun _ _ q => LS.weak s1 q) (fun _ _ q => LS.weak s1 q))
def sAsg (te : DTE) (g : DTG) : DTS := fun E env l => te env l fun d l1 => g d env l1 E.nx
theorem ds_asg {tg : Expr} {g : DTG} {vs : List Nat} (h : DE X e te) (hg : DG X tg vs g) (hs : swapsWithSole [tg] e pos.line X.env = pure false := by rfl) (hw : swappedStores [tg] e X.env = pure none := by rfl)
    (h1 : (assignEach [tg] X.env).map (·.2) = [assign tg X.env] := by rfl) : DS X (.Assign [tg] e pos) (sAsg te g) := by
  refine ⟨?_⟩
  intro F Fr env l σ H E he hr ht
  refine (ps_asg peW pgW hs hw h1).ws ?_
  refine (h F Fr env l σ H _ he hr ht).mono fun x H1 ⟨F1, d, l1, s1, r1, R1, q1⟩ => ?_
  exact (hg F1 Fr env l1 σ H1 _ _ _ (he.mono s1) R1 r1 q1).mono fun σ2 H2 ⟨_, q2⟩ => LS.weak s1 q2
def sSet (i : Nat) (te : DTE) : DTS := fun E env l => te env l fun d l1 => setK env i d fun env' => E.nx env' l1
theorem ds_set {i : Nat} {x : Str} {pos' : Pos} (hN : X.N.Nodup) (hi : X.N[i]? = some x) (hx : Loc X.env.scope x) (h : DE X e te) (hs : swapsWith e (some (.Name x pos')) pos.line X.env = pure false := by rfl) (hf : X.fn x = true ∨ X.env.scope.names.lookup x = some .local := by first | exact .inl rfl | exact .inr rfl | assumption) : DS X (.Assign [.Name x pos'] e pos) (sSet i te) := by
  refine ⟨?_⟩
  intro F Fr env l σ H E he hr ht
  refine (ps_set hN hi hx peW hs hf).ws ?_
  refine (h F Fr env l σ H _ he hr ht).mono fun x H1 ⟨F1, d, l1, s1, r1, R1, q1⟩ => ?_
  replace q1 : setK env i d fun env' => E.nx env' l1 := q1
  rw [setK_eq] at q1
  exact ⟨F1, _, l1, s1, (he.mono s1).set r1 i, R1, q1⟩
/-- a, b = e1, e2 of plain local names -/
def sPar (i j : Nat) (ta : DTA) : DTS := fun E env l => ta env l fun ds l1 => match ds with
  | [v, w] => setK env i v fun env1 => setK env1 j w fun env2 => E.nx env2 l1
  | _ => False
theorem ds_par {i j : Nat} {x y : Str} {a b : Expr} {ta : DTA} {px py pt : Pos} {kt k2 pt2} (hc : X.calm = true) (hN : X.N.Nodup) (hi : X.N[i]? = some x) (hj : X.N[j]? = some y) (hij : i ≠ j)
    (hx : X.env.scope.names.lookup x = some .local) (hy : X.env.scope.names.lookup y = some .local) (ha : DA X [a, b] ta)
    (hw : swappedStores [.Tuple [.Name x px, .Name y py] kt pt] (.Tuple [a, b] k2 pt2) X.env = pure (some [x, y]))
    (hs : swapsWithSole [.Tuple [.Name x px, .Name y py] kt pt] (.Tuple [a, b] k2 pt2) pos.line X.env = pure false := by rfl) :
    DS X (.Assign [.Tuple [.Name x px, .Name y py] kt pt] (.Tuple [a, b] k2 pt2) pos) (sPar i j ta) := by
  refine ⟨?_⟩
  intro F Fr env l σ H E he hr ht
  refine (ps_par hc hN hi hj hij hx hy paW hw hs).ws ?_
  refine (ha F Fr env l σ H _ he hr ht).mono fun vs H1 ⟨F1, ds, l1, s1, r1, R1, q1⟩ => ?_
  cases r1 with
  | nil => exact q1.elim
  | cons ra rr =>
    cases rr with
    | nil => exact q1.elim
    | cons rb rr =>
      cases rr with
      | cons _ _ => exact q1.elim
      | nil =>
        replace q1 : setK env i _ _ := q1
        rw [setK_eq, setK_eq] at q1
        exact ⟨_, _, rfl, F1, _, l1, s1, ((he.mono s1).set ra i).set rb j, R1, q1⟩
/-! ### loops -/
def forL (g : DTG) (tb : DTS) : List D → DTS
  | [], E, env, l => E.nx env l
  | d :: ds, E, env, l => g d env l fun env1 l1 => tb ⟨forL g tb ds E, E.rt, E.nx, forL g tb ds E⟩ env1 l1
def sFor (ti : DTI) (g : DTG) (tb : DTS) : DTS := fun E env l => ti env l fun ds l1 => forL g tb ds E env l1
theorem ds_for {tg iter : Expr} {body : List Stmt} {ti : DTI} {g : DTG} {tb : DTS} {vs : List Nat} (hp : PassesOwn (model X.prog X.w) X.A X.env X.xe) (hc : X.calm = true) (hi : DI X tg iter ti) (hg : DG X tg vs g) (hb : DSs X body tb)
    (hs : ∀ x, foldedSetIterable iter X.env x = pure x := by intro _; rfl) : DS X (.For tg iter body [] pos) (sFor ti g tb) := by
  refine ⟨?_⟩
  intro F Fr env l σ H E he hr ht
  refine (ps_for hp hc piW pgW pssW hs).ws ?_
  refine (hi F Fr env l σ H _ he hr ht).mono fun J H1 ⟨F1, l1, ds, s1, R1, jk, q1⟩ => ?_
  refine ⟨fun i m σ H => m = ds.length - i ∧ i ≤ ds.length ∧ ∃ F' env l, Same F1 F' ∧ RepE X.K F' env σ ∧ Rep X.K F' Fr l H ∧ forL g tb (ds.drop i) E env l, ⟨_, rfl, Nat.zero_le _, F1, env, l1, Same.refl _, he.mono s1, R1, q1⟩, ?_⟩
  rintro i m σ H ⟨rfl, hi, F2, env, l, s2, he2, R2, q2⟩
  obtain ⟨j1, j2⟩ := jk i F2 Fr l H s2 R2
  by_cases hlt : i < ds.length
  · rw [List.drop_eq_getElem_cons hlt] at q2
    obtain ⟨go, y⟩ := j2 ds[i] (List.getElem?_eq_getElem hlt)
    refine .inr ⟨go, fun σ H => ∃ F' env l, Same F1 F' ∧ RepE X.K F' env σ ∧ Rep X.K F' Fr l H ∧ forL g tb (ds.drop (i + 1)) E env l, fun σ' H' h => ⟨_, by omega, rfl, hlt, h⟩, fun x H' hy => ?_⟩
    obtain ⟨F3, s3, rx, R3⟩ := y x H' hy
    refine (hg F3 Fr env l σ H' _ _ _ (he2.mono s3) R3 rx q2).mono fun σ4 H4 ⟨_, F4, env4, l4, s4, he4, R4, q4⟩ => ?_
    have S : Same F1 F4 := s2.trans (s3.trans s4)
    refine (hb F4 Fr env4 l4 σ4 H4 _ he4 R4 q4).mono (fun σ5 H5 q => ?_) (fun _ _ q => LK.weak (s1.trans S) q) (fun _ _ q => LS.weak (s1.trans S) q) (fun σ5 H5 q => ?_)
    · obtain ⟨F5, env5, l5, s5, he5, R5, q5⟩ := q
      exact ⟨F5, env5, l5, S.trans s5, he5, R5, q5⟩
    · obtain ⟨F5, env5, l5, s5, he5, R5, q5⟩ := q
      exact ⟨F5, env5, l5, S.trans s5, he5, R5, q5⟩
  · have e : i = ds.length := by omega
    subst e
    rw [List.drop_length] at q2
    exact .inl ⟨j1 (Nat.le_refl _), F2, env, l, s1.trans s2, he2, R2, q2⟩
end
end
end DL

namespace DL
open PySem PySem.Spec PyProof.Rows L2

/-! ### what is walked -/
section
variable {X : Cx} {tg : Expr}
theorem it_list {pins : List (Addr × Obj)} {σ : St} {H : Hp} {s : Shared} {R : It → Hp → Prop} {E : Value → Shared → Prop} {a : Addr} {xs : List V} (I : Inv X pins σ H s) (hq : SqL X.K H a xs) (q : R (Itl X.K a) H) :
    wpAny (model X.prog X.w) X.A (pyIter (.ref a)) (PIE X pins σ tg R) E s := by
  obtain ⟨its, rv, p, hz⟩ := I.list hq
  refine wpAny_pyIter_list p.isList ?_
  refine ⟨s.heap.objs.size, [s.heap.objs.size], _, _, H, rfl, I.kept (t' := s.toks) fun b o e => Heap.get?_push_of_some _ e, turn_list a _, ⟨_, Heap.get?_push_size _ rfl, rfl, rfl⟩, fun b hb => ?_, q⟩
  have e : b = s.heap.objs.size := by simpa using hb
  subst e
  exact I.fpOk (Nat.le_refl _) (I.hok.fresh (Nat.le_refl _))
theorem it_tup {pins : List (Addr × Obj)} {σ : St} {H : Hp} {s : Shared} {R : It → Hp → Prop} {E : Value → Shared → Prop} {a : Addr} {xs : List V} (I : Inv X pins σ H s) (hq : SqT X.K H a xs) (q : R (Itt X.K a) H) :
    wpAny (model X.prog X.w) X.A (pyIter (.ref a)) (PIE X pins σ tg R) E s := by
  obtain ⟨its, rv, p, hz⟩ := I.tuple hq
  refine wpAny_pyIter_tuple (show s.heap.IsTuple a its.toArray from p) ?_
  refine ⟨s.heap.objs.size, [s.heap.objs.size], _, _, H, rfl, I.kept (t' := s.toks) fun b o e => Heap.get?_push_of_some _ e, turn_tuple a _, ⟨_, Heap.get?_push_size _ rfl, rfl, rfl⟩, fun b hb => ?_, q⟩
  have e : b = s.heap.objs.size := by simpa using hb
  subst e
  exact I.fpOk (Nat.le_refl _) (I.hok.fresh (Nat.le_refl _))
end
/-- an iterator that gives the items of ds, whatever the reading of its own -/
theorem jok_list {K : PySem.W.Frag} {F : Hp} {a : Addr} {vs : List V} {ds : List D} (h : SqL K F a vs) (r : RelDs K F ds vs) : JOk K F (Itl K a) ds := by
  intro i F' Fr l H s R
  have q : SqL K H a vs := sqL_mono R.fz (sqL_mono s h)
  refine ⟨fun hi => ⟨vs, q, by rw [← r.length]; exact hi⟩, fun d hd => ?_⟩
  obtain ⟨v, hv, rv⟩ := r.get hd
  refine ⟨⟨vs, v, q, hv⟩, fun x H' y => ?_⟩
  obtain ⟨e, y⟩ := y
  subst e
  have e := y vs q
  rw [hv] at e
  cases e
  exact ⟨F', Same.refl _, rv.mono s, R⟩
theorem jok_tup {K : PySem.W.Frag} {F : Hp} {a : Addr} {vs : List V} {ds : List D} (h : SqT K F a vs) (r : RelDs K F ds vs) : JOk K F (Itt K a) ds := by
  intro i F' Fr l H s R
  have q : SqT K H a vs := sqT_mono R.fz (sqT_mono s h)
  refine ⟨fun hi => ⟨vs, q, by rw [← r.length]; exact hi⟩, fun d hd => ?_⟩
  obtain ⟨v, hv, rv⟩ := r.get hd
  refine ⟨⟨vs, v, q, hv⟩, fun x H' y => ?_⟩
  obtain ⟨e, y⟩ := y
  subst e
  have e := y vs q
  rw [hv] at e
  cases e
  exact ⟨F', Same.refl _, rv.mono s, R⟩
section
variable {X : Cx} {tg e e2 : Expr} {te : DTE} {ta : DTA}
def iSeq (te : DTE) : DTI := fun env l R => te env l fun d l1 => match d with
  | .lst ds => R ds l1
  | .tup ds => R ds l1
  | .scr ns => R (ns.map D.int) l1
  | .kt ds => R ds l1
  | _ => False
theorem di_seq (h : DE X e te) : DI X tg e (iSeq te) := by
  refine ⟨?_⟩
  intro F Fr env l σ H R he hr ht pins s I
  refine thn (h F Fr env l σ H _ he hr ht pins s I) fun v s1 ⟨x, H1, I1, r1, F1, d, l1, s1', rd, R1, q1⟩ => ?_
  cases rd with
  | @tup p vs ds h1 rr => cases r1; exact it_tup I1 (tq (R1.fz _ _ h1)) ⟨F1, l1, ds, s1', R1, jok_tup (tq h1) rr, q1⟩
  | @kt p od vs ds h1 _ _ rr => cases r1; exact it_tup I1 (.inl (.inr ⟨_, R1.fz _ _ h1⟩)) ⟨F1, l1, ds, s1', R1, jok_tup (.inl (.inr ⟨_, h1⟩)) rr, q1⟩
  | @lst p vs ds h1 rr => cases r1; exact it_list I1 (.inl (.inl (R1.fz _ _ h1))) ⟨F1, l1, ds, s1', R1, jok_list (.inl (.inl h1)) rr, q1⟩
  | @scr p ns h1 => cases r1; exact it_list I1 (sqL_mono R1.fz h1) ⟨F1, l1, _, s1', R1, jok_list h1 (relDs_ints ns), q1⟩
  | _ => exact q1.elim
def rgD (lo : Int) (n : Nat) : List D := (List.range n).map fun i => D.int (lo + (i : Nat))
theorem jok_rng {K : PySem.W.Frag} {F : Hp} (lo : Int) (n : Nat) : JOk K F (Itr lo n) (rgD lo n) := by
  intro i F' Fr l H s R
  refine ⟨fun hi => by
    show n ≤ i
    simpa [rgD] using hi, fun d hd => ?_⟩
  have hi : i < n := by
    have := (List.getElem?_eq_some_iff.mp hd).1
    simpa [rgD] using this
  refine ⟨hi, fun x H' y => ?_⟩
  obtain ⟨e, y⟩ := y
  subst e y
  have e : d = .int (lo + (i : Nat)) := by
    unfold rgD at hd
    rw [List.getElem?_map, List.getElem?_range hi] at hd
    exact (Option.some.inj hd).symm
  subst e
  exact ⟨F', Same.refl _, .int _, R⟩
def iRg1 (ta : DTA) : DTI := fun env l R => ta env l fun ds l1 => match ds with
  | [.int j] => (-(2 ^ 62) ≤ j ∧ j < 2 ^ 62) ∧ R (rgD 0 j.toNat) l1
  | _ => False
def iRg2 (ta : DTA) : DTI := fun env l R => ta env l fun ds l1 => match ds with
  | [.int i, .int j] => (-(2 ^ 62) ≤ i ∧ i < 2 ^ 62 ∧ -(2 ^ 62) ≤ j ∧ j < 2 ^ 62) ∧ R (rgD i (j - i).toNat) l1
  | _ => False
theorem di_range1 {p pos : Pos} (hg : Gl X "range") (hm : X.mg "range" = none) (ha : DA X [e] ta) (hs : starEach [e] X.env = [(false, eval e X.env)] := by rfl) : DI X tg (.Call (.Name "range" p) [e] [] pos) (iRg1 ta) := by
  refine ⟨?_⟩
  intro F Fr env l σ H R he hr ht
  refine (pi_range1 hg hm paW hs).wi ?_
  refine (ha F Fr env l σ H _ he hr ht).mono fun vs H1 ⟨F1, ds, l1, s1, r1, R1, q1⟩ => ?_
  cases r1 with
  | nil => exact q1.elim
  | cons ra rr =>
    cases rr with
    | cons _ _ => cases ra <;> exact q1.elim
    | nil =>
      cases ra <;> try exact q1.elim
      exact ⟨_, rfl, q1.1.1, q1.1.2, F1, l1, _, s1, R1, jok_rng 0 _, q1.2⟩
theorem di_range2 {p pos : Pos} (hg : Gl X "range") (hm : X.mg "range" = none) (ha : DA X [e, e2] ta) (hs : starEach [e, e2] X.env = [(false, eval e X.env), (false, eval e2 X.env)] := by rfl) (hs2 : starEach [e2] X.env = [(false, eval e2 X.env)] := by rfl) : DI X tg (.Call (.Name "range" p) [e, e2] [] pos) (iRg2 ta) := by
  refine ⟨?_⟩
  intro F Fr env l σ H R he hr ht
  refine (pi_range2 hg hm paW hs hs2).wi ?_
  refine (ha F Fr env l σ H _ he hr ht).mono fun vs H1 ⟨F1, ds, l1, s1, r1, R1, q1⟩ => ?_
  cases r1 with
  | nil => exact q1.elim
  | cons ra rr =>
    cases ra <;> try (cases rr <;> exact q1.elim)
    cases rr with
    | nil => exact q1.elim
    | cons rb rr =>
      cases rr with
      | cons _ _ => cases rb <;> exact q1.elim
      | nil =>
        cases rb <;> try exact q1.elim
        exact ⟨_, _, rfl, q1.1, F1, l1, _, s1, R1, jok_rng _ _, q1.2⟩
def enumD : Nat → List D → List D
  | _, [] => []
  | i, d :: ds => .tup [.int (i : Nat), d] :: enumD (i + 1) ds
theorem enumD_get : ∀ (ds : List D) (k i : Nat), (enumD k ds)[i]? = (ds[i]?).map fun d => D.tup [.int ((k + i : Nat) : Int), d]
  | [], _, _ => by simp [enumD]
  | d :: ds, k, 0 => by simp [enumD]
  | d :: ds, k, i + 1 => by
    show (enumD (k + 1) ds)[i]? = _
    rw [enumD_get ds (k + 1) i, Nat.add_right_comm, Nat.add_assoc]
    rfl
theorem enumD_length : ∀ (ds : List D) (k : Nat), (enumD k ds).length = ds.length
  | [], _ => rfl
  | d :: ds, k => by rw [enumD, List.length_cons, enumD_length ds, List.length_cons]
theorem jok_enum {K : PySem.W.Frag} {F : Hp} {a : Addr} {vs : List V} {ds : List D} (h : SqL K F a vs) (r : RelDs K F ds vs) : JOk K F (Ite K a) (enumD 0 ds) := by
  intro i F' Fr l H s R
  have q : SqL K H a vs := sqL_mono R.fz (sqL_mono s h)
  refine ⟨fun hi => ⟨vs, q, by rw [← r.length]; rw [enumD_length] at hi; exact hi⟩, fun d hd => ?_⟩
  rw [enumD_get] at hd
  cases e0 : ds[i]? with
  | none => rw [e0] at hd; cases hd
  | some d0 =>
    rw [e0] at hd
    cases hd
    obtain ⟨v, hv, rv⟩ := r.get e0
    refine ⟨⟨vs, v, q, hv⟩, fun x H' y => ?_⟩
    obtain ⟨T, x0, rfl, nT, rfl, y⟩ := y
    have e := y vs q
    rw [hv] at e
    cases e
    rw [Nat.zero_add]
    exact ⟨_, same_upd (R.F_none nT), relTup (R.F_none nT) (.cons (.int _) (.cons (rv.mono s) .nil)), R.laid nT _⟩
def iEnum (ta : DTA) : DTI := fun env l R => ta env l fun ds l1 => match ds with
  | [.lst xs] => R (enumD 0 xs) l1
  | [.scr ns] => R (enumD 0 (ns.map D.int)) l1
  | _ => False
theorem di_enum {p pos tpos : Pos} {elts : List Expr} {kk : Nat} (hg : Gl X "enumerate") (hm : X.mg "enumerate" = none) (ha : DA X [e] ta) (hs : starEach [e] X.env = [(false, eval e X.env)] := by rfl) : DI X (.Tuple elts kk tpos) (.Call (.Name "enumerate" p) [e] [] pos) (iEnum ta) := by
  refine ⟨?_⟩
  intro F Fr env l σ H R he hr ht
  refine (pi_enum hg hm paW hs).wi ?_
  refine (ha F Fr env l σ H _ he hr ht).mono fun vs H1 ⟨F1, ds, l1, s1, r1, R1, q1⟩ => ?_
  cases r1 with
  | nil => exact q1.elim
  | cons ra rr =>
    cases rr with
    | cons _ _ => cases ra <;> exact q1.elim
    | nil =>
      cases ra with
      | @scr p ns h1 => exact ⟨p, _, rfl, sqL_mono R1.fz h1, F1, l1, _, s1, R1, jok_enum h1 (relDs_ints ns), q1⟩
      | @lst p vs ds h1 rr => exact ⟨p, _, rfl, .inl (.inl (R1.fz _ _ h1)), F1, l1, _, s1, R1, jok_enum (.inl (.inl h1)) rr, q1⟩
      | _ => exact q1.elim
def zipD : List D → List D → List D
  | a :: as, b :: bs => .tup [a, b] :: zipD as bs
  | _, _ => []
end
end DL

namespace DL
open PySem PySem.Spec PyProof.Rows L2

/-! ### comprehensions -/
theorem wipe_wipe (σ : St) (vs : List Nat) : L2.wipe (L2.wipe σ vs) vs = L2.wipe σ vs := by
  have key : ∀ us : List Nat, (∀ u ∈ us, u ∈ vs) → L2.wipe (L2.wipe σ us) vs = L2.wipe σ vs := by
    intro us
    induction us with
    | nil => exact fun _ => rfl
    | cons u us ih =>
      intro h
      show L2.wipe ((L2.wipe σ us).set u none) vs = _
      rw [wipe_set (h u List.mem_cons_self)]
      exact ih fun w hw => h w (List.mem_cons_of_mem _ hw)
  exact key vs fun _ h => h
def compL (g : DTG) (tt : DTT) (te : DTE) (vs : List Nat) : List D → DSt → LH → (List D → LH → Prop) → Prop
  | [], _, l, Q => Q [] l
  | d :: ds, env, l, Q => wipeK vs env fun env0 => g d env0 l fun env1 l1 => tt env1 l1 fun c l2 =>
      ifB c (te env1 l2 fun r l3 => compL g tt te vs ds env l3 fun rs l4 => Q (r :: rs) l4) (compL g tt te vs ds env l2 Q)
def tYes : DTT := fun _ l Q => Q true l
/-- ifs of a comprehension -/
def DTs (X : Cx) (ifs : List Expr) (t : DTT) : Prop := ∃ T : TT, PTs X ifs T ∧ ∀ F Fr env l σ H Q, RepE X.K F env σ → Rep X.K F Fr l H → t env l Q → T σ H (LB X.K F Fr Q)
theorem dts_nil {X : Cx} : DTs X [] tYes := ⟨_, pts_nil, fun F Fr env l σ H Q he hr ht => ⟨F, l, Same.refl F, hr, ht⟩⟩
def WTs (X : Cx) (ifs : List Expr) : TT := fun σ H Q => ∀ pins s, Inv X pins σ H s → wpAny (model X.prog X.w) X.A (forIn ifs true fun c r => if r = true then do let ok ← isTrue c X.env (eval c X.env); pure (ForInStep.yield ok) else pure (ForInStep.yield r)) (TP X pins σ Q) X.xe s
section
variable {X : Cx}
theorem WTs.mono {ifs : List Expr} {σ : St} {H : Hp} {Q Q' : Bool → Hp → Prop} (w : WTs X ifs σ H Q) (h : ∀ v H, Q v H → Q' v H) : WTs X ifs σ H Q' := fun pins s I => thn (w pins s I) fun _ _ ⟨H, a, b⟩ => ⟨H, a, h _ _ b⟩
theorem DTs.w {ifs : List Expr} {t : DTT} (h : DTs X ifs t) : ∀ F Fr env l σ H Q, RepE X.K F env σ → Rep X.K F Fr l H → t env l Q → WTs X ifs σ H (LB X.K F Fr Q) := by
  obtain ⟨T, hT, h⟩ := h
  exact fun F Fr env l σ H Q he hr ht pins s I => hT.run pins s σ H _ I (h F Fr env l σ H Q he hr ht)
variable {elt tg iter : Expr} {ifs : List Expr} {scope : Scope} {own : List (Str × Nat)} {pos : Pos} {ti : DTI} {g : DTG} {tt : DTT} {te : DTE}
/-- the loop of a comprehension, its own readings given as the strongest ones in any block -/
theorem comp_core {F Fr : Hp} {env : DSt} {l : LH} {σ : St} {H : Hp} {Qf : List D → LH → Prop} {Qd : VK} {vs : List Nat} {G : TG} {TT' : TT} {TE' : TE} (he : RepE X.K F env σ) (hr : Rep X.K F Fr l H)
    (hi : DI X tg iter ti)
    (hg : ∀ F Fr env l σ H d v Q, RepE X.K F env σ → Rep X.K F Fr l H → RelD X.K F d v → g d env l Q → G v σ H (LG X.K F Fr vs σ Q))
    (hgm : ∀ v σ H Q Q', G v σ H Q → (∀ σ H, Q σ H → Q' σ H) → G v σ H Q')
    (ht : ∀ F Fr env l σ H Q, RepE X.K F env σ → Rep X.K F Fr l H → tt env l Q → TT' σ H (LB X.K F Fr Q))
    (htm : ∀ σ H Q Q', TT' σ H Q → (∀ b H, Q b H → Q' b H) → TT' σ H Q')
    (hE : ∀ F Fr env l σ H Q, RepE X.K F env σ → Rep X.K F Fr l H → te env l Q → TE' σ H (LK X.K F Fr Q))
    (hEm : ∀ σ H Q Q', TE' σ H Q → (∀ v H, Q v H → Q' v H) → TE' σ H Q')
    (hd : ∀ F' Fr' l' H' D acc vacc, Same F F' → Fr' = upd Fr D (.lst vacc) → Fr D = none → RelDs X.K F' acc vacc → Rep X.K F' Fr' l' H' → Qf acc l' → Qd (.ref D) H')
    (q : ti env l fun ds l1 => ds.length ≤ sizeLine ∧ compL g tt te vs ds env l1 Qf) : tLc (WI X tg iter) G TT' TE' vs σ H Qd := by
  refine (hi F Fr env l σ H _ he hr q).mono fun J H1 ⟨F1, l1, ds, s1, R1, jk, hz, q1⟩ => ?_
  intro p nD
  have nFr : Fr p = none := R1.Fr_none nD
  refine ⟨fun i m H => m = ds.length - i ∧ i ≤ ds.length ∧ ∃ F' l acc vacc, Same F1 F' ∧ Rep X.K F' (upd Fr p (.lst vacc)) l H ∧ RelDs X.K F' acc vacc ∧ acc.length ≤ i ∧ compL g tt te vs (ds.drop i) env l fun rs l' => Qf (acc ++ rs) l',
    ⟨_, rfl, Nat.zero_le _, F1, l1, [], [], Same.refl _, R1.take nD _, .nil, Nat.le_refl _, q1⟩, ?_⟩
  rintro i m H ⟨rfl, hi, F2, l2, acc, vacc, s2, R2, ra, hl, q2⟩
  obtain ⟨j1, j2⟩ := jk i F2 _ l2 H s2 R2
  by_cases hlt : i < ds.length
  · rw [List.drop_eq_getElem_cons hlt] at q2
    obtain ⟨go, y⟩ := j2 ds[i] (List.getElem?_eq_getElem hlt)
    refine .inr ⟨go, fun H => ∃ F' l acc vacc, Same F1 F' ∧ Rep X.K F' (upd Fr p (.lst vacc)) l H ∧ RelDs X.K F' acc vacc ∧ acc.length ≤ i + 1 ∧ compL g tt te vs (ds.drop (i + 1)) env l fun rs l' => Qf (acc ++ rs) l', fun H' h => ⟨_, by omega, rfl, hlt, h⟩, fun x H' hy => ?_⟩
    obtain ⟨F3, s3, rx, R3⟩ := y x H' hy
    replace q2 : wipeK vs env _ := q2
    rw [wipeK_eq] at q2
    have he3 : RepE X.K F3 (wipeE env vs) (L2.wipe σ vs) := (((he.mono s1).mono s2).mono s3).wipe vs
    refine hgm _ _ _ _ _ (hg F3 _ _ l2 _ H' _ _ _ he3 R3 rx q2) fun σ4 H4 ⟨w4, F4, env4, l4, s4, he4, R4, q4⟩ => ?_
    refine ⟨w4.trans (wipe_wipe σ vs), ?_⟩
    refine htm _ _ _ _ (ht F4 _ env4 l4 σ4 H4 _ he4 R4 q4) fun c H5 ⟨F5, l5, s5, R5, q5⟩ => ?_
    have S5 : Same F2 F5 := s3.trans (s4.trans s5)
    cases c with
    | false =>
      exact L2.iteF ⟨F5, l5, acc, vacc, s2.trans S5, R5, ra.mono S5, Nat.le_succ_of_le hl, ifB_F q5⟩
    | true =>
      refine L2.iteT (hEm _ _ _ _ (hE F5 _ env4 l5 σ4 H5 _ (he4.mono s5) R5 (ifB_T q5)) fun v H6 ⟨F6, d6, l6, s6, r6, R6, q6⟩ => ?_)
      have S6 : Same F2 F6 := S5.trans s6
      have ra6 := ra.mono S6
      refine ⟨vacc, R6.fr p _ upd_same, ?_, F6, l6, acc ++ [d6], vacc ++ [v], s2.trans S6, R6.turn _, ra6.append (.cons r6 .nil), ?_, ?_⟩
      · rw [← ra6.length]; omega
      · rw [List.length_append]; exact Nat.succ_le_succ hl
      · have e : (fun (rs : List D) l' => Qf (acc ++ [d6] ++ rs) l') = fun rs l' => Qf (acc ++ (d6 :: rs)) l' := by
          funext rs l'
          rw [List.append_assoc]
          rfl
        rw [e]
        exact q6
  · have e : i = ds.length := by omega
    subst e
    rw [List.drop_length] at q2
    replace q2 : Qf (acc ++ []) l2 := q2
    rw [List.append_nil] at q2
    exact .inl ⟨j1 (Nat.le_refl _), hd F2 _ l2 H p acc vacc (s1.trans s2) rfl nFr ra R2 q2⟩
def dLc (ti : DTI) (g : DTG) (tt : DTT) (te : DTE) (vs : List Nat) : DTE := fun env l Q => ti env l fun ds l1 => ds.length ≤ sizeLine ∧ compL g tt te vs ds env l1 fun rs l2 => Q (.lst rs) l2
theorem lc_end {F Fr F' Fr' : Hp} {l' : LH} {H' : Hp} {p : Addr} {acc : List D} {vacc : List V} {Q : DK} (s : Same F F') (e : Fr' = upd Fr p (.lst vacc)) (n : Fr p = none) (ra : RelDs X.K F' acc vacc) (R : Rep X.K F' Fr' l' H') (q : Q (.lst acc) l') : LK X.K F Fr Q (.ref p) H' := by
  subst e
  have nF : F' p = none := (R.fd p _ upd_same).1
  exact ⟨upd F' p (.lst vacc), .lst acc, l', s.trans (same_upd nF), relLst nF ra, R.give n, q⟩
section
variable (hc : X.calm = true) (hN : X.N.Nodup) (hi : DI X tg iter ti) (ok : BlkOk X.N X.env.scope scope own)
    (hg : ∀ (s : Shared) (H : Hp) (C : Addr) (cl : List (Str × Addr)) (fp : List Addr), DG (X.blk s H scope (compEnvC scope cl C X.env) fp) tg (own.map (·.2)) g)
    (ht : ∀ (s : Shared) (H : Hp) (C : Addr) (cl : List (Str × Addr)) (fp : List Addr), DTs (X.blk s H scope (compEnvC scope cl C X.env) fp) ifs tt)
    (he : ∀ (s : Shared) (H : Hp) (C : Addr) (cl : List (Str × Addr)) (fp : List Addr), DE (X.blk s H scope (compEnvC scope cl C X.env) fp) elt te)
include hi hg ht he
/-- the readings of the parts, whatever the block -/
def AG (X : Cx) (scope : Scope) (tg : Expr) : TG := fun v σ H Q => ∀ (s : Shared) (H0 : Hp) (C : Addr) (cl : List (Str × Addr)) (fp : List Addr), WG (X.blk s H0 scope (compEnvC scope cl C X.env) fp) tg v σ H Q
def AT (X : Cx) (scope : Scope) (ifs : List Expr) : TT := fun σ H Q => ∀ (s : Shared) (H0 : Hp) (C : Addr) (cl : List (Str × Addr)) (fp : List Addr), WTs (X.blk s H0 scope (compEnvC scope cl C X.env) fp) ifs σ H Q
def AE (X : Cx) (scope : Scope) (elt : Expr) : TE := fun σ H Q => ∀ (s : Shared) (H0 : Hp) (C : Addr) (cl : List (Str × Addr)) (fp : List Addr), WE (X.blk s H0 scope (compEnvC scope cl C X.env) fp) elt σ H Q
theorem comp_any {F Fr : Hp} {env : DSt} {l : LH} {σ : St} {H : Hp} {Qf : List D → LH → Prop} {Qd : VK} (hE : RepE X.K F env σ) (hr : Rep X.K F Fr l H)
    (hd : ∀ F' Fr' l' H' D acc vacc, Same F F' → Fr' = upd Fr D (.lst vacc) → Fr D = none → RelDs X.K F' acc vacc → Rep X.K F' Fr' l' H' → Qf acc l' → Qd (.ref D) H')
    (q : ti env l fun ds l1 => ds.length ≤ sizeLine ∧ compL g tt te (own.map (·.2)) ds env l1 Qf) : tLc (WI X tg iter) (AG X scope tg) (AT X scope ifs) (AE X scope elt) (own.map (·.2)) σ H Qd :=
  comp_core hE hr hi (fun F Fr env l σ H d v Q a b c d' s H0 C cl fp => hg s H0 C cl fp F Fr env l σ H d v Q a b c d') (fun v σ H Q Q' w h s H0 C cl fp => (w s H0 C cl fp).mono h)
    (fun F Fr env l σ H Q a b c s H0 C cl fp => (ht s H0 C cl fp).w F Fr env l σ H Q a b c) (fun σ H Q Q' w h s H0 C cl fp => (w s H0 C cl fp).mono h)
    (fun F Fr env l σ H Q a b c s H0 C cl fp => he s H0 C cl fp F Fr env l σ H Q a b c) (fun σ H Q Q' w h s H0 C cl fp => (w s H0 C cl fp).mono h) hd q
include hc hN ok
theorem de_lc (hs : ∀ x, foldedSetIterable iter X.env x = pure x := by intro _; rfl) : DE X (.ListComp elt [⟨tg, iter, ifs, 0⟩] scope pos) (dLc ti g tt te (own.map (·.2))) := by
  refine ⟨?_⟩
  intro F Fr env l σ H Q hE hr q
  refine (pe_lc (g := AG X scope tg) (tt := AT X scope ifs) (te := AE X scope elt) hc hN piW ok (fun s H0 C cl fp => ⟨fun pins s' σ' H' v u Q' I r h => h s H0 C cl fp pins s' u I r⟩) (fun s H0 C cl fp => ⟨fun pins s' σ' H' Q' I h => h s H0 C cl fp pins s' I⟩) (fun s H0 C cl fp => ⟨fun pins s' σ' H' Q' I h => h s H0 C cl fp pins s' I⟩) hs).we ?_
  exact comp_any hi hg ht he hE hr (fun F' Fr' l' H' p acc vacc s e n ra R q => lc_end s e n ra R q) q
end
end

/-! ### defs -/
abbrev DSp := List D → LH → DK → Prop
def spOf (K : PySem.W.Frag) (dsp : DSp) : Sp := fun vs H Q _ => ∃ F Fr ds l Qd, RelDs K F ds vs ∧ Rep K F Fr l H ∧ dsp ds l Qd ∧ ∀ v H', LK K F Fr Qd v H' → Q v H'
/-- what a def's body makes of the arguments -/
def fnD (tb : DTS) (np nl : Nat) : DSp := fun ds l Q => ds.length = np ∧ tb ⟨fun _ l => Q .non l, Q, fun _ _ => False, fun _ _ => False⟩ (ds.map some ++ List.replicate nl none) l
/-- a call: not looked into -/
structure callD (sp : DSp) (ds : List D) (l : LH) (Q : DK) : Prop where
  run : sp ds l Q
def dDef (sp : DSp) (t : DTA) : DTE := fun env l Q => t env l fun ds l1 => callD sp ds l1 Q
section
variable {X : Cx} {e : Expr} {es : List Expr} {t : DTA} {pos p : Pos} {x : Str}
/-- a def keeps its reading, called where no repr is under way -/
structure FnG (P : Program) (w : World) (K : PySem.W.Frag) (mg : Str → Option Value) (base : Heap) (k : Nat) (f : Addr) (fd : FuncData) (ps : List Str) (dsp : DSp) : Prop where
  len : ∀ ds l Q, dsp ds l Q → ds.length = ps.length
  run : ∀ (A : Around) (outer : List Env) (s : Shared) (H : Hp) (args : Args) (us : List Value) (vs : List V) (Q : VK) (E : XK), Room k A → A.guards = some [] → Env0 P w K mg base A outer s H → BindsTo s fd args (ps.zip us) → Vals vs us → spOf K dsp vs H Q E →
    codeAny (model P w) A (.call (.ref f) args) (CR CX0 outer P w H s Q E) s
theorem FnG.mono {P : Program} {w : World} {K : PySem.W.Frag} {mg : Str → Option Value} {base : Heap} {j k : Nat} {f : Addr} {fd : FuncData} {ps : List Str} {dsp : DSp} (G : FnG P w K mg base j f fd ps dsp) (h : j ≤ k) : FnG P w K mg base k f fd ps dsp :=
  ⟨G.len, fun A outer s H args us vs Q E hr => G.run A outer s H args us vs Q E (hr.mono h)⟩
theorem FnG.imp {P : Program} {w : World} {K : PySem.W.Frag} {mg : Str → Option Value} {base : Heap} {k : Nat} {f : Addr} {fd : FuncData} {ps : List Str} {dsp dsp' : DSp} (G : FnG P w K mg base k f fd ps dsp) (h : ∀ ds l Q, dsp' ds l Q → dsp ds l Q) : FnG P w K mg base k f fd ps dsp' :=
  ⟨fun ds l Q q => G.len ds l Q (h _ _ _ q), fun A outer s H args us vs Q E hr hg e hb r ⟨F, Fr, ds, l, Qd, a, b, c, d⟩ => G.run A outer s H args us vs Q E hr hg e hb r ⟨F, Fr, ds, l, Qd, a, b, h _ _ _ c, d⟩⟩
theorem de_call {k : Nat} {f : Addr} {fd : FuncData} {ps : List Str} {dsp : DSp} (G : FnG X.prog X.w X.K X.mg X.base k f fd ps dsp) (hr : Room k X.A) (hgd : X.A.guards = some []) (hg : Gl X x) (hm : X.mg x = some (.ref f)) (hk : PySem.W.keepIn X.K (.ref f) = true) (hb : Binds X.K fd ps []) (ha : DA X (e :: es) t)
    (hdb : (x == ("__debug__" : Str)) = false := by decide) (he : starEach (e :: es) X.env = (false, eval e X.env) :: starEach es X.env := by rfl) (hpl : (backTo pos (starEach es X.env)).any (·.1) = false := by rfl) : DE X (.Call (.Name x p) (e :: es) [] pos) (dDef dsp t) := by
  refine ⟨?_⟩
  intro F Fr env l σ H Q hE hR ht pins s I
  refine wpAny_Call_Name_kw (ld_glob I hg hm ?_ hdb)
  refine PySem.W.callWith_K (h₀ := X.base) I.ok.mod.kin hk (thn (ha F Fr env l σ H _ hE hR ht pos pins s I) fun us s1 ⟨vs, H1, I1, r, F1, ds, l1, s1', r1, R1, q1⟩ => ⟨I1.kIn, ?_⟩) he hpl
  have hsp : spOf X.K dsp vs H1 (LK X.K F Fr Q) E0 := ⟨F1, Fr, ds, l1, Q, r1, R1, q1.run, fun v H' q => q.weak s1'⟩
  have hl : (us ++ []).length = ps.length := by rw [List.append_nil, ← r.length, ← r1.length]; exact G.len _ _ _ q1.run
  have hbd := hb s1 us I1.kIn hl
  rw [List.append_nil] at hbd
  refine wpAny_call (codeAny_mono (G.run X.A X.stack s1 H1 ⟨us, []⟩ us vs _ E0 hr hgd I1.env0 hbd r hsp) fun res s' hq => ?_)
  cases res with
  | error _ => exact hq.elim
  | ok fl =>
    cases fl with
    | ret u => exact I1.after hq
    | next => exact hq.elim
    | brk => exact hq.elim
    | cont => exact hq.elim
theorem fn_ok {P : Program} {w : World} {K : PySem.W.Frag} {mg : Str → Option Value} {base : Heap} {x qual : Str} {st : Stmt} {f : Addr} {fd : FuncData} {N ps : List Str} {k nl : Nat} {tb : DTS} (G : Fun K x qual st f fd) (S : FnScope N ps (defScope st)) (hn : nl = N.length - ps.length)
    (hb : ∀ (cdv : Value) (A : Around) (outer : List Env) (s : Shared) (H : Hp) (E : XK), Room k (A.deeper (envOfC qual (defScope st) s.heap.objs.size f cdv)) → (A.deeper (envOfC qual (defScope st) s.heap.objs.size f cdv)).guards = some [] → DSs (cxOf CX0 P w K mg base N qual (defScope st) f cdv A outer s H E).nox (defBody st) tb) :
    FnG P w K mg base (k + 1) f fd ps (fnD tb ps.length nl) := by
  obtain ⟨oc, od, kV, doc, pm, an, cdv, ct, osl, rfl, lk, hcd⟩ := G.ex
  refine ⟨fun ds l Q h => h.1, fun A outer s H args us vs Q E hr hgd e0 hbd r hsp => ?_⟩
  obtain ⟨F, Fr, ds, l, Qd, rd, R, ⟨h1, q⟩, hq⟩ := hsp
  have hlen : vs.length = ps.length := by rw [← rd.length, h1]
  have inK : K.In s.heap := e0.mod.kin.keeps fun b o e => (e0.bs b o e).1
  have hlim : s.heap.NoLimit := e0.mod.nolimit.keeps fun b o e => (e0.bs b o e).1
  have kinds : ∀ y ∈ ps.zip us, (defScope st).names.lookup y.1 = some .local ∨ ((defScope st).names.lookup y.1 = some .cell ∧ ((cellsFrom (s.heap.objs.size + 1) (defScope st).names []).lookup y.1).isSome = true) := by
    rintro ⟨n, v⟩ hy
    exact (S.par n (List.of_mem_zip hy).1).imp id fun q => ⟨q, PySem.W.cellsFrom_some _ _ _ (.inl q)⟩
  refine codeAny_call_function hr.depth (inK _ _ lk) rfl S.co S.gen rfl (PySem.W.codeRec_of inK hcd) (hbd _ _ _ _ (wpAny_newFunctionEnv_cells S.kind kinds fun env he s1 ic => ?_))
  subst he
  refine ⟨hlim.keeps ic.toInCall.keep, codeAny_func ?_⟩
  have I : Inv (cxOf CX0 P w K mg base N qual (defScope st) f cdv A outer s H E) [] (start N vs) H s1 := inv_start S hr.hd e0 hlen r ic
  have est : L2.start N vs = vs.map some ++ List.replicate nl none := by
    unfold L2.start
    rw [hn, hlen]
  have body : WSs (cxOf CX0 P w K mg base N qual (defScope st) f cdv A outer s H E).nox (defBody st) (LE K F Fr ⟨fun _ l => Qd .non l, Qd, fun _ _ => False, fun _ _ => False⟩) (L2.start N vs) H := by
    rw [est]
    exact hb cdv A outer s H E (hr.deeper _) hgd F Fr _ l _ H _ (RepE.start rd nl) R q
  refine thn (pssW.nox.run [] s1 _ H _ I body) fun fl s' hs => ?_
  have fin : ∀ {σ' : St} {H' : Hp} {v : V} {u : Value}, Inv (cxOf CX0 P w K mg base N qual (defScope st) f cdv A outer s H E) [] σ' H' s' → RelV v u → Q v H' → CE outer P w H s Q u s' := fun J rv q => ⟨_, _, J.os, J.bare, J.base, J.hok, rv, q⟩
  cases fl with
  | ret u => obtain ⟨v, σ', H', J, rv, q⟩ := hs; exact fin J rv (hq v H' q)
  | next =>
    obtain ⟨σ', H', J, F', e', l', s', re, R', q⟩ := hs
    exact fin (v := .non) (u := .none) J rfl (hq .non H' ⟨F', .non, l', s', .non, R', q⟩)
  | brk => obtain ⟨σ', H', J, F', e', l', s', re, R', q⟩ := hs; exact q.elim
  | cont => obtain ⟨σ', H', J, F', e', l', s', re, R', q⟩ := hs; exact q.elim
end

/-! ### methods of a list that may be written -/
section
variable {X : Cx} {o e : Expr} {es : List Expr} {to : DTE} {t : DTA}
def atRef (x : D) (l : LH) (k : Addr → Prop) : Prop := match x with
  | .ref a => getO l a fun u => match u with | .lst _ => k a | _ => False
  | _ => False
def KMt (X : Cx) (r : V → List V → Hp → VK → Prop) (k : Addr → List D → LH → DK → Prop) : Prop := ∀ F Fr l H Q a ds vs (Q' : VK), Rep X.K F Fr l H → RelDs X.K F ds vs → (∀ v H, LK X.K F Fr Q v H → Q' v H) → k a ds l Q → r (.ref a) vs H Q'
def dMt0 (k : Addr → List D → LH → DK → Prop) (to : DTE) : DTE := fun env l Q => to env l fun x l1 => atRef x l1 fun a => k a [] l1 Q
theorem atRef_ok {K : PySem.W.Frag} {F Fr H : Hp} {l : LH} {d : D} {v : V} {k : Addr → Prop} (R : Rep K F Fr l H) (r : RelD K F d v) (q : atRef d l k) : ∃ a, v = .ref a ∧ k a ∧ tyV K "list" (.ref a) H := by
  cases r with
  | ref a =>
    obtain ⟨u, ho, q⟩ := q
    cases u with
    | lst ds =>
      obtain ⟨vs, r1, h1⟩ := (R.lv _ _ ho).2
      exact ⟨a, rfl, q, .inl ⟨rfl, vs, .inl (.inl h1)⟩⟩
    | _ => exact q.elim
  | _ => exact q.elim
theorem de_mt0 {name : Str} {id : String} {r : V → List V → Hp → VK → Prop} {k : Addr → List D → LH → DK → Prop} {apos cpos : Pos} (slot : Slot "list" name id) (hty : typeOf (.builtin id) = pure (.type "method_descriptor")) (hm : MtR X id r) (hk : KMt X r k) (ho : DE X o to)
    (hbase : attributeBase o name X.env (eval o X.env) = eval o X.env := by rfl) (hline : (apos.endLine == cpos.line) = true := by rfl) : DE X (.Call (.Attribute o name apos) [] [] cpos) (dMt0 k to) := by
  refine ⟨?_⟩
  intro F Fr env l σ H Q hE hR ht
  refine (pe_bm0 PySem.F.plainAttrs_list slot hty hm peW hbase hline).we ?_
  refine (ho F Fr env l σ H _ hE hR ht).mono fun x H1 ⟨F1, d, l1, s1, r1, R1, q1⟩ => ?_
  obtain ⟨a, rfl, q2, ty⟩ := atRef_ok R1 r1 q1
  exact ⟨ty, hk F1 Fr l1 H1 Q a [] [] _ R1 .nil (fun _ _ q => q.weak s1) q2⟩
theorem LK.wr {K : PySem.W.Frag} {F Fr H : Hp} {l : LH} {Q : DK} {a : Addr} {o : DO} {ds : List D} {vs : List V} (R : Rep K F Fr l H) (h : l a = some o) (nf : isFz o = false) (r : RelDs K F ds vs) {d : D} {v : V} (rd : RelD K F d v) (q : Q d (uL l a (.lst ds))) : LK K F Fr Q v (upd H a (.lst vs)) :=
  ⟨F, d, _, Same.refl F, rd, R.write h nf (show DOk K F _ a (.lst ds) from ⟨vs, r, upd_same⟩), q⟩
theorem RelDs.dropLast {K : PySem.W.Frag} {F : Hp} {ds : List D} {vs : List V} (r : RelDs K F ds vs) : RelDs K F ds.dropLast vs.dropLast := by
  rw [List.dropLast_eq_take, List.dropLast_eq_take, r.length]
  exact r.take _
def kReverse : Addr → List D → LH → DK → Prop := fun a ds l Q => match ds with
  | [] => getO l a fun u => match u with | .lst xs => Q .non (uL l a (.lst xs.reverse)) | _ => False
  | _ => False
theorem kReverse_ok : KMt X rReverse kReverse := by
  intro F Fr l H Q a ds vs Q' R rd hq q
  cases rd with
  | cons _ _ => exact q.elim
  | nil =>
    obtain ⟨u, ho, q⟩ := q
    cases u with
    | lst xs =>
      obtain ⟨ws, rw', h1⟩ := (R.lv _ _ ho).2
      exact ⟨a, ws, rfl, rfl, h1, hq _ _ (LK.wr R ho rfl rw'.reverse .non q)⟩
    | _ => exact q.elim
/-- what may be written is given out as what is never written any more -/
def frzK (d : D) (l : LH) (Q : DK) : Prop := match d with
  | .ref a => getO l a fun u => match u with | .lst ds => Q (.lst ds) (dL l a) | _ => False
  | d => Q d l
def dFrz (te : DTE) : DTE := fun env l Q => te env l fun d l1 => frzK d l1 Q
theorem de_frz (h : DE X e te) : DE X e (dFrz te) := by
  refine ⟨?_⟩
  intro F Fr env l σ H Q hE hR ht
  refine (h F Fr env l σ H _ hE hR ht).mono fun x H1 ⟨F1, d, l1, s1, r1, R1, q1⟩ => ?_
  cases r1 with
  | ref a =>
    obtain ⟨u, ho, q⟩ := q1
    cases u with
    | lst ds =>
      obtain ⟨vs, rr, h1⟩ := (R1.lv _ _ ho).2
      have n := (R1.lv _ _ ho).1 rfl
      exact ⟨upd F1 a (.lst vs), .lst ds, _, s1.trans (same_upd n), relLst n rr, R1.freeze ho rfl h1, q⟩
    | _ => exact q.elim
  | non => exact ⟨F1, _, l1, s1, .non, R1, q1⟩
  | bl b => exact ⟨F1, _, l1, s1, .bl b, R1, q1⟩
  | int b => exact ⟨F1, _, l1, s1, .int b, R1, q1⟩
  | str b => exact ⟨F1, _, l1, s1, .str b, R1, q1⟩
  | tup a b => exact ⟨F1, _, l1, s1, .tup a b, R1, q1⟩
  | scr a => exact ⟨F1, _, l1, s1, .scr a, R1, q1⟩
  | lst a b => exact ⟨F1, _, l1, s1, .lst a b, R1, q1⟩
  | dT a b c => exact ⟨F1, _, l1, s1, .dT a b c, R1, q1⟩
  | dK a b c => exact ⟨F1, _, l1, s1, .dK a b c, R1, q1⟩
  | exc a b => exact ⟨F1, _, l1, s1, .exc a b, R1, q1⟩
  | exc1 a b c d => exact ⟨F1, _, l1, s1, .exc1 a b c d, R1, q1⟩
  | kt a b c d => exact ⟨F1, _, l1, s1, .kt a b c d, R1, q1⟩
end
end DL

namespace DL
open PySem PySem.Spec PyProof.Rows L2
/-- a place where a reading stands still -/
structure Stop (p : Prop) : Prop where
  run : p
def nS (t : DTS) : DTS := fun E env l => Stop (t E env l)
def nE (t : DTE) : DTE := fun env l Q => Stop (t env l Q)
theorem dss_nS {X : Cx} {b : List Stmt} {t : DTS} (h : DSs X b t) : DSs X b (nS t) := ⟨fun F Fr env l σ H E he hr ht => h F Fr env l σ H E he hr ht.run⟩
theorem de_nE {X : Cx} {e : Expr} {t : DTE} (h : DE X e t) : DE X e (nE t) := ⟨fun F Fr env l σ H Q he hr ht => h F Fr env l σ H Q he hr ht.run⟩
section
variable {X : Cx} {pos : Pos}
end
end DL

namespace DL
open PySem PySem.Spec PyProof.Rows L2
theorem mulL {i j : Int} (h1 : -(2 ^ 64) < i) (h2 : i < 2 ^ 64) : IntMulOk i j := CMul.ok (.inl ⟨h1, h2⟩)
theorem mulR {i j : Int} (h1 : -(2 ^ 64) < j) (h2 : j < 2 ^ 64) : IntMulOk i j := CMul.ok (.inr ⟨h1, h2⟩)
theorem b01 (b : Bool) : (0 : Int) ≤ (if b = true then (1 : Int) else 0) ∧ (if b = true then (1 : Int) else 0) ≤ 1 := by cases b <;> decide
theorem atI_ints {ns : List Int} {k : Int} (h0 : 0 ≤ k) (h1 : k < ns.length) : ∃ c, atI (ns.map D.int) k = some (D.int c) ∧ atI ns k = some c := by
  obtain ⟨j, rfl⟩ := Int.eq_ofNat_of_zero_le h0
  have hl : j < ns.length := by omega
  exact ⟨ns[j], atI_nat (by rw [List.getElem?_map, List.getElem?_eq_getElem hl]; rfl), atI_nat (List.getElem?_eq_getElem hl)⟩
/-- what a box holds: drawn from behind at most k draws -/
def BoxO (o : DO) (k : Nat) : Prop := ∃ c0 c1 c2 : Int, o = .lst [.int c0, .int c1, .int c2] ∧ 0 ≤ c0 ∧ 0 ≤ c1 ∧ c1 < 2147483647 ∧ 0 ≤ c2 ∧ c2 ≤ k
def Box (l : LH) (a : Addr) (k : Nat) : Prop := ∃ o, l a = some o ∧ BoxO o k
def Oth (l l' : LH) (a : Addr) : Prop := ∀ b, b ≠ a → l' b = l b
theorem Oth.refl {l : LH} {a : Addr} : Oth l l a := fun _ _ => rfl
theorem Oth.trans {l l1 l2 : LH} {a : Addr} (h : Oth l l1 a) (h' : Oth l1 l2 a) : Oth l l2 a := fun b n => (h' b n).trans (h b n)
theorem Oth.upd {l : LH} {a : Addr} {o : DO} : Oth l (uL l a o) a := fun b n => uL_ne n
theorem Box.new {l : LH} {a : Addr} {c0 c1 : Int} (h0 : 0 ≤ c0) (h1 : 0 ≤ c1) (h2 : c1 < 2147483647) : Box (uL l a (.lst [.int c0, .int c1, .int 0])) a 0 := ⟨_, uL_same, c0, c1, 0, rfl, h0, h1, h2, Int.le_refl _, Int.le_refl _⟩

/-! data alike -/
def okN (n : Nat) (d : D) : Prop := (toPy d).canLay0 = true ∧ (toPy d).depth ≤ n
theorem okN.ok {n : Nat} {d : D} (h : okN n d) (hn : n ≤ 64 := by decide) : okD d := by
  unfold okD SeqAt.shaped
  rw [h.1, decide_eq_true (Nat.le_trans h.2 hn)]
  rfl
theorem okN.mono {n m : Nat} {d : D} (h : okN n d) (hm : n ≤ m) : okN m d := ⟨h.1, Nat.le_trans h.2 hm⟩
theorem okN_int (i : Int) : okN 0 (.int i) := ⟨by rw [toPy, PyData.canLay0], by rw [toPy, PyData.depth]; exact Nat.le_refl _⟩
theorem okN_all {n : Nat} : ∀ {ds : List D}, (∀ d ∈ ds, okN n d) → PyData.canLayAll0 (toPys ds) = true ∧ PyData.depthAll (toPys ds) ≤ n
  | [], _ => ⟨by rw [toPys, PyData.canLayAll0], by rw [toPys, PyData.depthAll]; exact Nat.zero_le _⟩
  | d :: ds, h => by
    obtain ⟨h1, h2⟩ := okN_all (ds := ds) fun e he => h e (List.mem_cons_of_mem _ he)
    obtain ⟨h3, h4⟩ := h d List.mem_cons_self
    exact ⟨by rw [toPys, PyData.canLayAll0, h3, h1]; rfl, by rw [toPys, PyData.depthAll]; exact Nat.max_le.mpr ⟨h4, h2⟩⟩
theorem okN_tup {n : Nat} {ds : List D} (h : ∀ d ∈ ds, okN n d) : okN (n + 1) (.tup ds) := by
  obtain ⟨h1, h2⟩ := okN_all h
  exact ⟨by rw [toPy, PyData.canLay0, h1], by rw [toPy, PyData.depth]; exact Nat.succ_le_succ h2⟩
theorem okN_lst {n : Nat} {ds : List D} (h : ∀ d ∈ ds, okN n d) : okN (n + 1) (.lst ds) := by
  obtain ⟨h1, h2⟩ := okN_all h
  exact ⟨by rw [toPy, PyData.canLay0, h1], by rw [toPy, PyData.depth]; exact Nat.succ_le_succ h2⟩
theorem okN_tints (ns : List Int) : okN 1 (.tup (ns.map D.int)) := okN_tup fun d hd => by
  obtain ⟨i, _, rfl⟩ := List.mem_map.mp hd
  exact okN_int i
theorem eqvs_ints : ∀ ns ms : List Int, PyData.eqvAll (toPys (ns.map D.int)) (toPys (ms.map D.int)) = decide (ns = ms)
  | [], [] => by simp [toPys, PyData.eqvAll]
  | [], _ :: _ => by simp [toPys, PyData.eqvAll]
  | _ :: _, [] => by simp [toPys, PyData.eqvAll]
  | n :: ns, m :: ms => by
    have ih := eqvs_ints ns ms
    simp only [List.map_cons, toPys, toPy, PyData.eqvAll, PyData.eqv, ih]
    by_cases e : n = m
    · subst e; simp
    · simp [e]
theorem eqD_tints (ns ms : List Int) : eqD (.tup (ns.map D.int)) (.tup (ms.map D.int)) = decide (ns = ms) := by
  unfold eqD
  rw [toPy, toPy, PyData.eqv, eqvs_ints]
theorem eqD_int (i j : Int) : eqD (.int i) (.int j) = decide (i = j) := by
  unfold eqD
  rw [toPy, toPy, PyData.eqv, Bool.beq_eq_decide_eq]
theorem small {n : Nat} (h : n ≤ 100000) : n ≤ sizeLine := Nat.le_trans h (by decide)

/-! comprehensions that draw nothing and write nothing -/
def E0 (Q : DK) : DEnds := ⟨fun _ l => Q .non l, Q, fun _ _ => False, fun _ _ => False⟩
/-- a word handed as a tuple or as a list -/
def Hd (x : D) (ws : List Int) : Prop := x = .tup (ws.map D.int) ∨ x = .lst (ws.map D.int)
theorem Hd.t (ws : List Int) : Hd (.tup (ws.map D.int)) ws := .inl rfl
theorem Hd.l (ws : List Int) : Hd (.lst (ws.map D.int)) ws := .inr rfl
theorem lens {ws us : List Int} (hw : ws.length ≤ 60) (hu : us.length ≤ 60) : (ws.map D.int).length + (us.map D.int).length ≤ sizeLine := by
  rw [List.length_map, List.length_map]
  exact small (by omega)
theorem cutD_head (ns : List Int) (n : Int) (hn : 0 ≤ n) : DL.cutD (ns.map D.int) none (some n) = (ns.take n.toNat).map D.int := by
  obtain ⟨j, rfl⟩ := Int.eq_ofNat_of_zero_le hn
  unfold DL.cutD
  rw [HT.sIx_none, HT.sIx_nat, List.drop_zero, Nat.sub_zero, List.length_map, List.map_take]
  show _ = List.take j _
  by_cases h : j ≤ ns.length
  · rw [Nat.min_eq_left h]
  · rw [Nat.min_eq_right (by omega), List.take_of_length_le (by rw [List.length_map]; exact Nat.le_refl _), List.take_of_length_le (by rw [List.length_map]; omega)]
/-- more objects than ahead -/
def Sub (l l' : LH) : Prop := ∀ a o, l a = some o → l' a = some o
theorem Sub.refl {l : LH} : Sub l l := fun _ _ h => h
theorem Sub.trans {l l1 l2 : LH} (h : Sub l l1) (h' : Sub l1 l2) : Sub l l2 := fun a o e => h' a o (h a o e)
theorem Box.sub {l l' : LH} {a : Addr} {k : Nat} (h : Sub l l') : Box l a k → Box l' a k
  | ⟨o, e, b⟩ => ⟨o, h a o e, b⟩
theorem Box.le {l : LH} {a : Addr} {k m : Nat} (h : k ≤ m) : Box l a k → Box l a m
  | ⟨o, e, c0, c1, c2, q, a0, a1, a2, a3, a4⟩ => ⟨o, e, c0, c1, c2, q, a0, a1, a2, a3, by omega⟩
theorem cutD_to (ds : List D) (j : Nat) : DL.cutD ds none (some (j : Int)) = ds.take j := by
  unfold DL.cutD
  rw [HT.sIx_none, HT.sIx_nat, List.drop_zero, Nat.sub_zero]
  by_cases h : j ≤ ds.length
  · rw [Nat.min_eq_left h]
  · rw [Nat.min_eq_right (by omega), List.take_length, List.take_of_length_le (by omega)]
theorem cutD_from (ds : List D) (j : Nat) : DL.cutD ds (some (j : Int)) none = ds.drop j := by
  unfold DL.cutD
  rw [HT.sIx_none, HT.sIx_nat]
  by_cases h : j ≤ ds.length
  · rw [Nat.min_eq_left h, List.take_of_length_le (by rw [List.length_drop]; exact Nat.le_refl _)]
  · rw [Nat.min_eq_right (by omega), List.drop_of_length_le (Nat.le_refl _), List.drop_of_length_le (by omega), List.take_nil]
end DL

namespace DL
open PySem PySem.Spec PyProof.Rows L2
/-! str of a list or a tuple -/
def seqP : PyData → Bool
  | .list _ | .tuple _ => true
  | _ => false
structure strOk (d : D) : Prop where
  lay : okN 8 d
  sh : (toPy d).showable = true
  sz : (toPy d).shown.length ≤ sizeLine
  sq : seqP (toPy d) = true
def rStr (K : PySem.W.Frag) : List V → Hp → VK → Prop := fun xs H Q => ∃ x d, xs = [x] ∧ Dp K H x d ∧ seqP d = true ∧ d.canLay0 = true ∧ d.showable = true ∧ d.shown.length ≤ sizeLine ∧ d.depth ≤ 8 ∧ Q (.str d.shown) H
theorem call_strSeq {X : Cx} {k : Nat} (hr : Room k X.A) (hgd : X.A.guards = some []) : CallR X (.type "str") (rStr X.K) := by
  intro pins s σ H xs us Q I r ⟨x, d, e, hd, hsq, hl, hs, hz, hdp, q⟩
  subst e
  obtain ⟨u, rfl, r1⟩ := vals1 r
  obtain ⟨as, rd⟩ := Dp.reads I d x u hd r1
  have hu : X.A.units + (d.depth + 3) < cLine := by have := hr.un; omega
  have fin : ∀ h' u tk, (∀ b o, s.heap.get? b = some o → h'.get? b = some o) → EP X pins σ Q (.str d.shown u) { s with heap := h', toks := tk } := fun h' u tk hk => ⟨.str _, H, I.un (Un.kept hk) (I.hok.kept hk), ⟨_, rfl⟩, q⟩
  cases rd with
  | none => cases hsq
  | bool b => cases hsq
  | int i t => cases hsq
  | str x t => cases hsq
  | list h1 h2 h3 h4 => exact str_of_reads (.list h1 h2 h3 h4) hs (PyData.noDict_hsm (PyData.hasDict_of_canLay _ hl)) hgd hu (fun _ _ e => e) fin hz
  | tuple h1 h2 h3 h4 => exact str_of_reads (.tuple h1 h2 h3 h4) hs (PyData.noDict_hsm (PyData.hasDict_of_canLay _ hl)) hgd hu (fun _ _ e => e) fin hz
  | dict _ _ _ _ _ => cases hsq
def kStr : List D → LH → DK → Prop := fun ds l Q => match ds with
  | [d] => resL d l fun d => strOk d ∧ Q (.str (toPy d).shown) l
  | _ => False
theorem kStr_ok {X : Cx} : KCall X (rStr X.K) kStr := by
  intro F Fr l H Q ds vs Q' R rd hq q
  cases rd with
  | nil => exact q.elim
  | cons r1 rr =>
    cases rr with
    | cons _ _ => exact q.elim
    | nil =>
      replace q : resL _ l fun d => strOk d ∧ Q (.str (toPy d).shown) l := q
      obtain ⟨d', ⟨hk, q⟩, h⟩ := resL_ok R r1 q
      exact ⟨_, _, rfl, h hk.lay.1, hk.sq, hk.lay.1, hk.sh, hk.sz, hk.lay.2, hq _ _ ⟨F, _, l, Same.refl F, .str _, R, q⟩⟩
section
variable {X : Cx} {e : Expr} {te : DTE} {pos p : Pos} {k : Nat}
end

/-! texts alike -/
def kNeS : D → D → LH → DK → Prop := fun x y l Q => match x, y with | .str a, .str b => Q (.bl (!decide (a = b))) l | _, _ => False
theorem dec_strV (a b : Str) : decide (V.str a = V.str b) = decide (a = b) := by
  rw [Bool.eq_iff_iff]
  simp
theorem kNeS_ok {X : Cx} : KOp X rNe kNeS := by
  intro F Fr l H Q d e v u Q' R rd re hq q
  cases rd with
  | str a =>
    cases re with
    | str b => exact ⟨rfl, by rw [dec_strV]; exact hq _ _ (LK.mk (.bl _) R q)⟩
    | _ => exact q.elim
  | _ => exact q.elim
def dNeS : DTE → DTE → DTE := dOp kNeS
section
variable {X : Cx} {a b : Expr} {ta tb : DTE} {pos : Pos}
theorem dt_neS (ha : DE X a ta) (hb : DE X b tb) : DT X (.Compare a [.NotEq] [b] pos) (dTV (dNeS ta tb)) := dt_cmp op_ne kNeS_ok ha hb (nomark _)
end

/-! what can be shown -/
theorem showableAll_map : ∀ ns : List PyData, (∀ d ∈ ns, d.showable = true) → PyData.showableAll ns = true
  | [], _ => rfl
  | d :: r, h => by rw [PyData.showableAll, h d List.mem_cons_self, showableAll_map r fun e he => h e (List.mem_cons_of_mem _ he)]; rfl
theorem shortAll_map {B : Nat} : ∀ ns : List PyData, (∀ d ∈ ns, d.intsShort B = true) → PyData.intsShortAll B ns = true
  | [], _ => rfl
  | d :: r, h => by rw [PyData.intsShortAll, h d List.mem_cons_self, shortAll_map r fun e he => h e (List.mem_cons_of_mem _ he)]; rfl
theorem weightAll_le {m : Nat} : ∀ ns : List PyData, (∀ d ∈ ns, d.weight ≤ m) → PyData.weightAll ns ≤ (m + 1) * ns.length
  | [], _ => by rw [PyData.weightAll]; exact Nat.zero_le _
  | d :: r, h => by
    have h1 := weightAll_le (m := m) r fun e he => h e (List.mem_cons_of_mem _ he)
    have h2 := h d List.mem_cons_self
    rw [PyData.weightAll, List.length_cons, Nat.mul_succ]
    omega
/-- all ints of it are short, it weighs no more than m -/
structure shwN (m : Nat) (d : PyData) : Prop where
  sh : d.showable = true
  st : d.intsShort 13 = true
  wt : d.weight ≤ m
theorem shwN_int {i : Int} (h : i.natAbs < 10 ^ 12) : shwN 40 (.int i) := by
  have hb : i.natAbs.log2 < 40 := by
    by_cases z : i.natAbs = 0
    · rw [z]; decide
    · exact (Nat.log2_lt z).mpr (Nat.lt_of_lt_of_le h (by decide))
  refine ⟨?_, ?_, ?_⟩
  · rw [PyData.showable]
    exact decide_eq_true (by omega)
  · simp only [PyData.intsShort, decide_eq_true_eq]
    exact PyData.shown_int_le h
  · rw [PyData.weight]
    split <;> omega
theorem shwN_tup {m k : Nat} {ds : List PyData} (h : ∀ d ∈ ds, shwN m d) (hk : ds.length ≤ k) : shwN ((m + 1) * k) (.tuple ds) :=
  ⟨by rw [PyData.showable]; exact showableAll_map _ fun d hd => (h d hd).sh, by rw [PyData.intsShort]; exact shortAll_map _ fun d hd => (h d hd).st, by rw [PyData.weight]; exact Nat.le_trans (weightAll_le _ fun d hd => (h d hd).wt) (Nat.mul_le_mul_left _ hk)⟩
theorem shwN_lst {m k : Nat} {ds : List PyData} (h : ∀ d ∈ ds, shwN m d) (hk : ds.length ≤ k) : shwN ((m + 1) * k) (.list ds) :=
  ⟨by rw [PyData.showable]; exact showableAll_map _ fun d hd => (h d hd).sh, by rw [PyData.intsShort]; exact shortAll_map _ fun d hd => (h d hd).st, by rw [PyData.weight]; exact Nat.le_trans (weightAll_le _ fun d hd => (h d hd).wt) (Nat.mul_le_mul_left _ hk)⟩
theorem strOk.mk' {m : Nat} {d : D} (h : okN 8 d) (h2 : shwN m (toPy d)) (hm : m ≤ 2 ^ 20) (sq : seqP (toPy d) = true) : strOk d :=
  ⟨h, h2.sh, PyData.shown_fits (by decide) (Nat.le_refl 13) (PyData.leavesShort_of_canLay0 13 _ h.1 h2.st) (Nat.le_trans h2.wt hm), sq⟩
/-- a list (or tuple) of words -/
theorem shw_word {w : List Int} {m : Nat} (h : ∀ n ∈ w, n.natAbs < 10 ^ 12) (hl : w.length ≤ m) : shwN ((40 + 1) * m) (toPy (.tup (w.map D.int))) := by
  rw [toPy]
  refine shwN_tup (fun d hd => ?_) (by rw [toPys_map, List.length_map, List.length_map]; exact hl)
  rw [toPys_map, List.map_map] at hd
  obtain ⟨i, hi, rfl⟩ := List.mem_map.mp hd
  show shwN 40 (toPy (.int i))
  rw [toPy]
  exact shwN_int (h i hi)
def wordD (w : List Int) : D := .tup (w.map D.int)
end DL

namespace DL
open PySem PySem.Spec PyProof.Rows L2
/-! the least of a list of data -/
/-! words, in order -/
theorem alike_ints : ∀ u v : List Int, PySem.W.alikeAll (u.map .int) (v.map .int) = true
  | [], v => by rw [List.map_nil, PySem.W.alikeAll]
  | _ :: _, [] => by rw [List.map_nil, List.map_cons, PySem.W.alikeAll]
  | x :: xs, y :: ys => by rw [List.map_cons, List.map_cons, PySem.W.alikeAll, alike_ints xs ys]; simp [PySem.W.alike]
end DL

namespace DL
open PySem PySem.Spec PyProof.Rows L2
/-! ### tests that read what may be written, and write nothing -/
theorem RepE.setD {K : PySem.W.Frag} {F : Hp} {e : DSt} {σ : St} {i : Nat} {d : D} {v : V} (h : RepE K F e σ) (hv : σ[i]? = some (some v)) (r : RelD K F d v) : RepE K F (e.set i (some d)) σ := by
  have := RepE.set r i h
  have e2 : σ.set i (some v) = σ := by
    refine List.ext_getElem? fun j => ?_
    by_cases hj : i = j
    · subst hj
      rw [hv]
      have hl := (List.getElem?_eq_some_iff.mp hv).1
      rw [List.getElem?_set_self hl]
    · rw [List.getElem?_set_ne hj]
  rwa [e2] at this
/-- by the places of the names that are read -/
def borK {β : Type} (l : LH) (run : DSt → β → Prop) (k : β) : List Nat → DSt → Prop
  | [], env => run env k
  | i :: ix, env => match nthE env i with
    | some (.ref a) => getO l a fun o => match o with | .lst ds => borK l run k ix (env.set i (some (.lst ds))) | _ => False
    | _ => borK l run k ix env
def tBor (ix : List Nat) (t : DTT) : DTT := fun env l Q => borK l (fun env (_ : Unit) => t env (fun _ => none) fun c _ => Q c l) () ix env
def simpD : D → Bool
  | .non | .bl _ | .int _ | .str _ => true
  | _ => false
/-- F1: F and some of l's objects -/
structure Bor (F : Hp) (l : LH) (H F1 : Hp) : Prop where
  up : Same F F1
  of : ∀ b o, F1 b = some o → F b = some o ∨ (l b ≠ none ∧ H b = some o)
theorem Bor.refl {F : Hp} {l : LH} {H : Hp} : Bor F l H F := ⟨Same.refl F, fun _ _ e => .inl e⟩
section
variable {K : PySem.W.Frag} {F Fr H F1 : Hp} {l : LH}
open Classical in
/-- all of l stays as it is -/
noncomputable def frB (Fr H F1 : Hp) (l : LH) : Hp := fun b => if l b ≠ none ∧ F1 b = none then H b else Fr b
theorem Bor.rep (R : Rep K F Fr l H) (B : Bor F l H F1) : Rep K F1 (frB Fr H F1 l) (fun _ => none) H where
  fz := fun b o e => by
    rcases B.of b o e with q | ⟨_, q⟩
    · exact R.fz b o q
    · exact q
  fr := fun b o e => by
    unfold frB at e
    split at e
    · exact e
    · exact R.fr b o e
  fd := fun b o e => by
    refine ⟨?_, rfl⟩
    unfold frB at e
    split at e
    · rename_i h; exact h.2
    · obtain ⟨h1, h2⟩ := R.fd b o e
      cases q : F1 b with
      | none => rfl
      | some u =>
        rcases B.of b u q with z | ⟨z, _⟩
        · rw [h1] at z; cases z
        · exact absurd h2 z
  lv := fun b o e => nomatch (show (none : Option DO) = some o from e)
  ft := fun b vs e => by
    unfold frB at e
    split at e
    · rename_i h
      cases q : l b with
      | none => exact h.1 q
      | some x =>
        obtain ⟨h1, h2⟩ := R.lv b x q
        cases x with
        | lst ds => obtain ⟨vs, _, z⟩ := h2; rw [e] at z; cases z
        | dT ks ds => obtain ⟨vs, _, _, z⟩ := h2; rw [e] at z; cases z
        | dK ks ds => obtain ⟨vs, _, _, z⟩ := h2; rw [e] at z; cases z
        | ins c ds => obtain ⟨C, dx, vs, _, _, _, z⟩ := h2; rw [e] at z; cases z
        | dN o ks ds => obtain ⟨as, vs, _, _, _, z⟩ := h2; rw [e] at z; cases z
        | fz d =>
          obtain ⟨_, u, z⟩ := h2
          rw [B.up _ _ z] at h
          exact nomatch h.2
    · exact R.ft b vs e
  tb := R.tb
  nt := fun b o e => by
    rcases B.of b o e with q | ⟨z, q⟩
    · exact R.nt b o q
    · cases q2 : l b with
      | none => exact absurd q2 z
      | some x =>
        cases hf : isFz x with
        | false => exact (R.lv b x q2).2.notbl hf q
        | true =>
          cases x with
          | fz d => obtain ⟨_, u, h⟩ := (R.lv b _ q2).2; have h2 := R.fz _ _ h; rw [q] at h2; cases h2; exact R.nt b _ h
          | _ => cases hf
  nr := fun b o e => by
    unfold frB at e
    split at e
    · rename_i h
      cases q2 : l b with
      | none => exact absurd q2 h.1
      | some x =>
        cases hf : isFz x with
        | false => exact (R.lv b x q2).2.notbl hf e
        | true =>
          cases x with
          | fz d => obtain ⟨_, u, z⟩ := (R.lv b _ q2).2; have h2 := R.fz _ _ z; rw [e] at h2; cases h2; exact R.nt b _ z
          | _ => cases hf
    · exact R.nr b o e
theorem Bor.back {F' H' : Hp} {l' : LH} (R : Rep K F Fr l H) (B : Bor F l H F1) (s : Same F1 F') (R' : Rep K F' (frB Fr H F1 l) l' H') : Rep K F Fr l H' where
  fz := fun b o e => R'.fz b o (s b o (B.up b o e))
  fr := fun b o e => by
    refine R'.fr b o ?_
    unfold frB
    rw [if_neg (fun z => z.1 (R.fd b o e).2)]
    exact e
  fd := R.fd
  lv := fun b o e => by
    obtain ⟨h1, h2⟩ := R.lv b o e
    refine ⟨h1, h2.mono (Same.refl F) ?_⟩
    obtain ⟨u, hu⟩ := h2.there R.fz
    rw [hu]
    cases q : F1 b with
    | none =>
      refine R'.fr b u ?_
      unfold frB
      rw [if_pos ⟨by rw [e]; exact fun z => (nomatch z), q⟩]
      exact hu
    | some u' =>
      rcases B.of b u' q with z | ⟨_, z⟩
      · have z := R.fz b u' z
        rw [hu] at z; cases z
        exact R'.fz b u (s b u q)
      · rw [hu] at z; cases z
        exact R'.fz b u (s b u q)
  ft := R.ft
  tb := R'.tb
  nt := R.nt
  nr := R.nr
theorem bor_run {β : Type} {run : DSt → β → Prop} {k : β} {σ : St} {P : Prop} (R : Rep K F Fr l H) (hP : ∀ env F1, Bor F l H F1 → RepE K F1 env σ → run env k → P) : ∀ (ix : List Nat) (env : DSt) (F1 : Hp), Bor F l H F1 → RepE K F1 env σ → borK l run k ix env → P
  | [], env, F1, B, hE, q => hP env F1 B hE q
  | i :: ix, env, F1, B, hE, q => by
    unfold borK at q
    split at q
    · rename_i a ha
      obtain ⟨o, ho, q⟩ := q
      cases o with
      | lst ds =>
        obtain ⟨v, hv, rv⟩ := hE.get ha
        cases rv
        obtain ⟨hF, vs, rd, hH⟩ := R.lv a _ ho
        have hF := hF rfl
        have B' : Bor F l H (upd F1 a (.lst vs)) := by
          refine ⟨fun b o e => ?_, fun b o e => ?_⟩
          · rw [upd_ne (fun z => by subst z; rw [hF] at e; cases e)]
            exact B.up b o e
          · by_cases hb : b = a
            · subst hb
              rw [upd_same] at e; cases e
              exact .inr ⟨by rw [ho]; exact fun z => (nomatch z), hH⟩
            · rw [upd_ne hb] at e
              exact B.of b o e
        have s1 : Same F1 (upd F1 a (.lst vs)) := fun b o e => by
          by_cases hb : b = a
          · subst hb
            rcases B.of b o e with z | ⟨_, z⟩
            · rw [hF] at z; cases z
            · rw [hH] at z; cases z
              exact upd_same
          · rw [upd_ne hb]; exact e
        exact bor_run R hP ix _ _ B' ((hE.mono s1).setD hv (.lst upd_same (rd.mono B'.up))) q
      | _ => exact q.elim
    · exact bor_run R hP ix env F1 B hE q
end
section
variable {X : Cx} {e : Expr} {te : DTE} {tt : DTT}
theorem dt_bor {ix : List Nat} (h : DT X e tt) : DT X e (tBor ix tt) := by
  refine ⟨?_⟩
  intro F Fr env l σ H Q hE hr ht
  refine bor_run hr (fun env F1 B hE q => ?_) ix env F .refl hE ht
  refine (h F1 _ env _ σ H _ hE (B.rep hr) q).mono fun c H1 ⟨F2, l2, s2, R2, q2⟩ => ?_
  exact ⟨F, l, Same.refl F, B.back hr s2 R2, q2⟩
end
end DL

namespace DL
open PySem PySem.Spec PyProof.Rows L2
/-! ### sorted(xs, reverse=b) of a list of words -/
end DL

namespace DL
open PySem PySem.Spec PyProof.Rows L2
/-! ### dicts with plain keys, never written -/
def keyD : D → Option Key
  | .int i => some (.inl i)
  | .str x => some (.inr x)
  | _ => none
theorem keyD_v {K : PySem.W.Frag} {F : Hp} {d : D} {v : V} {k : Key} (r : RelD K F d v) (h : keyD d = some k) : v = kV k := by
  cases r with
  | int i => cases h; rfl
  | str x => cases h; rfl
  | _ => cases h
section
variable {X : Cx} {a b e : Expr} {ta tb te : DTE} {pos p apos cpos : Pos} {tg : Expr}
/-! the values, in turn -/
end
/-! dict of a list of pairs -/
def pairsD : List D → Option (List Key × List D)
  | [] => some ([], [])
  | .tup [k, v] :: r => (keyD k).bind fun q => (pairsD r).map fun z => (q :: z.1, v :: z.2)
  | _ => none
theorem pairs_rel {K : PySem.W.Frag} {F : Hp} : ∀ {xs : List D} {vs : List V} {z : List Key × List D}, RelDs K F xs vs → pairsD xs = some z → ∃ ps us, vs = ps.map V.ref ∧ RelDs K F z.2 us ∧ z.1.length = us.length ∧ Paired (fun p kv => SqT K F p [kV kv.1, kv.2]) ps (z.1.zip us)
  | _, _, z, .nil, h => by cases h; exact ⟨[], [], rfl, .nil, rfl, .nil⟩
  | d :: xs, _, z, .cons r rr, h => by
    cases r with
    | @tup p ws ds h1 rs =>
      cases rs with
      | nil => cases h
      | cons r1 rs =>
        cases rs with
        | nil => cases h
        | cons r2 rs =>
          cases rs with
          | cons _ _ => cases h
          | nil =>
            rename_i k v1 v v2
            rw [pairsD] at h
            cases hk : keyD k with
            | none => rw [hk] at h; cases h
            | some q =>
              rw [hk] at h
              cases hp : pairsD xs with
              | none => rw [hp] at h; cases h
              | some z' =>
                rw [hp] at h
                cases h
                obtain ⟨ps, us, e1, e2, e3, e4⟩ := pairs_rel rr hp
                subst e1
                have ev := keyD_v r1 hk
                subst ev
                exact ⟨p :: ps, v2 :: us, rfl, .cons r2 e2, by rw [List.length_cons, List.length_cons, e3], by rw [List.zip_cons_cons]; exact .cons (tq h1) e4⟩
    | _ => cases h
theorem merge_nd {kvs : List (Key × V)} : ∀ {acc : List (Key × V)}, ((acc ++ kvs).map (·.1)).Nodup → mergeK acc kvs = acc ++ kvs := by
  induction kvs with
  | nil => intro acc _; rw [List.append_nil]; rfl
  | cons kv kvs ih =>
    intro acc h
    have hn : ¬ (acc.any fun x => decide (x.1 = kv.1)) = true := by
      rw [List.any_eq_true]
      rintro ⟨x, hx, e⟩
      have e := of_decide_eq_true e
      rw [List.map_append, List.nodup_append] at h
      exact h.2.2 x.1 (List.mem_map.mpr ⟨x, hx, rfl⟩) kv.1 (List.mem_map.mpr ⟨kv, List.mem_cons_self, rfl⟩) e
    have e : mergeK acc (kv :: kvs) = mergeK (acc ++ [kv]) kvs := by
      show mergeK (putK acc kv.1 kv.2) kvs = _
      unfold putK
      rw [if_neg hn]
    rw [e, ih (by simpa using h), List.append_assoc]
    rfl
end DL

namespace DL
open PySem PySem.Spec PyProof.Rows L2
/-! ### xs.count(x) over data -/
section
variable {X : Cx}
variable {o e : Expr} {to te : DTE} {apos cpos pos p p2 q : Pos}
/-! ### len(set(xs)) of a list of words -/
end
end DL

namespace DL
open PySem PySem.Spec PyProof.Rows L2
/-! ### instances of the program's own classes -/
theorem Rep.extra {K : PySem.W.Frag} {F Fr H : Hp} {l : LH} {p : Addr} (r : Rep K F Fr l H) (n : H p = none) (o : HO) : Rep K F Fr l (upd H p o) where
  fz := fun b x e => by
    rw [upd_ne (fun z => by subst z; rw [r.F_none n] at e; cases e)]
    exact r.fz b x e
  fr := fun b x e => by
    rw [upd_ne (fun z => by subst z; rw [r.Fr_none n] at e; cases e)]
    exact r.fr b x e
  fd := r.fd
  lv := fun b x e => by
    have hb : b ≠ p := fun z => by subst z; rw [r.l_none n] at e; cases e
    obtain ⟨h1, h2⟩ := r.lv b x e
    exact ⟨h1, h2.mono (Same.refl F) (upd_ne hb)⟩
  ft := r.ft
  tb := fun q hq => tabS_step (r.tb q hq) (keep_new n)
  nt := r.nt
  nr := r.nr
section
variable {X : Cx} {e o : Expr} {es : List Expr} {te to tv : DTE} {t : DTA} {pos p apos : Pos} {f m x : Str} {c : Cl} {C : Addr}
/-! a def that keeps its reading, run -/
section
variable {k : Nat} {g : Addr} {fd : FuncData} {ps : List Str} {dsp : DSp}
end
/-! constants of the module, raise that is never reached -/
end
end DL

namespace DL
open PySem PySem.Spec PyProof.Rows L2
/-! ### dicts: keys plain or tuples of plain ones -/
def keysD : List D → Option (List Key)
  | [] => some []
  | d :: r => (keyD d).bind fun k => (keysD r).map fun s => k :: s
def keyT : D → Option (List Key)
  | .tup ds => keysD ds
  | _ => none
theorem keysD_rel {K : PySem.W.Frag} {F : Hp} : ∀ {ds : List D} {vs : List V} {k : List Key}, RelDs K F ds vs → keysD ds = some k → vs = k.map kV
  | _, _, k, .nil, h => by cases h; rfl
  | d :: ds, _, k, .cons r rr, h => by
    rw [keysD] at h
    cases hk : keyD d with
    | none => rw [hk] at h; cases h
    | some q =>
      rw [hk] at h
      cases hp : keysD ds with
      | none => rw [hp] at h; cases h
      | some s =>
        rw [hp] at h
        cases h
        rw [keysD_rel rr hp, keyD_v r hk]
        rfl
theorem keyT_rel {K : PySem.W.Frag} {F : Hp} {d : D} {v : V} {k : List Key} (r : RelD K F d v) (h : keyT d = some k) : ∃ b, v = .ref b ∧ F b = some (.tup (k.map kV)) := by
  cases r with
  | tup h1 rr =>
    have e := keysD_rel rr h
    subst e
    exact ⟨_, rfl, h1⟩
  | _ => cases h
/-- a word as a key -/
def wkey (w : List Int) : List Key := w.map Sum.inl
theorem keysD_ints : ∀ w : List Int, keysD (w.map D.int) = some (wkey w)
  | [] => rfl
  | x :: w => by
    rw [List.map_cons, keysD, keysD_ints w]
    rfl
theorem keyT_word (w : List Int) : keyT (wordD w) = some (wkey w) := keysD_ints w
theorem wkey_inj {u v : List Int} : wkey u = wkey v ↔ u = v := by
  unfold wkey
  exact List.map_inj_right fun a b e => Sum.inl.inj e
section
variable {κ : Type} [DecidableEq κ] {K : PySem.W.Frag} {F : Hp}
def getA : List κ → List D → κ → Option D
  | k :: ks, d :: ds, q => if k = q then some d else getA ks ds q
  | _, _, _ => none
def OptRel (K : PySem.W.Frag) (F : Hp) : Option D → Option V → Prop
  | some d, some v => RelD K F d v
  | none, none => True
  | _, _ => False
theorem getA_rel : ∀ {ks : List κ} {ds : List D} {vs : List V} {q : κ}, RelDs K F ds vs → OptRel K F (getA ks ds q) (valV (ks.zip vs) q)
  | [], _, _, _, _ => by
    rw [List.zip_nil_left]
    unfold getA
    exact trivial
  | _ :: _, [], _, _, .nil => by
    rw [List.zip_nil_right]
    unfold getA
    exact trivial
  | k :: ks, d :: ds, _, q, .cons (v := v) r rr => by
    rw [List.zip_cons_cons]
    unfold getA
    by_cases h : k = q
    · rw [if_pos h, valV_pos (p := (k, v)) h]
      exact r
    · rw [if_neg h, valV_neg (p := (k, v)) h]
      exact getA_rel rr
def repA : List κ → List D → κ → D → List D
  | k :: ks, d :: ds, q, x => (if k = q then x else d) :: repA ks ds q x
  | _, _, _, _ => []
def putKs (ks : List κ) (q : κ) : List κ := if q ∈ ks then ks else ks ++ [q]
def putDs (ks : List κ) (ds : List D) (q : κ) (x : D) : List D := if q ∈ ks then repA ks ds q x else ds ++ [x]
theorem rep_rel {x : D} {v : V} (rx : RelD K F x v) : ∀ {ks : List κ} {ds : List D} {vs : List V} {q : κ}, ks.length = vs.length → RelDs K F ds vs →
    ∃ ws, RelDs K F (repA ks ds q x) ws ∧ ks.length = ws.length ∧ (ks.zip vs).map (fun kv => if kv.1 = q then (kv.1, v) else kv) = ks.zip ws
  | [], [], [], q, _, .nil => ⟨[], .nil, rfl, rfl⟩
  | [], _, _ :: _, q, h, _ => by simp at h
  | _ :: _, _, [], q, h, _ => by simp at h
  | k :: ks, d :: ds, u :: vs, q, h, .cons r rr => by
    obtain ⟨ws, h1, h2, h3⟩ := rep_rel rx (q := q) (by simpa using h) rr
    refine ⟨(if k = q then v else u) :: ws, .cons ?_ h1, by rw [List.length_cons, List.length_cons, h2], ?_⟩
    · by_cases e : k = q
      · rw [if_pos e, if_pos e]; exact rx
      · rw [if_neg e, if_neg e]; exact r
    · rw [List.zip_cons_cons, List.map_cons, h3, List.zip_cons_cons]
      by_cases e : k = q
      · simp [e]
      · simp [e]
theorem put_rel {x : D} {v : V} (rx : RelD K F x v) {ks : List κ} {ds : List D} {vs : List V} {q : κ} (hl : ks.length = vs.length) (rr : RelDs K F ds vs) :
    ∃ ws, RelDs K F (putDs ks ds q x) ws ∧ (putKs ks q).length = ws.length ∧ putK (ks.zip vs) q v = (putKs ks q).zip ws := by
  have any : ((ks.zip vs).any fun kv => decide (kv.1 = q)) = decide (q ∈ ks) := by
    rw [Bool.eq_iff_iff, List.any_eq_true, decide_eq_true_eq]
    constructor
    · rintro ⟨kv, h, e⟩
      rw [← of_decide_eq_true e]
      exact (List.of_mem_zip (a := kv.1) (b := kv.2) h).1
    · intro h
      obtain ⟨i, hi⟩ := List.getElem?_of_mem h
      have hi' := (List.getElem?_eq_some_iff.mp hi).1
      refine ⟨(q, vs[i]'(by omega)), ?_, by simp⟩
      refine List.mem_of_getElem? (i := i) ?_
      rw [List.getElem?_zip_eq_some]
      exact ⟨hi, List.getElem?_eq_getElem _⟩
  unfold putDs putKs putK
  rw [any]
  by_cases h : q ∈ ks
  · rw [if_pos h, if_pos h, if_pos (by rw [decide_eq_true h])]
    obtain ⟨ws, h1, h2, h3⟩ := rep_rel rx (q := q) hl rr
    exact ⟨ws, h1, h2, h3⟩
  · rw [if_neg h, if_neg h, if_neg (by rw [decide_eq_false h]; exact Bool.false_ne_true)]
    exact ⟨vs ++ [v], rr.append (.cons rx .nil), by rw [List.length_append, List.length_append, hl]; rfl, by rw [List.zip_append hl]; rfl⟩
end
/-- x[y], whatever there is -/
def dictK (x : D) (l : LH) (y : D) (k : Option D → Prop) : Prop := match x with
  | .dT ks ds => ∃ q, keyT y = some q ∧ k (getA ks ds q)
  | .dK ks ds => ∃ q, keyD y = some q ∧ k (getA ks ds q)
  | .ref a => getO l a fun o => match o with | .dT ks ds => ∃ q, keyT y = some q ∧ k (getA ks ds q) | .dK ks ds => ∃ q, keyD y = some q ∧ k (getA ks ds q) | _ => False
  | _ => False
theorem dictK_ok {K : PySem.W.Frag} {F Fr H : Hp} {l : LH} {x y : D} {v u : V} {k : Option D → Prop} (R : Rep K F Fr l H) (rx : RelD K F x v) (ry : RelD K F y u) (q : dictK x l y k) : ∃ a od o, v = .ref a ∧ DGet H a u o ∧ OptRel K F od o ∧ k od := by
  have T : ∀ {p : Addr} {ks : List (List Key)} {ds : List D} {vs : List V}, Rd H p (.dT (ks.zip vs)) → RelDs K F ds vs → (∃ q, keyT y = some q ∧ k (getA ks ds q)) → ∃ a od o, V.ref p = .ref a ∧ DGet H a u o ∧ OptRel K F od o ∧ k od := by
    rintro p ks ds vs h rr ⟨q, e1, e2⟩
    obtain ⟨b, rfl, hb⟩ := keyT_rel ry e1
    exact ⟨p, _, _, rfl, .inr ⟨_, q, b, h, rfl, R.fz _ _ hb, rfl⟩, getA_rel rr, e2⟩
  have P : ∀ {p : Addr} {ks : List Key} {ds : List D} {vs : List V}, Rd H p (.dK (ks.zip vs)) → RelDs K F ds vs → (∃ q, keyD y = some q ∧ k (getA ks ds q)) → ∃ a od o, V.ref p = .ref a ∧ DGet H a u o ∧ OptRel K F od o ∧ k od := by
    rintro p ks ds vs h rr ⟨q, e1, e2⟩
    exact ⟨p, _, _, rfl, .inl ⟨_, q, h, keyD_v ry e1, rfl⟩, getA_rel rr, e2⟩
  cases rx with
  | dT h hl rr => exact T (.inr ⟨_, R.fz _ _ h⟩) rr q
  | dK h hl rr => exact P (.inr ⟨_, R.fz _ _ h⟩) rr q
  | ref a =>
    obtain ⟨o, ho, q⟩ := q
    cases o with
    | dT ks ds =>
      obtain ⟨vs, rr, hl, hH⟩ := (R.lv _ _ ho).2
      exact T (.inl hH) rr q
    | dK ks ds =>
      obtain ⟨vs, rr, hl, hH⟩ := (R.lv _ _ ho).2
      exact P (.inl hH) rr q
    | _ => exact q.elim
  | _ => exact q.elim
def isDictK (x : D) (l : LH) (k : Prop) : Prop := match x with
  | .dT _ _ => k
  | .dK _ _ => k
  | .ref a => getO l a fun o => match o with | .dT _ _ => k | .dK _ _ => k | _ => False
  | _ => False
theorem isDictK_ok {K : PySem.W.Frag} {F Fr H : Hp} {l : LH} {x : D} {v : V} {k : Prop} (R : Rep K F Fr l H) (rx : RelD K F x v) (q : isDictK x l k) : ∃ a, v = .ref a ∧ IsD H a ∧ k := by
  cases rx with
  | dT h hl rr => exact ⟨_, rfl, .inr ⟨_, .inr ⟨_, R.fz _ _ h⟩⟩, q⟩
  | dK h hl rr => exact ⟨_, rfl, .inl ⟨_, .inr ⟨_, R.fz _ _ h⟩⟩, q⟩
  | ref a =>
    obtain ⟨o, ho, q⟩ := q
    cases o with
    | dT ks ds =>
      obtain ⟨vs, rr, hl, hH⟩ := (R.lv _ _ ho).2
      exact ⟨_, rfl, .inr ⟨_, .inl hH⟩, q⟩
    | dK ks ds =>
      obtain ⟨vs, rr, hl, hH⟩ := (R.lv _ _ ho).2
      exact ⟨_, rfl, .inl ⟨_, .inl hH⟩, q⟩
    | _ => exact q.elim
  | _ => exact q.elim
section
variable {X : Cx} {a b e o : Expr} {ta tb te to tx : DTE} {pos p apos cpos : Pos} {k : Nat}
/-- x[y] of a dict -/
def dGetD (ta tb : DTE) : DTE := fun env l Q => ta env l fun x l1 => tb env l1 fun y l2 => dictK x l2 y fun od => match od with | some d => Q d l2 | none => False
theorem de_getD (hr : Room k X.A) (ha : DE X a ta) (hb : DE X b tb) (hs : NoSl b := by exact fun _ _ => rfl) : DE X (.Subscript a b pos) (dGetD ta tb) := by
  refine ⟨?_⟩
  intro F Fr env l σ H Q hE hR ht
  have hu : X.A.units + 1 < cLine := by have := hr.un; omega
  refine (pe_dget hu peW peW hs).we ?_
  refine (ha F Fr env l σ H _ hE hR ht).mono fun x H1 ⟨F1, d1, l1, s1, r1, R1, q1⟩ => ?_
  refine (hb F1 Fr env l1 σ H1 _ (hE.mono s1) R1 q1).mono fun y H2 ⟨F2, d2, l2, s2, r2, R2, q2⟩ => ?_
  obtain ⟨a, od, o, rfl, g, ro, q3⟩ := dictK_ok R2 (r1.mono s2) r2 q2
  cases od with
  | none => exact q3.elim
  | some d =>
    cases o with
    | none => exact ro.elim
    | some v => exact ⟨a, v, rfl, g, (LK.mk ro R2 q3).weak (s1.trans s2)⟩
def dGet2 (to te tx : DTE) : DTE := fun env l Q => to env l fun x l1 => isDictK x l1 (te env l1 fun y l2 => tx env l2 fun z l3 => dictK x l3 y fun od => Q (od.getD z) l3)
theorem OptRel.getD {K : PySem.W.Frag} {F : Hp} {od : Option D} {o : Option V} {d : D} {v : V} (r : OptRel K F od o) (rd : RelD K F d v) : RelD K F (od.getD d) (o.getD v) := by
  cases od with
  | none =>
    cases o with
    | none => exact rd
    | some _ => exact r.elim
  | some _ =>
    cases o with
    | none => exact r.elim
    | some _ => exact r
theorem de_get2 {f : Expr} (hr : Room k X.A) (ho : DE X o to) (he : DE X e te) (hf : DE X f tx) (m : M2 X o "get" apos e f cpos) : DE X (.Call (.Attribute o "get" apos) [e, f] [] cpos) (dGet2 to te tx) := by
  refine ⟨?_⟩
  intro F Fr env l σ H Q hE hR ht
  have hu : X.A.units + 1 < cLine := by have := hr.un; omega
  refine (pe_dget2 hu peW peW peW m).we ?_
  refine (ho F Fr env l σ H _ hE hR ht).mono fun x H1 ⟨F1, d1, l1, s1, r1, R1, q1⟩ => ?_
  obtain ⟨a, rfl, isd, q1⟩ := isDictK_ok R1 r1 q1
  refine ⟨a, rfl, isd, ?_⟩
  refine (he F1 Fr env l1 σ H1 _ (hE.mono s1) R1 q1).mono fun y H2 ⟨F2, d2, l2, s2, r2, R2, q2⟩ => ?_
  refine (hf F2 Fr env l2 σ H2 _ (hE.mono (s1.trans s2)) R2 q2).mono fun z H3 ⟨F3, d3, l3, s3, r3, R3, q3⟩ => ?_
  obtain ⟨a', od, o, e1, g, ro, q4⟩ := dictK_ok R3 (r1.mono (s2.trans s3)) (r2.mono s3) q3
  cases e1
  exact ⟨o, g, (LK.mk (ro.getD r3) R3 q4).weak (s1.trans (s2.trans s3))⟩
theorem OptRel.is {K : PySem.W.Frag} {F : Hp} {od : Option D} {o : Option V} (r : OptRel K F od o) : o.isSome = od.isSome := by
  cases od <;> cases o <;> first | rfl | exact r.elim
/-- d[y] = v -/
def putDK (x y d : D) (l : LH) (Q : LH → Prop) : Prop := match x with
  | .ref a => getO l a fun o => match o with
    | .dT ks ds => ∃ q, keyT y = some q ∧ ks.length < sizeLine ∧ Q (uL l a (.dT (putKs ks q) (putDs ks ds q d)))
    | .dK ks ds => ∃ q, keyD y = some q ∧ ks.length < sizeLine ∧ Q (uL l a (.dK (putKs ks q) (putDs ks ds q d)))
    | _ => False
  | _ => False
def sPutD (to ti tv : DTE) : DTS := fun E env l => tv env l fun d l1 => to env l1 fun x l2 => ti env l2 fun y l3 => putDK x y d l3 fun l4 => E.nx env l4
theorem ds_putD {i v : Expr} {ti tv : DTE} {pos' : Pos} (hr : Room k X.A) (ho : DE X o to) (hi : DE X i ti) (hv : DE X v tv) (hs : swapsWith v (some (.Subscript o i pos')) pos.line X.env = pure false := by rfl) : DS X (.Assign [.Subscript o i pos'] v pos) (sPutD to ti tv) := by
  refine ⟨?_⟩
  intro F Fr env l σ H E hE hR ht
  have hu : X.A.units + 1 < cLine := by have := hr.un; omega
  refine (ps_dput hu peW peW peW hs).ws ?_
  refine (hv F Fr env l σ H _ hE hR ht).mono fun w H1 ⟨F1, d, l1, s1, r1, R1, q1⟩ => ?_
  refine (ho F1 Fr env l1 σ H1 _ (hE.mono s1) R1 q1).mono fun x H2 ⟨F2, d2, l2, s2, r2, R2, q2⟩ => ?_
  refine (hi F2 Fr env l2 σ H2 _ (hE.mono (s1.trans s2)) R2 q2).mono fun y H3 ⟨F3, d3, l3, s3, r3, R3, q3⟩ => ?_
  have S := s1.trans (s2.trans s3)
  have rw1 := r1.mono (s2.trans s3)
  cases r2 with
  | ref a =>
    obtain ⟨u, ho, q3⟩ := q3
    cases u with
    | dT ks ds =>
      obtain ⟨q, hq, hz, q3⟩ := q3
      obtain ⟨vs, rr, hl, hH⟩ := (R3.lv _ _ ho).2
      obtain ⟨b, rfl, hb⟩ := keyT_rel r3 hq
      obtain ⟨ws, w1, w2, w3⟩ := put_rel (q := q) rw1 hl rr
      refine ⟨a, _, rfl, DPut.t hH (R3.fz _ _ hb) (by rw [List.length_zip]; omega), F3, env, _, S, hE.mono S, ?_, q3⟩
      rw [w3]
      exact R3.write ho rfl (show DOk X.K F3 _ a (.dT _ _) from ⟨ws, w1, w2, upd_same⟩)
    | dK ks ds =>
      obtain ⟨q, hq, hz, q3⟩ := q3
      obtain ⟨vs, rr, hl, hH⟩ := (R3.lv _ _ ho).2
      obtain rfl := keyD_v r3 hq
      obtain ⟨ws, w1, w2, w3⟩ := put_rel (q := q) rw1 hl rr
      refine ⟨a, _, rfl, DPut.k hH (by rw [List.length_zip]; omega), F3, env, _, S, hE.mono S, ?_, q3⟩
      rw [w3]
      exact R3.write ho rfl (show DOk X.K F3 _ a (.dK _ _) from ⟨ws, w1, w2, upd_same⟩)
    | _ => exact q3.elim
  | _ => exact q3.elim
/-- {} -/
def dNewT : DTE := fun _ l Q => newL (.dT [] []) l Q
theorem de_newT : DE X (.Dict [] [] pos) dNewT := by
  refine ⟨?_⟩
  intro F Fr env l σ H Q hE hR ht
  refine pe_dnewT.we fun p np => ?_
  exact ⟨F, .ref p, _, Same.refl F, .ref p, hR.made np (show DOk X.K F _ p (.dT [] []) from ⟨[], .nil, rfl, upd_same⟩), ht p (hR.l_none np)⟩
end
end DL

namespace DL
open PySem PySem.Spec PyProof.Rows L2
/-! ### what is frozen, deep -/
theorem Rep.freezeH {K : PySem.W.Frag} {F Fr H : Hp} {l : LH} (r : Rep K F Fr l H) {a : Addr} {o : DO} (h : l a = some o) (nf : isFz o = false) (u : HO) (hu : isTblO u = false := by rfl) : Rep K (upd F a u) Fr (dL l a) (upd H a u) where
  fz := fun b x q => by
    by_cases hb : b = a
    · subst hb; rw [upd_same] at q ⊢; exact q
    · rw [upd_ne hb] at q ⊢; exact r.fz b x q
  fr := fun b x q => by
    rw [upd_ne (fun z => by subst z; rw [(r.fd b x q).2] at h; cases h)]
    exact r.fr b x q
  fd := fun b x q => by
    have hb : b ≠ a := fun z => by subst z; rw [(r.fd b x q).2] at h; cases h
    unfold dL
    rw [upd_ne hb, if_neg hb]
    exact r.fd b x q
  lv := fun b x q => by
    unfold dL at q
    by_cases hb : b = a
    · rw [if_pos hb] at q; cases q
    · rw [if_neg hb] at q
      obtain ⟨h1, h2⟩ := r.lv b x q
      exact ⟨fun z => by rw [upd_ne hb]; exact h1 z, h2.mono (same_upd ((r.lv a o h).1 nf)) (upd_ne hb)⟩
  ft := r.ft
  tb := fun q hq => tabS_step (r.tb q hq) ((r.lv a o h).2.keep nf)
  nt := fun b x q => by
    by_cases hb : b = a
    · subst hb; rw [upd_same] at q; cases q; exact hu
    · rw [upd_ne hb] at q; exact r.nt b x q
  nr := r.nr
theorem Rep.drop {K : PySem.W.Frag} {F Fr H : Hp} {l : LH} (r : Rep K F Fr l H) (a : Addr) : Rep K F Fr (dL l a) H where
  fz := r.fz
  fr := r.fr
  fd := fun b x q => by
    refine ⟨(r.fd b x q).1, ?_⟩
    unfold dL
    split
    · rfl
    · exact (r.fd b x q).2
  lv := fun b x q => by
    unfold dL at q
    split at q
    · cases q
    · exact r.lv b x q
  ft := r.ft
  tb := r.tb
  nt := r.nt
  nr := r.nr
def fzList (f : D → LH → DK → Prop) : List D → LH → (List D → LH → Prop) → Prop
  | [], l, k => k [] l
  | d :: ds, l, k => f d l fun d' l1 => fzList f ds l1 fun ds' l2 => k (d' :: ds') l2
def fzN : Nat → D → LH → DK → Prop
  | 0, d, l, k => k d l
  | n + 1, .ref a, l, k => getO l a fun o => match o with
    | .lst ds => fzList (fzN n) ds (dL l a) fun ds' l' => k (.lst ds') l'
    | .dT ks ds => k (.dT ks ds) (dL l a)
    | .dK ks ds => k (.dK ks ds) (dL l a)
    | .ins _ _ => k (.ref a) l
    | .dN _ _ _ => k (.ref a) l
    | .fz d => k d (dL l a)
  | n + 1, .lst ds, l, k => fzList (fzN n) ds l fun ds' l' => k (.lst ds') l'
  | n + 1, .tup ds, l, k => fzList (fzN n) ds l fun ds' l' => k (.tup ds') l'
  | _ + 1, d, l, k => k d l
section
variable {X : Cx} {pins : List (Addr × Obj)} {σ : St} {s : Shared} {Fr : Hp}
theorem fzList_ok {f : D → LH → DK → Prop} (hf : ∀ {d : D} {l : LH} {k : DK} {F H : Hp} {v : V}, Inv X pins σ H s → Rep X.K F Fr l H → RelD X.K F d v → f d l k → ∃ H' F' d' l', Inv X pins σ H' s ∧ Same F F' ∧ Rep X.K F' Fr l' H' ∧ RelD X.K F' d' v ∧ k d' l') :
    ∀ {ds : List D} {l : LH} {k : List D → LH → Prop} {F H : Hp} {vs : List V}, Inv X pins σ H s → Rep X.K F Fr l H → RelDs X.K F ds vs → fzList f ds l k → ∃ H' F' ds' l', Inv X pins σ H' s ∧ Same F F' ∧ Rep X.K F' Fr l' H' ∧ RelDs X.K F' ds' vs ∧ k ds' l'
  | [], l, k, F, H, _, I, R, .nil, q => ⟨H, F, [], l, I, Same.refl F, R, .nil, q⟩
  | d :: ds, l, k, F, H, _, I, R, .cons r rr, q => by
    obtain ⟨H1, F1, d1, l1, I1, s1, R1, r1, q1⟩ := hf I R r q
    obtain ⟨H2, F2, ds2, l2, I2, s2, R2, r2, q2⟩ := fzList_ok hf I1 R1 (rr.mono s1) q1
    exact ⟨H2, F2, d1 :: ds2, l2, I2, s1.trans s2, R2, .cons (r1.mono s2) r2, q2⟩
theorem lock_dT {F H : Hp} {l : LH} {a : Addr} {ks : List (List Key)} {ds : List D} (I : Inv X pins σ H s) (R : Rep X.K F Fr l H) (ho : l a = some (.dT ks ds)) : ∃ H' F' u, Inv X pins σ H' s ∧ Same F F' ∧ Rep X.K F' Fr (dL l a) H' ∧ RelD X.K F' (.dT ks ds) (.ref a) ∧ F' a = some u := by
  obtain ⟨vs, rr, hl, hH⟩ := (R.lv _ _ ho).2
  obtain ⟨od, I2⟩ := I.lock hH (by exact trivial)
  have s1 := same_upd (o := .frz od (.dT (ks.zip vs))) ((R.lv _ _ ho).1 rfl)
  exact ⟨_, _, _, I2, s1, R.freezeH ho rfl _, .dT upd_same hl (rr.mono s1), upd_same⟩
theorem lock_dK {F H : Hp} {l : LH} {a : Addr} {ks : List Key} {ds : List D} (I : Inv X pins σ H s) (R : Rep X.K F Fr l H) (ho : l a = some (.dK ks ds)) : ∃ H' F' u, Inv X pins σ H' s ∧ Same F F' ∧ Rep X.K F' Fr (dL l a) H' ∧ RelD X.K F' (.dK ks ds) (.ref a) ∧ F' a = some u := by
  obtain ⟨vs, rr, hl, hH⟩ := (R.lv _ _ ho).2
  obtain ⟨od, I2⟩ := I.lock hH (by exact trivial)
  have s1 := same_upd (o := .frz od (.dK (ks.zip vs))) ((R.lv _ _ ho).1 rfl)
  exact ⟨_, _, _, I2, s1, R.freezeH ho rfl _, .dK upd_same hl (rr.mono s1), upd_same⟩
theorem fzN_ok : ∀ (n : Nat) {d : D} {l : LH} {k : DK} {F H : Hp} {v : V}, Inv X pins σ H s → Rep X.K F Fr l H → RelD X.K F d v → fzN n d l k → ∃ H' F' d' l', Inv X pins σ H' s ∧ Same F F' ∧ Rep X.K F' Fr l' H' ∧ RelD X.K F' d' v ∧ k d' l'
  | 0, d, l, k, F, H, v, I, R, r, q => ⟨H, F, d, l, I, Same.refl F, R, r, q⟩
  | n + 1, d, l, k, F, H, v, I, R, r, q => by
    cases r with
    | ref a =>
      obtain ⟨o, ho, q⟩ := q
      cases o with
      | lst ds =>
        obtain ⟨vs, rr, hH⟩ := (R.lv _ _ ho).2
        have nF := (R.lv _ _ ho).1 rfl
        have s1 := same_upd (o := .lst vs) nF
        obtain ⟨H2, F2, ds2, l2, I2, s2, R2, r2, q2⟩ := fzList_ok (fzN_ok n) I (R.freeze ho rfl hH) (rr.mono s1) q
        exact ⟨H2, F2, .lst ds2, l2, I2, s1.trans s2, R2, .lst (s2 _ _ upd_same) r2, q2⟩
      | dT ks ds =>
        obtain ⟨H', F', u, I2, s1, R2, r2, _⟩ := lock_dT I R ho
        exact ⟨H', F', _, _, I2, s1, R2, r2, q⟩
      | dK ks ds =>
        obtain ⟨H', F', u, I2, s1, R2, r2, _⟩ := lock_dK I R ho
        exact ⟨H', F', _, _, I2, s1, R2, r2, q⟩
      | ins c ds => exact ⟨H, F, _, _, I, Same.refl F, R, .ref a, q⟩
      | dN o ks ds => exact ⟨H, F, _, _, I, Same.refl F, R, .ref a, q⟩
      | fz d => exact ⟨H, F, _, _, I, Same.refl F, R.drop a, (R.lv _ _ ho).2.1, q⟩
    | lst h1 rr =>
      obtain ⟨H2, F2, ds2, l2, I2, s2, R2, r2, q2⟩ := fzList_ok (fzN_ok n) I R rr q
      exact ⟨H2, F2, .lst ds2, l2, I2, s2, R2, .lst (s2 _ _ h1) r2, q2⟩
    | tup h1 rr =>
      obtain ⟨H2, F2, ds2, l2, I2, s2, R2, r2, q2⟩ := fzList_ok (fzN_ok n) I R rr q
      exact ⟨H2, F2, .tup ds2, l2, I2, s2, R2, .tup (s2 _ _ h1) r2, q2⟩
    | non => exact ⟨H, F, _, l, I, Same.refl F, R, .non, q⟩
    | bl b => exact ⟨H, F, _, l, I, Same.refl F, R, .bl b, q⟩
    | int b => exact ⟨H, F, _, l, I, Same.refl F, R, .int b, q⟩
    | str b => exact ⟨H, F, _, l, I, Same.refl F, R, .str b, q⟩
    | scr b => exact ⟨H, F, _, l, I, Same.refl F, R, .scr b, q⟩
    | dT a b c => exact ⟨H, F, _, l, I, Same.refl F, R, .dT a b c, q⟩
    | dK a b c => exact ⟨H, F, _, l, I, Same.refl F, R, .dK a b c, q⟩
    | exc a b => exact ⟨H, F, _, l, I, Same.refl F, R, .exc a b, q⟩
    | exc1 a b c d => exact ⟨H, F, _, l, I, Same.refl F, R, .exc1 a b c d, q⟩
    | kt a b c d => exact ⟨H, F, _, l, I, Same.refl F, R, .kt a b c d, q⟩
end
section
variable {X : Cx} {e o : Expr} {te to : DTE} {pos apos cpos tpos p : Pos}
def dFz (n : Nat) (te : DTE) : DTE := fun env l Q => te env l fun d l1 => fzN n d l1 Q
theorem de_fz (n : Nat) (h : DE X e te) : DE X e (dFz n te) := by
  refine ⟨?_⟩
  intro F Fr env l σ H Q hE hR ht pins s I
  refine thn (h F Fr env l σ H _ hE hR ht pins s I) fun u s1 ⟨v, H1, I1, rv, F1, d, l1, s1', r1, R1, q1⟩ => ?_
  obtain ⟨H2, F2, d2, l2, I2, s2, R2, r2, q2⟩ := fzN_ok n I1 R1 r1 q1
  exact ⟨v, H2, I2, rv, F2, d2, l2, s1'.trans s2, r2, R2, q2⟩
end
end DL

namespace DL
open PySem PySem.Spec PyProof.Rows L2
/-! ### d.items() of a dict with tuple keys -/
section
variable {X : Cx} {pins : List (Addr × Obj)} {σ : St} {H : Hp} {s : Shared} {d : Addr} {o : Obj}
theorem frzT2 {kvs : List (List Key × V)} (I : Inv X pins σ H s) (h : H d = some (.frz o (.dT kvs))) :
    (d == sysModules) = false ∧ s.heap.get? d = some o ∧ o.ExactDict ∧ ∃ (es : Array DictEntry) (ep : Nat), o.data = .dict es ep ∧ es.size = kvs.length ∧
      ∀ (i : Nat) (k : List Key) (v : V), kvs[i]? = some (k, v) → ∃ (en : DictEntry) (q : Addr), es[i]? = some en ∧ en.key = .ref q ∧ H q = some (.tup (k.map kV)) ∧ RelV v en.val := by
  obtain ⟨hd, z, hs, xs, pr, o', es, ep, ho, hx, hdt, he, _⟩ := I.hok d _ h
  rw [hd] at ho
  cases ho
  refine ⟨hs, hd, hx, es, ep, hdt, ?_, fun i k v e => ?_⟩
  · have l1 : es.size = xs.length := size_of_entries he
    have l2 : kvs.length = xs.length := Paired.length pr
    omega
  · obtain ⟨b, hb, e1, e2, e3⟩ := L2.paired_get pr e
    have q := entry_at he i
    rw [hb] at q
    exact ⟨_, b.2.1, q, rfl, e2, e3⟩
end
def Itit (d : Addr) (o : Obj) (kvs : List (List Key × V)) : It :=
  ⟨fun i H => H d = some (.frz o (.dT kvs)) ∧ i < kvs.length, fun i H x H' => ∃ T q k v, kvs[i]? = some (k, v) ∧ x = .ref T ∧ H T = none ∧ H q = some (.tup (k.map kV)) ∧ H' = upd H T (.tup [.ref q, v]), fun i H => H d = some (.frz o (.dT kvs)) ∧ kvs.length ≤ i⟩
theorem turn_itemsT {P : Program} {w : World} {K : PySem.W.Frag} {d : Addr} {o : Obj} {es : Array DictEntry} {ep : Nat} {kvs : List (List Key × V)} {elts : List Expr} {kk : Nat} {tpos : Pos} (it : Addr) (hod : o.data = .dict es ep) (hsz : es.size = kvs.length) :
    Turn P w K (.Tuple elts kk tpos) (Itit d o kvs) [it] it (fun i h => ∃ ok ov, IsItemIter h it d i es.size ep ok ov) where
  mem := by simp
  obj := fun i h st b hb => by
    have e : b = it := by simpa using hb
    subst e
    obtain ⟨ok, ov, e⟩ := st
    exact ⟨_, e, fun v z => nomatch z⟩
  keep := fun i h h' st k => let ⟨ok, ov, e⟩ := st; ⟨ok, ov, k it (by simp) _ e⟩
  item := by
    intro X hP hw hK hc i pins s σ H E I hf st hg
    subst hP hw hK
    obtain ⟨hd, hi⟩ := hg
    obtain ⟨hs, hgd, hx, es', ep', hdt, hsz', ent⟩ := frzT2 I hd
    obtain ⟨rfl, rfl⟩ := dict_ep hod hdt
    obtain ⟨⟨k, v⟩, hkv⟩ : ∃ p, kvs[i]? = some p := ⟨kvs[i], List.getElem?_eq_getElem hi⟩
    obtain ⟨en, q, hen, hkey, hq, rv⟩ := ent i k v hkv
    obtain ⟨ok, ov, he⟩ := st
    have hlt : it < s.heap.objs.size := Heap.lt_size he
    have hie : i < es'.size := by omega
    have een : es'[i] = en := by
      rw [Array.getElem?_eq_getElem hie] at hen
      exact Option.some.inj hen
    refine DT.nextI he ⟨o, hgd, hx, hdt⟩ hie fun h' ho hT hz hk => ?_
    rw [een] at ho hT
    refine ⟨_, rfl, wpAny_letOwnedTupleGo_items (s := { s with heap := h' }) ho fun h'' he' sb => ?_⟩
    have hT2 : h''.get? s.heap.objs.size = some { cls := .type "tuple", data := .seq #[en.key, en.val] } := (sb.2 _ (Nat.ne_of_gt hlt)).trans hT
    have new : ObjOk X.prog X.w (upd H s.heap.objs.size (.tup [.ref q, v])) h'' s.heap.objs.size (.tup [.ref q, v]) :=
      ⟨by show 2 ≤ sizeLine; decide, [en.key, en.val], .cons hkey (.cons rv .nil), ⟨_, hT2, rfl, _, rfl⟩⟩
    have I1 : Inv X pins σ (upd H s.heap.objs.size (.tup [.ref q, v])) { s with heap := h'' } :=
      I.turnedNew (t' := s.toks) (ch := [it]) (fun b ob hb e => (sb.2 b (by simpa using hb)).trans (hk b ob (by simpa using hb) e)) hf (Nat.le_refl _) new
    refine ⟨.ref s.heap.objs.size, _, I1, rfl, ⟨_, q, k, v, hkv, rfl, I.hok.fresh (Nat.le_refl _), hq, rfl⟩, ⟨_, _, he'⟩, fun b hb => ?_⟩
    have e : b = it := by simpa using hb
    rw [e, upd_ne (Nat.ne_of_lt hlt)]
    exact (hf it (by simp)).1
  done := by
    intro X hP hw hK hc i pins s σ H E I hf st hg
    subst hP hw hK
    obtain ⟨hd, hi⟩ := hg
    obtain ⟨f0, f1, f2, f3, f4, f5⟩ := hf it (by simp)
    obtain ⟨hs, hgd, hx, es', ep', hdt, hsz', ent⟩ := frzT2 I hd
    obtain ⟨rfl, rfl⟩ := dict_ep hod hdt
    obtain ⟨ok, ov, he⟩ := st
    exact DT.endI (I.ok.hd hc) he ⟨o, hgd, hx, hdt⟩ (by omega) fun h' eb => ⟨rfl, I.turned (t' := s.toks) (fun b ob hb e => eb b ob hb e) f0 f1 f3 f4 f5⟩
  self := fun A i s Q E st h => let ⟨_, _, e⟩ := st; PySem.W.kcp_self e h
def keyV : Key → D
  | .inl i => .int i
  | .inr x => .str x
theorem keyV_rel {K : PySem.W.Frag} {F : Hp} (k : Key) : RelD K F (keyV k) (kV k) := by
  cases k with
  | inl i => exact .int i
  | inr x => exact .str x
theorem keysV_rel {K : PySem.W.Frag} {F : Hp} : ∀ k : List Key, RelDs K F (k.map keyV) (k.map kV)
  | [] => .nil
  | k :: ks => .cons (keyV_rel k) (keysV_rel ks)
def itemsD (ks : List (List Key)) (ds : List D) : List D := List.zipWith (fun k d => D.tup [.tup (k.map keyV), d]) ks ds
theorem jok_itemsT {K : PySem.W.Frag} {F : Hp} {p : Addr} {od : Obj} {vs : List V} {ks : List (List Key)} {ds : List D} (h1 : F p = some (.frz od (.dT (ks.zip vs)))) (hl : ks.length = vs.length) (rr : RelDs K F ds vs) : JOk K F (Itit p od (ks.zip vs)) (itemsD ks ds) := by
  intro i F' Fr l H s R
  have hH : H p = some (.frz od (.dT (ks.zip vs))) := R.fz _ _ (s _ _ h1)
  have hz : (ks.zip vs).length = (itemsD ks ds).length := by
    unfold itemsD
    rw [List.length_zip, List.length_zipWith, rr.length]
  refine ⟨fun hi => ⟨hH, by rw [hz]; exact hi⟩, fun d hd => ?_⟩
  have hi : i < (itemsD ks ds).length := (List.getElem?_eq_some_iff.mp hd).1
  refine ⟨⟨hH, by rw [hz]; exact hi⟩, fun x H' ⟨T, q, k, v, e1, e2, nT, hq, e3⟩ => ?_⟩
  subst e2 e3
  obtain ⟨k1, k2⟩ := List.getElem?_zip_eq_some.mp e1
  unfold itemsD at hd
  rw [List.getElem?_zipWith] at hd
  have hk : ks[i]? = some k := k1
  cases hdi : ds[i]? with
  | none => rw [hdi, hk] at hd; cases hd
  | some di =>
    rw [hdi, hk] at hd
    cases hd
    obtain ⟨u, hu, ru⟩ := rr.get hdi
    rw [show vs[i]? = some v from k2] at hu
    cases hu
    obtain ⟨F2, s2, hF2, R2⟩ := R.tupIn hq
    refine ⟨_, s2.trans (same_upd (R2.F_none nT)), relTup (R2.F_none nT) (.cons ?_ (.cons (ru.mono (s.trans s2)) .nil)), R2.laid nT _⟩
    exact .tup hF2 (keysV_rel k)
section
variable {X : Cx} {e : Expr} {te : DTE} {apos cpos tpos pos p : Pos} {elts : List Expr} {kk : Nat}
def iItemsT (te : DTE) : DTI := fun env l R => te env l fun d l1 => match d with
  | .dT ks ds => R (itemsD ks ds) l1
  | _ => False
theorem di_itemsT (h : DE X e te) (hbase : attributeBase e "items" X.env (eval e X.env) = eval e X.env := by rfl) (hline : (apos.endLine == cpos.line) = true := by rfl) :
    DI X (.Tuple elts kk tpos) (.Call (.Attribute e "items" apos) [] [] cpos) (iItemsT te) := by
  refine ⟨?_⟩
  intro F Fr env l σ H R hE hR ht pins s I
  refine wpAny_Call_method (T := "dict") (id := "dict.items") hbase rfl hline PySem.F.plainAttrs_dict PySem.F.slot_dict_items PySem.F.type_dict_items (thn (h F Fr env l σ H _ hE hR ht pins s I) fun u s1 ⟨x, H1, I1, rx, F1, d, l1, s1', rd, R1, q1⟩ => ?_)
  cases rd with
  | @dT d od vs ks ds h1 hl rr =>
    obtain rfl : u = Value.ref d := rx
    have hd : H1 d = some (.frz od (.dT (ks.zip vs))) := R1.fz _ _ h1
    obtain ⟨hs, hgd, hx, es, ep, hdt, hsz, ent⟩ := frzT2 I1 hd
    refine ⟨⟨od, hgd, hx.1⟩, fun b hb => by cases hb; exact ⟨od, hgd, hx.2.1⟩, ?_⟩
    have I2 : Inv X pins σ H1 { s1 with heap := s1.heap.push { cls := .type "dict_items", data := .fields #[.ref d] } } := I1.kept (t' := s1.toks) fun b ob q => Heap.get?_push_of_some _ q
    have raw : DT.Raw s1.heap d es ep := ⟨od, hgd, hx, hdt⟩
    have fin : wpAny (model X.prog X.w) X.A (pyIter (.ref s1.heap.objs.size)) (PIE X pins σ (.Tuple elts kk tpos) (LI X.K F Fr R)) X.xe { s1 with heap := s1.heap.push { cls := .type "dict_items", data := .fields #[.ref d] } } := by
      refine DT.iterI (d := d) (es := es) (ep := ep) ⟨_, Heap.get?_push_size _ rfl, rfl, rfl⟩ (raw.push _) (pi_one (tk := s1.toks) I2 _ (turn_itemsT _ hdt hsz) ⟨.none, .none, ?_⟩ ⟨F1, l1, _, s1', R1, jok_itemsT h1 hl rr, q1⟩)
      exact Heap.get?_push_size _ rfl
    show wpAny _ _ (callWith cpos (.builtin "dict.items") [.ref d] [] []) _ X.xe s1
    exact method_meetsIn PySem.F.slot_dict_items PySem.F.entry_dict_items rfl (PySem.evalArgs_none ⟨rfl, raw.typeIs, PySem.F.args_dict_items_1 _, _, DT.meetsItems (es := es) (ep := ep) hs, raw, fin⟩)
  | _ => exact q1.elim
/-! ### dict(d) of a dict with tuple keys -/
section
variable {X : Cx}
end
/-! the readings -/
end
end DL

namespace DL
open PySem PySem.Spec PyProof.Rows L2
/-! ### < over data -/
section
variable {X : Cx} {a b e o : Expr} {ta tb te to : DTE} {pos p apos cpos : Pos} {k : Nat}
/-! ### x in xs, data; x in s, texts -/
/-! ### str of an int too -/
def rStr2 (K : PySem.W.Frag) : List V → Hp → VK → Prop := fun xs H Q => (∃ i, xs = [.int i] ∧ i.natAbs.log2 < 1920 ∧ Q (.str (toString i)) H) ∨ rStr K xs H Q
def kStr2 : List D → LH → DK → Prop := fun ds l Q => match ds with
  | [.int i] => i.natAbs.log2 < 1920 ∧ Q (.str (toString i)) l
  | ds => kStr ds l Q
theorem kStr2_ok : KCall X (rStr2 X.K) kStr2 := by
  intro F Fr l H Q ds vs Q' R rd hq q
  cases rd with
  | nil => exact q.elim
  | @cons d v ds' vs' r1 rr =>
    cases rr with
    | cons _ _ => cases d <;> exact q.elim
    | nil =>
      cases r1 with
      | int i => exact .inl ⟨i, rfl, q.1, hq _ _ (LK.mk (.str _) R q.2)⟩
      | non => exact .inr (kStr_ok F Fr l H Q _ _ Q' R (.cons .non .nil) hq q)
      | bl b => exact .inr (kStr_ok F Fr l H Q _ _ Q' R (.cons (.bl b) .nil) hq q)
      | str b => exact .inr (kStr_ok F Fr l H Q _ _ Q' R (.cons (.str b) .nil) hq q)
      | ref b => exact .inr (kStr_ok F Fr l H Q _ _ Q' R (.cons (.ref b) .nil) hq q)
      | tup h1 h2 => exact .inr (kStr_ok F Fr l H Q _ _ Q' R (.cons (.tup h1 h2) .nil) hq q)
      | scr h1 => exact .inr (kStr_ok F Fr l H Q _ _ Q' R (.cons (.scr h1) .nil) hq q)
      | lst h1 h2 => exact .inr (kStr_ok F Fr l H Q _ _ Q' R (.cons (.lst h1 h2) .nil) hq q)
      | dT h1 h2 h3 => exact .inr (kStr_ok F Fr l H Q _ _ Q' R (.cons (.dT h1 h2 h3) .nil) hq q)
      | dK h1 h2 h3 => exact .inr (kStr_ok F Fr l H Q _ _ Q' R (.cons (.dK h1 h2 h3) .nil) hq q)
      | exc h1 h2 => exact .inr (kStr_ok F Fr l H Q _ _ Q' R (.cons (.exc h1 h2) .nil) hq q)
      | exc1 h1 h2 h3 h4 => exact .inr (kStr_ok F Fr l H Q _ _ Q' R (.cons (.exc1 h1 h2 h3 h4) .nil) hq q)
      | kt h1 h2 h3 h4 => exact .inr (kStr_ok F Fr l H Q _ _ Q' R (.cons (.kt h1 h2 h3 h4) .nil) hq q)
theorem de_str2 (hr : Room k X.A) (hgd : X.A.guards = some []) (hg : Gl X "str") (hm : X.mg "str" = none) (h : DE X e te) (he : starEach [e] X.env = (false, eval e X.env) :: starEach [] X.env := by rfl) : DE X (.Call (.Name "str" p) [e] [] pos) (dCall kStr2 (aCons te aNil)) :=
  de_callT (call_str_int.or (call_strSeq hr hgd)) kStr2_ok hg hm (by decide +kernel) (da_cons h da_nil he) (by decide) (by decide) he
/-! ### xs.index(x) -/
/-! ### len, of dicts too -/
end
end DL

namespace DL
open PySem PySem.Spec PyProof.Rows L2
/-! ### written data, as one -/
def litL (f : Expr → D → Bool) : List Expr → List D → Bool
  | [], [] => true
  | e :: es, d :: ds => f e d && litL f es ds
  | _, _ => false
def litN : Nat → Expr → D → Bool
  | n + 1, .Tuple es _ _, .tup ds => decide (es.length ≤ 1000) && litL (litN n) es ds
  | n + 1, .List es _, .lst ds => decide (es.length ≤ 1000) && litL (litN n) es ds
  | _, .Constant (.int i) _ _, .int j => decide (i = j)
  | _, .Constant (.bool i) _ _, .bl j => i == j
  | _, .Constant (.str i) _ _, .str j => decide (i = j)
  | _, .Constant .none _ _, .non => true
  | _, .UnaryOp .USub (.Constant (.int i) _ _) _, .int j => decide (-i = j)
  | _, _, _ => false
section
variable {X : Cx}
abbrev LitOk (X : Cx) (e : Expr) (d : D) : Prop := DE X e (dC d) ∧ ∀ es, starEach (e :: es) X.env = (false, eval e X.env) :: starEach es X.env
theorem litL_ok {f : Expr → D → Bool} (hf : ∀ {e : Expr} {d : D}, f e d = true → LitOk X e d) : ∀ {es : List Expr} {ds : List D}, litL f es ds = true → es.length = ds.length ∧ DA X es (fun _ l Q => Q ds l)
  | [], [], _ => ⟨rfl, da_nil⟩
  | [], _ :: _, h => by cases h
  | _ :: _, [], h => by cases h
  | e :: es, d :: ds, h => by
    rw [litL, Bool.and_eq_true] at h
    obtain ⟨h1, h2⟩ := hf h.1
    obtain ⟨h3, h4⟩ := litL_ok hf h.2
    exact ⟨by rw [List.length_cons, List.length_cons, h3], da_cons h1 h4 (h2 es)⟩
theorem litN_ok : ∀ (n : Nat) {e : Expr} {d : D}, litN n e d = true → LitOk X e d := by
  intro n
  induction n with
  | zero =>
    intro e d h
    unfold litN at h
    split at h
    · exact absurd ‹0 = Nat.succ _› (by omega)
    · exact absurd ‹0 = Nat.succ _› (by omega)
    · obtain rfl := of_decide_eq_true h; exact ⟨de_int, fun _ => rfl⟩
    · obtain rfl := beq_iff_eq.mp h; exact ⟨de_bl, fun _ => rfl⟩
    · obtain rfl := of_decide_eq_true h; exact ⟨de_str, fun _ => rfl⟩
    · exact ⟨de_non, fun _ => rfl⟩
    · obtain rfl := of_decide_eq_true h; exact ⟨de_neg de_int, fun _ => rfl⟩
    · cases h
  | succ n ih =>
    have T : ∀ {es : List Expr} {k : Nat} {pos : Pos} {ds : List D}, (decide (es.length ≤ 1000) && litL (litN n) es ds) = true → DE X (.Tuple es k pos) (dC (.tup ds)) := by
      intro es k pos ds h
      rw [Bool.and_eq_true, decide_eq_true_eq] at h
      obtain ⟨h1, h2⟩ := litL_ok ih h.2
      exact ⟨fun F Fr env l σ H Q hE hR ht => (de_tup h2).run F Fr env l σ H Q hE hR ⟨Nat.le_trans (by omega) (show 1000 ≤ sizeLine by decide), ht⟩⟩
    have L : ∀ {es : List Expr} {pos : Pos} {ds : List D}, (decide (es.length ≤ 1000) && litL (litN n) es ds) = true → DE X (.List es pos) (dC (.lst ds)) := by
      intro es pos ds h
      rw [Bool.and_eq_true, decide_eq_true_eq] at h
      obtain ⟨h1, h2⟩ := litL_ok ih h.2
      exact ⟨fun F Fr env l σ H Q hE hR ht => (de_lst h2).run F Fr env l σ H Q hE hR ⟨Nat.le_trans (by omega) (show 1000 ≤ sizeLine by decide), ht⟩⟩
    intro e d h
    unfold litN at h
    split at h
    · have hn := ‹n + 1 = Nat.succ _›
      cases hn
      exact ⟨T h, fun _ => rfl⟩
    · have hn := ‹n + 1 = Nat.succ _›
      cases hn
      exact ⟨L h, fun _ => rfl⟩
    · obtain rfl := of_decide_eq_true h; exact ⟨de_int, fun _ => rfl⟩
    · obtain rfl := beq_iff_eq.mp h; exact ⟨de_bl, fun _ => rfl⟩
    · obtain rfl := of_decide_eq_true h; exact ⟨de_str, fun _ => rfl⟩
    · exact ⟨de_non, fun _ => rfl⟩
    · obtain rfl := of_decide_eq_true h; exact ⟨de_neg de_int, fun _ => rfl⟩
    · cases h
theorem de_lit {e : Expr} {d : D} (n : Nat) (h : litN n e d = true) : DE X e (dC d) := (litN_ok n h).1
end
end DL

namespace DL
open PySem PySem.Spec PyProof.Rows L2
/-! ### list.insert -/
section
variable {X : Cx}
/-! ### list(range(n)) -/
/-! ### range downwards -/
/-! ### for over a list that may be written, as long as it stays -/
/-! ### a new list of two, to be changed -/
end
end DL

namespace DL
open PySem PySem.Spec PyProof.Rows L2
/-! the end: the law's def, called by the claim -/
end DL

/-! != of two lists of dicts whose keys are tuples, whose values are numbers -/
namespace PySem.SeqAt
open AutoSeq1 (wpAny_loadPart')
open MeetsSeq MeetsSeq2 MeetsSeq3 SeqRoads2
section
variable {prog : Program} {w : World}
end
end PySem.SeqAt
namespace PySem.W
open Lean Elab Tactic Meta PySem PySem.Calls PyProof.Rows PyProof.V PySem.Spec
section
variable {prog : Program} {w : World} {K : Type} [DecidableEq K] {knd : HeapKind prog w K} {A : Around} {E : Value → Shared → Prop} {s : Shared}
end
end PySem.W
namespace DL
open PySem PySem.Spec PyProof.Rows L2
section
variable {X : Cx} {a b : Expr} {ta tb : DTE} {pos : Pos} {k : Nat}
theorem vals_refs : ∀ {as : List Addr} {us : List Value}, Vals (as.map V.ref) us → us = as.map Value.ref
  | [], [], .nil => rfl
  | a :: as, u :: us, .cons r rr => by
    have e : u = .ref a := r
    rw [e, vals_refs rr]
    rfl
end
end DL

/-! for i, x in enumerate(t), t a tuple -/
namespace PySem
open Sem (wp)
open AutoSeq1 (wpAny_loadPart')
section
variable {prog : Program} {w : World} {A : Around} {E : Value → Shared → Prop} {s : Shared}
end
end PySem
namespace DL
open PySem PySem.Spec PyProof.Rows L2
section
variable {X : Cx}
end
end DL

/-! a comprehension over a list that may be written, as long as it is as it was -/
namespace DL
open PySem PySem.Spec PyProof.Rows L2
section
variable {X : Cx} {elt tg iter : Expr} {ifs : List Expr} {scope : Scope} {own : List (Str × Nat)} {pos : Pos} {tx : DTE} {g : DTG} {tt : DTT} {te : DTE}
variable (hc : X.calm = true) (hN : X.N.Nodup) (hi : DE X iter tx) (ok : BlkOk X.N X.env.scope scope own)
    (hg : ∀ (s : Shared) (H : Hp) (C : Addr) (cl : List (Str × Addr)) (fp : List Addr), DG (X.blk s H scope (compEnvC scope cl C X.env) fp) tg (own.map (·.2)) g)
    (ht : ∀ (s : Shared) (H : Hp) (C : Addr) (cl : List (Str × Addr)) (fp : List Addr), DTs (X.blk s H scope (compEnvC scope cl C X.env) fp) ifs tt)
    (he : ∀ (s : Shared) (H : Hp) (C : Addr) (cl : List (Str × Addr)) (fp : List Addr), DE (X.blk s H scope (compEnvC scope cl C X.env) fp) elt te)
include hi hg ht he
include hc hN ok
end
end DL

/-! enumerate of a tuple in a comprehension; is True; lists of lists that may be written, compared -/
namespace DL
open PySem PySem.Spec PyProof.Rows L2
section
variable {X : Cx}
/-! is True -/
/-! a list of lists that may be written, as they stand -/
end
end DL

/-! min(list of numbers, default=number) -/
namespace DL
open PySem PySem.Spec PyProof.Rows L2
section
variable {X : Cx} {k : Nat}
end
end DL

/-! list(enumerate(x)), x a list or a tuple -/
namespace PySem.W
open PySem PySem.Calls PyProof.Rows PyProof.V PySem.Spec
section
variable {prog : Program} {w : World} {A : Around} {E : Value → Shared → Prop} {s : Shared}
end
/-- what stands while list() takes the pairs -/
def EnSt (St : Nat → Heap → Prop) (e it S : Addr) (i : Nat) (h : Heap) : Prop := St i h ∧ ((∃ old, IsEnum h e it i old) ∨ ∃ old T f oT, IsEnumHeld h e it i old T f ∧ h.get? T = some oT ∧ T ≠ e ∧ T ≠ it ∧ T ≠ S)
structure EnG (P : Nat → Value → Prop) (lo : Addr) (h : Heap) (as : List Addr) : Prop where
  rise : as.Pairwise (· < ·)
  above : ∀ a ∈ as, lo ≤ a
  pairs : ∀ (j : Nat) (a : Addr), as[j]? = some a → ∃ t x, P j x ∧ h.get? a = some { cls := .type "tuple", data := .seq #[.int j t, x] }
theorem EnG.there {P : Nat → Value → Prop} {lo : Addr} {h : Heap} {as : List Addr} (g : EnG P lo h as) {a : Addr} (ha : a ∈ as) : a < h.objs.size := by
  obtain ⟨j, hj⟩ := List.mem_iff_getElem?.mp ha
  obtain ⟨_, _, _, e⟩ := g.pairs j a hj
  exact Heap.lt_size e
section
variable {prog : Program} {w : World} {A : Around} {s : Shared} {R : Result → Shared → Prop} {fp : List Addr} {n : Nat} {P : Nat → Value → Prop} {St : Nat → Heap → Prop}
theorem EnSt.keep {e it S : Addr} {i : Nat} {h h' : Heap} (D : Draws prog w A.in1 it fp n P St) (hSf : S ∉ fp) (hSe : S ≠ e) (x : EnSt St e it S i h) (hk : ∀ b o, b ≠ S → h.get? b = some o → h'.get? b = some o) : EnSt St e it S i h' := by
  obtain ⟨st, he⟩ := x
  refine ⟨D.frame _ _ _ st fun b hb o y => hk b o (fun z => hSf (z ▸ hb)) y, ?_⟩
  rcases he with ⟨old, he⟩ | ⟨old, T, f, oT, he, hT, r1, r2, r3⟩
  · exact .inl ⟨old, hk _ _ (Ne.symm hSe) he⟩
  · exact .inr ⟨old, T, f, oT, hk _ _ (Ne.symm hSe) he, hk _ _ r3 hT, r1, r2, r3⟩
end
section
variable {prog : Program} {w : World} {A : Around} {E : Value → Shared → Prop} {s : Shared}
variable {R : Result → Shared → Prop} {fp : List Addr} {n : Nat} {P : Nat → Value → Prop} {St : Nat → Heap → Prop}
end
end PySem.W

/-! list(enumerate(x)) as an expression -/
namespace DL
open PySem PySem.Spec PyProof.Rows L2
section
variable {X : Cx}
end
end DL

/-! list(zip(x, y)), x and y lists -/
namespace PySem.W
open PySem PySem.Calls PyProof.Rows PyProof.V PySem.Spec
/-- what stands while list() takes the pairs of two lists -/
def ZlSt (z TI TO i1 i2 l1 l2 S : Addr) (xs ys : Array Value) (i : Nat) (h : Heap) : Prop :=
  IsPair h TI (.ref i1) (.ref i2) ∧ h.IsListIter i1 l1 i ∧ h.IsListIter i2 l2 i ∧ h.IsList l1 xs ∧ h.IsList l2 ys ∧
    ((IsZip h z TI TO .none ∧ ∃ a b, IsPair h TO a b) ∨ ∃ T f oT, IsZipHeld h z TI TO T f ∧ h.get? T = some oT ∧ T ≠ z ∧ T ≠ i1 ∧ T ≠ i2 ∧ T ≠ S)
def ZlW (z TO i1 i2 : Addr) : List Addr := [z, TO, i1, i2]
structure ZlG (xs ys : Array Value) (lo : Addr) (h : Heap) (as : List Addr) : Prop where
  rise : as.Pairwise (· < ·)
  above : ∀ a ∈ as, lo ≤ a
  pairs : ∀ (j : Nat) (a : Addr), as[j]? = some a → ∃ x y, (xs[j]? = some x ∧ ys[j]? = some y) ∧ h.get? a = some { cls := .type "tuple", data := .seq #[x, y] }
theorem ZlG.there {xs ys : Array Value} {lo : Addr} {h : Heap} {as : List Addr} (g : ZlG xs ys lo h as) {a : Addr} (ha : a ∈ as) : a < h.objs.size := by
  obtain ⟨j, hj⟩ := List.mem_iff_getElem?.mp ha
  obtain ⟨_, _, _, e⟩ := g.pairs j a hj
  exact Heap.lt_size e
section
variable {prog : Program} {w : World} {A : Around} {s : Shared} {R : Result → Shared → Prop} {z TI TO i1 i2 l1 l2 S : Addr} {xs ys : Array Value}
theorem ZlSt.keep {i : Nat} {h h' : Heap} (hS : S ∉ [z, TI, TO, i1, i2, l1, l2]) (st : ZlSt z TI TO i1 i2 l1 l2 S xs ys i h) (hk : ∀ b o, b ≠ S → h.get? b = some o → h'.get? b = some o) : ZlSt z TI TO i1 i2 l1 l2 S xs ys i h' := by
  simp only [List.mem_cons, List.not_mem_nil, or_false, not_or] at hS
  obtain ⟨dz, dTI, dTO, di1, di2, dl1, dl2⟩ := hS
  obtain ⟨hTI, h1, h2, hl1, hl2, hz⟩ := st
  refine ⟨hk _ _ (Ne.symm dTI) hTI, h1.at fun o e => hk _ o (Ne.symm di1) e, h2.at fun o e => hk _ o (Ne.symm di2) e, hl1.at fun o e => hk _ o (Ne.symm dl1) e, hl2.at fun o e => hk _ o (Ne.symm dl2) e, ?_⟩
  rcases hz with ⟨hz, a, b, hTO⟩ | ⟨T, f, oT, hz, hT, r1, r2, r3, r4⟩
  · exact .inl ⟨hk _ _ (Ne.symm dz) hz, a, b, hk _ _ (Ne.symm dTO) hTO⟩
  · exact .inr ⟨T, f, oT, hk _ _ (Ne.symm dz) hz, hk _ _ r4 hT, r1, r2, r3, r4⟩
end
theorem zl_len : typeLookup (.type "zip") "__len__" = pure none := am_miss_of_fast (by decide +kernel)
theorem zl_lenhint : typeLookup (.type "zip") "__length_hint__" = pure none := am_miss_of_fast (by decide +kernel)
section
variable {prog : Program} {w : World} {A : Around} {E : Value → Shared → Prop} {s : Shared}
theorem zl_hint {r : Addr} (hT : s.TypeIs (.ref r) "zip") {Q : Bool → Shared → Prop} (h : Q true s) : wpAny (model prog w) A (Builtin.List.listLengthHint (.ref r)) Q E s := by
  unfold Builtin.List.listLengthHint
  refine wpAny_bind (wpAny_specialOf hT zl_len ?_)
  refine wpAny_bind (wpAny_specialOf hT zl_lenhint ?_)
  exact wpAny_pure h
variable {R : Result → Shared → Prop} {z TI TO i1 i2 l1 l2 S : Addr} {xs ys : Array Value}
end
end PySem.W

/-! list(zip(x, y)) as an expression -/
namespace DL
open PySem PySem.Spec PyProof.Rows L2
def zpT : Hp → List Addr → List (V × V) → Hp
  | H, a :: as, p :: kvs => zpT (upd H a (.tup [p.1, p.2])) as kvs
  | H, _, _ => H
theorem zpT_off {b : Addr} : ∀ (as : List Addr) (kvs : List (V × V)) (H : Hp), b ∉ as → zpT H as kvs b = H b
  | [], _, _, _ => rfl
  | _ :: _, [], _, _ => rfl
  | a :: as, p :: kvs, H, h => by
    show zpT (upd H a (.tup [p.1, p.2])) as kvs b = H b
    rw [zpT_off as kvs _ (fun z => h (List.mem_cons_of_mem _ z)), upd_ne (fun z => h (by rw [z]; exact List.mem_cons_self))]
theorem zpT_at : ∀ (as : List Addr) (kvs : List (V × V)) (H : Hp), as.length = kvs.length → as.Nodup → Paired (fun (t : Addr) (p : V × V) => zpT H as kvs t = some (.tup [p.1, p.2])) as kvs
  | [], [], _, _, _ => .nil
  | [], _ :: _, _, h, _ => by cases h
  | _ :: _, [], _, h, _ => by cases h
  | a :: as, p :: kvs, H, h, hn => by
    have hn' := List.nodup_cons.mp hn
    have ih := zpT_at as kvs (upd H a (.tup [p.1, p.2])) (Nat.succ.inj h) hn'.2
    refine .cons ?_ ih
    show zpT (upd H a (.tup [p.1, p.2])) as kvs a = some (.tup [p.1, p.2])
    rw [zpT_off as kvs _ hn'.1, upd_same]
section
variable {X : Cx}
theorem zl_laid {pins : List (Addr × Obj)} {σ : St} {H : Hp} {s : Shared} {h' : Heap} {tk : Nat} {xs ys : List V} {its itt : List Value} {acc : Array Value} {c : Nat} {as : List Addr} {S : Addr} (I : Inv X pins σ H s) (hz : min xs.length ys.length ≤ sizeLine) (rv : Vals xs its) (rw' : Vals ys itt)
    (hk : ∀ b o, s.heap.get? b = some o → h'.get? b = some o) (hSs : s.heap.objs.size ≤ S) (hS : h'.get? S = some { cls := .type "list", dict := none, data := .seq acc c, slots := #[] }) (hl : as.length = min xs.length ys.length) (hG : PySem.W.ZlG its.toArray itt.toArray (S + 1) h' as) (hacc : acc.toList = as.map Value.ref) :
    as.Nodup ∧ H S = none ∧ (∀ t ∈ as, H t = none) ∧ S ∉ as ∧ Inv X pins σ (zpT (upd H S (.lst (as.map V.ref))) as (xs.zip ys)) { s with heap := h', toks := tk } := by
  have hSn : S ∉ as := fun z => Nat.lt_irrefl _ (hG.above _ z)
  have nd : as.Nodup := List.Pairwise.imp (fun {a b} (h : a < b) => Nat.ne_of_lt h) hG.rise
  have ab : ∀ t ∈ as, s.heap.objs.size ≤ t := fun t ht => Nat.le_trans hSs (Nat.le_of_lt (hG.above t ht))
  have new : ∀ t ∈ as, H t = none := fun t ht => I.hok.fresh (ab t ht)
  have newS : H S = none := I.hok.fresh hSs
  have hl' : as.length = (xs.zip ys).length := by rw [List.length_zip]; exact hl
  have atP := zpT_at as (xs.zip ys) (upd H S (.lst (as.map V.ref))) hl' nd
  have off : ∀ b, b ∉ as → b ≠ S → zpT (upd H S (.lst (as.map V.ref))) as (xs.zip ys) b = H b := fun b h1 h2 => by rw [zpT_off as _ _ h1, upd_ne h2]
  have low : ∀ b o, s.heap.get? b = some o → b ∉ as ∧ b ≠ S := fun b o e => ⟨fun z => absurd (Heap.lt_size e) (Nat.not_lt.mpr (ab b z)), Nat.ne_of_lt (Nat.lt_of_lt_of_le (Heap.lt_size e) hSs)⟩
  have kp : ∀ b u, H b = some u → (zpT (upd H S (.lst (as.map V.ref))) as (xs.zip ys)) b = some u := fun b u e => by
    rw [off b (fun z => by rw [new b z] at e; cases e) (fun z => by rw [z, newS] at e; cases e)]
    exact e
  have eS : zpT (upd H S (.lst (as.map V.ref))) as (xs.zip ys) S = some (.lst (as.map V.ref)) := by rw [zpT_off as _ _ hSn, upd_same]
  refine ⟨nd, newS, new, hSn, ?_⟩
  refine I.call' (ch := []) rfl ⟨fun b o q _ _ _ => hk b o q, fun b o q _ _ _ => ⟨o.slots, hk b o q⟩, fun b o q n _ => ?_, fun b o q _ => ⟨o, hk b o q⟩, fun b xs q => kp b _ q, fun b o u q => kp b _ q, fun b ps q => ⟨#[], by rw [kp b _ q]; simp⟩⟩ (fun b u q => ?_) I.bare fun b z => by simp at z
  · obtain ⟨z1, z2⟩ := low b o q
    rw [off b z1 z2]
    exact n
  · by_cases hb : b ∈ as
    · obtain ⟨j, pk, e1, e2, e3⟩ := LiI.paired_ix atP hb
      rw [e3] at q
      cases q
      obtain ⟨x, y, ⟨f1, f2⟩, f3⟩ := hG.pairs j b e1
      have g := List.getElem?_zip_eq_some.mp e2
      obtain ⟨u1, g2, g3⟩ := rv.get g.1
      obtain ⟨u2, k2, k3⟩ := rw'.get g.2
      have f1' : its[j]? = some x := by simpa using f1
      have f2' : itt[j]? = some y := by simpa using f2
      rw [g2] at f1'
      rw [k2] at f2'
      cases f1'
      cases f2'
      exact ⟨by show 2 ≤ sizeLine; decide, [x, y], .cons g3 (.cons k3 .nil), ⟨_, f3, rfl, _, rfl⟩⟩
    · by_cases hb2 : b = S
      · rw [hb2] at q ⊢
        rw [eS] at q
        cases q
        refine ⟨by rw [List.length_map]; omega, acc.toList, c, by rw [hacc]; exact LiI.vals_refs as, ?_⟩
        rw [Array.toArray_toList]
        exact hS
      · rw [off b hb hb2] at q
        exact (I.hok b u q).stay (fun d v _ y => hk d v y) (fun d y => kp d _ y) fun d xs y => kp d _ y
theorem rep_zpT {K : PySem.W.Frag} {Fr : Hp} {l : LH} : ∀ (as : List Addr) (kvs : List (V × V)) {F H : Hp}, Rep K F Fr l H → (∀ a ∈ as, H a = none) → as.Nodup → Rep K (zpT F as kvs) Fr l (zpT H as kvs) ∧ Same F (zpT F as kvs)
  | [], _, F, H, R, _, _ => ⟨R, Same.refl F⟩
  | _ :: _, [], F, H, R, _, _ => ⟨R, Same.refl F⟩
  | a :: as, p :: kvs, F, H, R, hn, nd => by
    obtain ⟨n1, n2⟩ := List.nodup_cons.mp nd
    have na := hn a List.mem_cons_self
    obtain ⟨r, s⟩ := rep_zpT as kvs (R.laid na (.tup [p.1, p.2])) (fun b hb => by
      have ne : b ≠ a := fun z => n1 (by rw [← z]; exact hb)
      rw [upd_ne ne]
      exact hn b (List.mem_cons_of_mem _ hb)) n2
    exact ⟨r, (same_upd (R.F_none na)).trans s⟩
theorem rel_zipV {K : PySem.W.Frag} {F : Hp} : ∀ {as : List Addr} {ds es : List D} {xs ys : List V}, RelDs K F ds xs → RelDs K F es ys → Paired (fun (t : Addr) (q : V × V) => F t = some (.tup [q.1, q.2])) as (xs.zip ys) → RelDs K F (zipD ds es) (as.map V.ref)
  | as, [], es, [], ys, .nil, _, h => by
    cases as with
    | nil => cases es <;> exact .nil
    | cons => cases h
  | as, d :: ds, [], x :: xs, [], .cons _ _, .nil, h => by
    cases as with
    | nil => exact .nil
    | cons => cases h
  | as, d :: ds, e :: es, x :: xs, y :: ys, .cons r rr, .cons r' rr', h => by
    cases as with
    | nil => cases h
    | cons a as =>
      cases h with
      | cons h1 h2 => exact .cons (.tup h1 (.cons r (.cons r' .nil))) (rel_zipV rr rr' h2)
end
end DL

/-! x in (y, z) -/
namespace DL
open PySem PySem.Spec PyProof.Rows L2
section
variable {X : Cx} {a b : Expr} {ta tb : DTE} {pos : Pos} {k : Nat}
end
end DL

/-! isinstance(e, (T, U)) of built-in types -/
namespace DL
open PySem PySem.Spec PyProof.Rows L2
section
variable {X : Cx} {e : Expr} {te : DTE} {pos : Pos}
end
end DL

/-! divmod by a great number -/
namespace DL
open PySem PySem.Spec PyProof.Rows L2
end DL

/-! max and min of a list or a tuple of numbers -/
namespace DL
open PySem PySem.Spec PyProof.Rows L2
end DL

/-! a comprehension over enumerate of a list that may be written -/
namespace DL
open PySem PySem.Spec PyProof.Rows L2
section
variable {X : Cx} {elt tg iter : Expr} {ifs : List Expr} {scope : Scope} {own : List (Str × Nat)} {pos : Pos} {g : DTG} {tt : DTT} {te : DTE}
end
section
variable {X : Cx} {elt e : Expr} {elts : List Expr} {kk : Nat} {tpos p ipos : Pos} {ifs : List Expr} {scope : Scope} {own : List (Str × Nat)} {pos : Pos} {ta : DTA} {g : DTG} {tt : DTT} {te : DTE}
variable (hc : X.calm = true) (hN : X.N.Nodup) (hi : DA X [e] ta) (hgl : Gl X "enumerate") (hm : X.mg "enumerate" = none) (ok : BlkOk X.N X.env.scope scope own)
    (hg : ∀ (s : Shared) (H : Hp) (C : Addr) (cl : List (Str × Addr)) (fp : List Addr), DG (X.blk s H scope (compEnvC scope cl C X.env) fp) (.Tuple elts kk tpos) (own.map (·.2)) g)
    (ht : ∀ (s : Shared) (H : Hp) (C : Addr) (cl : List (Str × Addr)) (fp : List Addr), DTs (X.blk s H scope (compEnvC scope cl C X.env) fp) ifs tt)
    (he : ∀ (s : Shared) (H : Hp) (C : Addr) (cl : List (Str × Addr)) (fp : List Addr), DE (X.blk s H scope (compEnvC scope cl C X.env) fp) elt te)
include hi hgl hm hg ht he
include hc hN ok
end
end DL

/-! division by a number of either sign -/
namespace DL
open PySem PySem.Spec PyProof.Rows L2
section
variable {X : Cx}
end
end DL

/-! any of numbers; a list backwards -/
namespace DL
open PySem PySem.Spec PyProof.Rows L2
end DL

/-! zip of a list or a tuple with a list or a tuple, also a list that may be written -/
namespace ZM
open PySem
/-- the kind of what is gone through: false a list, true a tuple -/
def It (b : Bool) (h : Heap) (it l : Addr) (k : Nat) : Prop := cond b (h.IsTupleIter it l k) (h.IsListIter it l k)
def Sq (b : Bool) (h : Heap) (l : Addr) (xs : Array Value) : Prop := cond b (h.IsTuple l xs) (h.IsList l xs)
theorem It.to {b : Bool} {h h' : Heap} {it l : Addr} {k : Nat} (x : It b h it l k) (e : ∀ o, h.get? it = some o → h'.get? it = some o) : It b h' it l k := by
  cases b with
  | true => exact Heap.IsTupleIter.at x e
  | false => exact Heap.IsListIter.at x e
theorem Sq.to {b : Bool} {h h' : Heap} {l : Addr} {xs : Array Value} (x : Sq b h l xs) (e : ∀ o, h.get? l = some o → h'.get? l = some o) : Sq b h' l xs := by
  cases b with
  | true => exact Heap.IsTuple.at x e
  | false => exact Heap.IsList.at x e
theorem It.but {b : Bool} {h h' : Heap} {it l c : Addr} {k : Nat} (x : It b h it l k) (e : Heap.ExtBut c h h') (n : it ≠ c) : It b h' it l k := x.to fun o q => e _ _ n q
theorem Sq.but {b : Bool} {h h' : Heap} {l c : Addr} {xs : Array Value} (x : Sq b h l xs) (e : Heap.ExtBut c h h') (n : l ≠ c) : Sq b h' l xs := x.to fun o q => e _ _ n q
theorem It.ob {b : Bool} {h : Heap} {it l : Addr} {k : Nat} (x : It b h it l k) : ∃ o, h.get? it = some o ∧ ∀ v, o.data ≠ .cell v := by
  cases b with
  | true => obtain ⟨o, e, _, d⟩ := x; exact ⟨o, e, fun v q => by rw [d] at q; cases q⟩
  | false => obtain ⟨o, e, _, d⟩ := x; exact ⟨o, e, fun v q => by rw [d] at q; cases q⟩
theorem Sq.lt {b : Bool} {h : Heap} {l : Addr} {xs : Array Value} (x : Sq b h l xs) : l < h.objs.size := by
  cases b with
  | true => obtain ⟨o, e, _⟩ := x; exact Heap.lt_size e
  | false => obtain ⟨o, e, _⟩ := x; exact Heap.lt_size e
section
variable {prog : Program} {w : World} {A : Around} {E : Value → Shared → Prop} {s : Shared}
theorem next_one {b : Bool} {it l : Addr} {i : Nat} {items : Array Value} {x : Value} {Q : Value → Shared → Prop} (hit : It b s.heap it l i) (hl : Sq b s.heap l items) (hx : items[i]? = some x)
    (hQ : ∀ g, It b g it l (i + 1) → Heap.SameBut it s.heap g → Q x { s with heap := g }) : wpAny (model prog w) A (Builtin.SmallTypes.nextOf (.ref it)) Q E s := by
  cases b with
  | true => exact RZ.nextOf_tuple_item hit hl hx hQ
  | false => exact wpAny_nextOf_list_item hit hl hx hQ
theorem next_none {b : Bool} {it l : Addr} {i : Nat} {items : Array Value} {Q : Value → Shared → Prop} (un : A.handled = none) (hit : It b s.heap it l i) (hl : Sq b s.heap l items) (hx : items[i]? = none)
    (hE : ∀ g e, Heap.ExtBut it s.heap g → (∃ o, g.get? e = some o ∧ o.cls = .type "StopIteration") → E (.ref e) { s with heap := g }) : wpAny (model prog w) A (Builtin.SmallTypes.nextOf (.ref it)) Q E s := by
  cases b with
  | true => exact RZ.nextOf_tuple_end un hit hl hx hE
  | false => exact wpAny_nextOf_list_end un hit hl hx hE
variable {b1 b2 : Bool} {z TI TO i1 i2 l1 l2 : Addr} {k1 k2 : Nat} {xs ys : Array Value} {a b : Value}
/-- what stands of all but the zip object, its pair and its iterators -/
def Rest (z TO i1 i2 : Addr) (h g : Heap) : Prop := ∀ c o, c ≠ z → c ≠ TO → c ≠ i1 → c ≠ i2 → h.get? c = some o → g.get? c = some o
end
/-! the making -/
def itO (b : Bool) (l : Addr) : Obj := cond b { cls := .type "tuple_iterator", data := .fields #[.ref l, .int 0 0] } { cls := .type "list_iterator", data := .fields #[.ref l, .int 0 0] }
def mk1 (b : Bool) (h : Heap) (l1 : Addr) : Heap := h.push (itO b l1)
def mk2 (b1 b2 : Bool) (h : Heap) (l1 l2 : Addr) : Heap := (mk1 b1 h l1).push (itO b2 l2)
def mk3 (b1 b2 : Bool) (h : Heap) (l1 l2 : Addr) : Heap := (mk2 b1 b2 h l1 l2).push { cls := .type "tuple", data := .seq #[.ref h.objs.size, .ref (mk1 b1 h l1).objs.size] }
def mk4 (b1 b2 : Bool) (h : Heap) (l1 l2 : Addr) : Heap := (mk3 b1 b2 h l1 l2).push { cls := .type "tuple", data := .seq #[.none, .none] }
def mk5 (b1 b2 : Bool) (h : Heap) (l1 l2 : Addr) : Heap := (mk4 b1 b2 h l1 l2).push { cls := .type "zip", data := .fields #[.none, .bool false, .bool false, .ref (mk2 b1 b2 h l1 l2).objs.size, .ref (mk3 b1 b2 h l1 l2).objs.size] }
theorem meets_new (b1 b2 : Bool) (l1 l2 : Addr) (xs ys : Array Value) :
    Meets (Builtin.«zip.__new__» ⟨[.type "zip", .ref l1, .ref l2], []⟩) (fun _ R s => Sq b1 s.heap l1 xs ∧ Sq b2 s.heap l2 ys ∧ R (.ok (.ret (.ref (mk4 b1 b2 s.heap l1 l2).objs.size))) { s with heap := mk5 b1 b2 s.heap l1 l2 }) :=
  .of_wp fun prog w A R s h => by
    obtain ⟨hp, g, d, tk, os⟩ := s
    obtain ⟨q1, q2, h⟩ := h
    have hs := sub_zip
    have q3 : Sq b2 (hp.push (itO b1 l1)) l2 ys := q2.to fun o e => Heap.get?_push_of_some _ e
    cases b1 <;> cases b2
    · have L1 : Heap.IsList (Shared.heap ⟨hp, g, d, tk, os⟩) l1 xs := q1
      have L2 : Heap.IsList (Shared.heap ⟨hp.push { cls := .type "list_iterator", data := .fields #[.ref l1, .int 0 0] }, g, d, tk, os⟩) l2 ys := q3
      wp_walk using wpAny_pyIter_list L1, wpAny_pyIter_list L2
      exact ⟨_, rfl, h⟩
    · have L1 : Heap.IsList (Shared.heap ⟨hp, g, d, tk, os⟩) l1 xs := q1
      have L2 : Heap.IsTuple (Shared.heap ⟨hp.push { cls := .type "list_iterator", data := .fields #[.ref l1, .int 0 0] }, g, d, tk, os⟩) l2 ys := q3
      wp_walk using wpAny_pyIter_list L1, wpAny_pyIter_tuple L2
      exact ⟨_, rfl, h⟩
    · have L1 : Heap.IsTuple (Shared.heap ⟨hp, g, d, tk, os⟩) l1 xs := q1
      have L2 : Heap.IsList (Shared.heap ⟨hp.push { cls := .type "tuple_iterator", data := .fields #[.ref l1, .int 0 0] }, g, d, tk, os⟩) l2 ys := q3
      wp_walk using wpAny_pyIter_tuple L1, wpAny_pyIter_list L2
      exact ⟨_, rfl, h⟩
    · have L1 : Heap.IsTuple (Shared.heap ⟨hp, g, d, tk, os⟩) l1 xs := q1
      have L2 : Heap.IsTuple (Shared.heap ⟨hp.push { cls := .type "tuple_iterator", data := .fields #[.ref l1, .int 0 0] }, g, d, tk, os⟩) l2 ys := q3
      wp_walk using wpAny_pyIter_tuple L1, wpAny_pyIter_tuple L2
      exact ⟨_, rfl, h⟩
theorem it_new {b : Bool} {g : Heap} {it l : Addr} (h : g.get? it = some (itO b l)) : It b g it l 0 := by
  cases b with
  | true => exact ⟨_, h, rfl, rfl⟩
  | false => exact ⟨_, h, rfl, rfl⟩
theorem itO_live (b : Bool) (l : Addr) : (itO b l).isFreed = false := by cases b <;> rfl
section
variable {prog : Program} {w : World} {A : Around} {E : Value → Shared → Prop} {s : Shared}
theorem call_zipM {b1 b2 : Bool} {l1 l2 : Addr} {xs ys : Array Value} {Q : Value → Shared → Prop} (q1 : Sq b1 s.heap l1 xs) (q2 : Sq b2 s.heap l2 ys)
    (fin : ∀ g, IsZip g (s.heap.objs.size + 4) (s.heap.objs.size + 2) (s.heap.objs.size + 3) .none → IsPair g (s.heap.objs.size + 2) (.ref s.heap.objs.size) (.ref (s.heap.objs.size + 1)) → IsPair g (s.heap.objs.size + 3) .none .none →
      It b1 g s.heap.objs.size l1 0 → It b2 g (s.heap.objs.size + 1) l2 0 → (∀ c o, s.heap.get? c = some o → g.get? c = some o) → Q (.ref (s.heap.objs.size + 4)) { s with heap := g }) :
    wpAny (model prog w) A (call (.type "zip") [.ref l1, .ref l2]) Q E s := by
  refine callType_new PySem.F.called_zip (by decide) (PySem.F.typeCall_zip_2 _ _) (PySem.F.newCall_zip_2 _ _) (fun obj => PySem.F.args_object_init_3 obj _ _) PySem.F.entry_zip_new (meets_new b1 b2 l1 l2 xs ys) ⟨q1, q2, ?_⟩
  have n1 : (mk1 b1 s.heap l1).objs.size = s.heap.objs.size + 1 := Heap.size_push ..
  have n2 : (mk2 b1 b2 s.heap l1 l2).objs.size = s.heap.objs.size + 2 := (Heap.size_push ..).trans (by rw [n1])
  have n3 : (mk3 b1 b2 s.heap l1 l2).objs.size = s.heap.objs.size + 3 := (Heap.size_push ..).trans (by rw [n2])
  have n4 : (mk4 b1 b2 s.heap l1 l2).objs.size = s.heap.objs.size + 4 := (Heap.size_push ..).trans (by rw [n3])
  have d5 : (mk5 b1 b2 s.heap l1 l2).get? (mk4 b1 b2 s.heap l1 l2).objs.size = some { cls := .type "zip", data := .fields #[.none, .bool false, .bool false, .ref (mk2 b1 b2 s.heap l1 l2).objs.size, .ref (mk3 b1 b2 s.heap l1 l2).objs.size] } := Heap.get?_push_size _ rfl
  have d4 : (mk5 b1 b2 s.heap l1 l2).get? (mk3 b1 b2 s.heap l1 l2).objs.size = some { cls := .type "tuple", data := .seq #[.none, .none] } := Heap.get?_push_of_some _ (Heap.get?_push_size _ rfl)
  have d3 : (mk5 b1 b2 s.heap l1 l2).get? (mk2 b1 b2 s.heap l1 l2).objs.size = some { cls := .type "tuple", data := .seq #[.ref s.heap.objs.size, .ref (mk1 b1 s.heap l1).objs.size] } := Heap.get?_push_of_some _ (Heap.get?_push_of_some _ (Heap.get?_push_size _ rfl))
  have d2 : (mk5 b1 b2 s.heap l1 l2).get? (mk1 b1 s.heap l1).objs.size = some (itO b2 l2) := Heap.get?_push_of_some _ (Heap.get?_push_of_some _ (Heap.get?_push_of_some _ (Heap.get?_push_size _ (itO_live b2 l2))))
  have d1 : (mk5 b1 b2 s.heap l1 l2).get? s.heap.objs.size = some (itO b1 l1) := Heap.get?_push_of_some _ (Heap.get?_push_of_some _ (Heap.get?_push_of_some _ (Heap.get?_push_of_some _ (Heap.get?_push_size _ (itO_live b1 l1)))))
  show _ ∧ _
  rw [n2, n3, n4] at d5
  rw [n1, n2] at d3
  rw [n3] at d4
  rw [n1] at d2
  rw [n4]
  exact ⟨⟨_, d5, rfl⟩, fin _ d5 d3 d4 (it_new d1) (it_new d2) fun c o x => Heap.get?_push_of_some _ (Heap.get?_push_of_some _ (Heap.get?_push_of_some _ (Heap.get?_push_of_some _ (Heap.get?_push_of_some _ x))))⟩
end
end ZM

/-! zip of mixed kinds, in a loop -/
namespace ZM
open PySem PySem.Spec PyProof.Rows L2
def SqX (b : Bool) (K : PySem.W.Frag) (H : Hp) (a : Addr) (xs : List V) : Prop := cond b (SqT K H a xs) (SqL K H a xs)
section
variable {X : Cx} {pins : List (Addr × Obj)} {σ : L2.St} {H : Hp} {s : Shared} {a : Addr} {xs ys : List V}
theorem sq_get {b : Bool} (I : Inv X pins σ H s) (h : SqX b X.K H a xs) : ∃ its, Vals xs its ∧ Sq b s.heap a its.toArray := by
  cases b with
  | true => obtain ⟨its, rv, p, _⟩ := I.tuple h; exact ⟨its, rv, p⟩
  | false => obtain ⟨its, rv, p, _⟩ := I.list h; exact ⟨its, rv, p.isList⟩
end
end ZM
namespace DL
open PySem PySem.Spec PyProof.Rows L2
theorem sqX_mono {b : Bool} {K : PySem.W.Frag} {F F' : Hp} (h : Same F F') {a : Addr} {xs : List V} (q : ZM.SqX b K F a xs) : ZM.SqX b K F' a xs := by
  cases b with
  | true => exact sqT_mono h q
  | false => exact sqL_mono h q
def seqOf : D → Option (List D)
  | .lst xs => some xs
  | .tup xs => some xs
  | _ => none
theorem seq_rel {K : PySem.W.Frag} {F : Hp} {d : D} {v : V} {xs : List D} (r : RelD K F d v) (h : seqOf d = some xs) : ∃ a b vs, v = .ref a ∧ ZM.SqX b K F a vs ∧ RelDs K F xs vs := by
  cases r with
  | @tup p vs ds h1 rr => cases h; exact ⟨p, true, vs, rfl, tq h1, rr⟩
  | @lst p vs ds h1 rr => cases h; exact ⟨p, false, vs, rfl, .inl (.inl h1), rr⟩
  | _ => cases h
section
variable {X : Cx}
end
end DL

/-! == of two sets of numbers -/
namespace SQ
open PySem PySem.Spec PyProof.Rows L2
section
variable {P : Program} {w : World} {A : Around} {E : Value → Shared → Prop} {s : Shared}
end
end SQ
namespace DL
open PySem PySem.Spec PyProof.Rows L2
end DL

/-! enumerate(zip(x, y)): the pair that zip gave out may still stand -/
namespace EZ
open PySem ZM
abbrev IsZ (h : Heap) (z TI TO : Addr) (f0 : Value) (f1 : Bool) : Prop := h.get? z = some { cls := .type "zip", dict := none, data := .fields #[f0, .bool f1, .bool false, .ref TI, .ref TO], slots := #[] }
def Fr0 (v : Value) : Prop := v = .none ∨ ∃ k t, v = .int k t
section
variable {prog : Program} {w : World} {A : Around} {E : Value → Shared → Prop} {s : Shared} {b1 b2 : Bool} {z TI TO i1 i2 l1 l2 : Addr} {k1 k2 : Nat} {xs ys : Array Value} {a b f0 : Value} {f1 : Bool}
theorem lia_at {M : Model} {a : Addr} {Q : Option Obj → Shared → Prop} (h : Q (s.heap.get? a) s) : wpAny M A (loadIfAlive a) Q E s := fun Γ p hp => by
  unfold loadIfAlive
  rw [Sem.wp_loadIfAlive]
  exact (wpAny_pure (M := M) (A := A) (E := E) h) Γ p hp
theorem free_z {Q : Bool → Shared → Prop} (hz : IsZ s.heap z TI TO f0 f1) (hf : Fr0 f0) (h1 : Q true s) (h2 : ∀ g, IsZ g z TI TO f0 true → Heap.SameBut z s.heap g → Q false { s with heap := g }) :
    wpAny (model prog w) A (Builtin.SmallTypes.ownedTupleIsFree (.ref z)) Q E s := by
  unfold Builtin.SmallTypes.ownedTupleIsFree
  refine wpAny_bind (wpAny_field hz rfl (x := f0) rfl ?_)
  rcases hf with rfl | ⟨k, t, rfl⟩
  · exact wpAny_pure h1
  · dsimp only
    refine wpAny_bind (lia_at ?_)
    cases s.heap.get? k.toNat with
    | none =>
      simp only [Option.isNone_none, if_true]
      exact wpAny_pure h1
    | some o =>
      simp only [Option.isNone_some, Bool.false_eq_true, if_false]
      refine wpAny_bind (wpAny_field hz rfl (x := .bool f1) rfl ?_)
      cases f1 with
      | true =>
        rw [if_neg (by decide)]
        exact wpAny_pure (h2 s.heap hz ⟨rfl, fun _ _ => rfl⟩)
      | false =>
        rw [if_pos (by decide)]
        refine wpAny_bind (wpAny_setField_rec hz (by simp) fun g z1 m1 => ?_)
        exact wpAny_pure (h2 g z1 m1)
/-- zip's next, whatever stands of the pair it gave out -/
theorem zip_turn2 {x y : Value} {Q : Value → Shared → Prop} (D : ZipApart z TI TO i1 i2 l1 l2) (hz : IsZ s.heap z TI TO f0 f1) (hf : Fr0 f0) (pI : IsPair s.heap TI (.ref i1) (.ref i2)) (pO : IsPair s.heap TO a b)
    (t1 : It b1 s.heap i1 l1 k1) (t2 : It b2 s.heap i2 l2 k2) (q1 : Sq b1 s.heap l1 xs) (q2 : Sq b2 s.heap l2 ys) (hx : xs[k1]? = some x) (hy : ys[k2]? = some y)
    (fin : ∀ g f0' f1' a' b', IsZ g z TI TO f0' f1' → Fr0 f0' → IsPair g TO a' b' → It b1 g i1 l1 (k1 + 1) → It b2 g i2 l2 (k2 + 1) → IsPair g s.heap.objs.size x y → g.objs.size = s.heap.objs.size + 1 → Rest z TO i1 i2 s.heap g → Q (.ref s.heap.objs.size) { s with heap := g }) :
    wpAny (model prog w) A (Builtin.«zip.__next__» ⟨[.ref z], []⟩) (fun e s' => ∃ v, e = .done (.ret v) ∧ Q v s') E s := by
  show wpAny _ _ (field (.ref z) 2 >>= _) _ _ _; refine wpAny_bind (wpAny_field hz rfl (x := .bool false) rfl ?_)
  show wpAny _ _ (field (.ref z) 3 >>= _) _ _ _; refine wpAny_bind (wpAny_field hz rfl (x := .ref TI) rfl (wpAny_bind (wpAny_seqItems pI rfl ?_)))
  show wpAny _ _ (Builtin.SmallTypes.ownedTupleIsFree (.ref z) >>= _) _ _ _; refine wpAny_bind (free_z hz hf ?_ fun g0 z0 m0 => ?_)
  · simp only [if_true]; refine wpAny_bind (wpAny_rule (wpAny_bind (wpAny_field hz rfl (x := .ref TO) rfl ?_)))
    refine wpAny_bind (wpAny_setField_rec hz (by simp) fun g1 z1 m1 => ?_)
    have z1 : IsZ g1 z TI TO .ellipsis f1 := z1
    refine wpAny_bind ?_; simp only [List.zipIdx_cons, List.zipIdx_nil, List.forIn_cons, List.forIn_nil]
    refine wpAny_bind (wpAny_bind (wpAny_onRaise ?_)); show wpAny _ _ (Builtin.SmallTypes.nextOf (.ref i1) >>= _) _ _ _
    refine wpAny_bind (next_one (t1.but m1.extBut D.i1z) (q1.but m1.extBut D.l1z) hx fun g2 u1 m2 => wpAny_pure ?_)
    have p2 : IsPair g2 TO a b := m2.extBut _ _ D.TOi1 (m1.extBut _ _ D.TOz pO)
    refine wpAny_bind (wpAny_seqItems p2 rfl (wpAny_bind (wpAny_updateSeq_pair p2 fun g3 p3 m3 => ?_)))
    have p3 : IsPair g3 TO x b := p3
    refine wpAny_bind (wpAny_letGo (wpAny_pure (wpAny_bind (wpAny_bind (wpAny_onRaise ?_)))))
    show wpAny _ _ (Builtin.SmallTypes.nextOf (.ref i2) >>= _) _ _ _
    refine wpAny_bind (next_one (((t2.but m1.extBut D.i2z).but m2.extBut D.i12.symm).but m3.extBut D.TOi2.symm) (((q2.but m1.extBut D.l2z).but m2.extBut D.l2i1).but m3.extBut D.l2TO) hy fun g4 u2 m4 => wpAny_pure ?_)
    have p4 : IsPair g4 TO x b := m4.extBut _ _ D.TOi2 p3
    refine wpAny_bind (wpAny_seqItems p4 rfl (wpAny_bind (wpAny_updateSeq_pair p4 fun g5 p5 m5 => ?_)))
    have p5 : IsPair g5 TO x y := p5
    refine wpAny_bind (wpAny_letGo (wpAny_pure (wpAny_pure (wpAny_bind (wpAny_seqItems p5 rfl (wpAny_bind (wpAny_newTuple ?_)))))))
    have sz : g5.objs.size = s.heap.objs.size := by rw [m5.1, m4.1, m3.1, m2.1, m1.1]
    have z5 : IsZ g5 z TI TO .ellipsis f1 := m5.extBut _ _ D.TOz.symm (m4.extBut _ _ D.i2z.symm (m3.extBut _ _ D.TOz.symm (m2.extBut _ _ D.i1z.symm z1)))
    have r5 : Rest z TO i1 i2 s.heap g5 := fun c o c1 c2 c3 c4 e => m5.extBut _ _ c2 (m4.extBut _ _ c4 (m3.extBut _ _ c2 (m2.extBut _ _ c3 (m1.extBut _ _ c1 e))))
    have u1 : It b1 g5 i1 l1 (k1 + 1) := ((u1.but m3.extBut D.TOi1.symm).but m4.extBut D.i12).but m5.extBut D.TOi1.symm
    have u2 : It b2 g5 i2 l2 (k2 + 1) := u2.but m5.extBut D.TOi2.symm
    have zl : z < g5.objs.size := Heap.lt_size z5
    show wpAny _ _ (Builtin.SmallTypes.ownedTupleHandOut (.ref z) (.ref g5.objs.size) >>= _) _ _ _; refine wpAny_bind ?_
    unfold Builtin.SmallTypes.ownedTupleHandOut
    have z6 : IsZ (g5.push { cls := .type "tuple", data := .seq #[x, y] }) z TI TO .ellipsis f1 := Heap.get?_push_of_some _ z5
    refine wpAny_bind (wpAny_setField_rec z6 (by simp) fun g7 z7 m7 => ?_)
    have z7 : IsZ g7 z TI TO (rawInt g5.objs.size) f1 := z7
    refine wpAny_setField_rec z7 (by simp) fun g8 z8 m8 => ?_
    have z8 : IsZ g8 z TI TO (rawInt g5.objs.size) false := z8
    have up : ∀ c o, c ≠ z → g5.get? c = some o → g8.get? c = some o := fun c o c1 e => m8.extBut _ _ c1 (m7.extBut _ _ c1 (Heap.get?_push_of_some _ e))
    have nw : IsPair g8 g5.objs.size x y := m8.extBut _ _ (Nat.ne_of_gt zl) (m7.extBut _ _ (Nat.ne_of_gt zl) (Heap.get?_push_size _ rfl))
    have s8 : g8.objs.size = g5.objs.size + 1 := by rw [m8.1, m7.1, Heap.size_push]
    rw [sz] at z8 nw s8
    refine wpAny_pure ⟨_, rfl, ?_⟩
    show Q (.ref g5.objs.size) _
    rw [sz]
    exact fin g8 _ _ _ _ z8 (.inr ⟨_, _, rfl⟩) (up _ _ D.TOz p5) (u1.to fun o e => up _ o D.i1z e) (u2.to fun o e => up _ o D.i2z e) nw s8 fun c o c1 c2 c3 c4 e => up c o c1 (r5 c o c1 c2 c3 c4 e)
  · rw [if_neg (by decide)]
    dsimp only
    refine wpAny_bind ?_
    simp only [List.forIn_toArray, List.forIn_cons, List.forIn_nil]
    refine wpAny_bind (wpAny_bind (wpAny_holding ?_))
    show wpAny _ _ (Builtin.SmallTypes.nextOf (.ref i1) >>= _) _ _ _
    refine wpAny_bind (next_one (t1.but m0.extBut D.i1z) (q1.but m0.extBut D.l1z) hx fun g2 u1 m2 => wpAny_pure ?_)
    refine wpAny_pure ?_
    refine wpAny_bind (wpAny_bind (wpAny_holding ?_))
    show wpAny _ _ (Builtin.SmallTypes.nextOf (.ref i2) >>= _) _ _ _
    refine wpAny_bind (next_one ((t2.but m0.extBut D.i2z).but m2.extBut D.i12.symm) ((q2.but m0.extBut D.l2z).but m2.extBut D.l2i1) hy fun g4 u2 m4 => wpAny_pure ?_)
    refine wpAny_pure (wpAny_pure ?_)
    refine wpAny_bind (wpAny_newTuple (hsz := (show 2 ≤ sizeLine by decide)) ?_)
    have sz : g4.objs.size = s.heap.objs.size := by rw [m4.1, m2.1, m0.1]
    have z4 : IsZ g4 z TI TO f0 true := m4.extBut _ _ D.i2z.symm (m2.extBut _ _ D.i1z.symm z0)
    have p4 : IsPair g4 TO a b := m4.extBut _ _ D.TOi2 (m2.extBut _ _ D.TOi1 (m0.extBut _ _ D.TOz pO))
    have r4 : Rest z TO i1 i2 s.heap g4 := fun c o c1 c2 c3 c4 e => m4.extBut _ _ c4 (m2.extBut _ _ c3 (m0.extBut _ _ c1 e))
    have u1 : It b1 g4 i1 l1 (k1 + 1) := u1.but m4.extBut D.i12
    have up : ∀ c o, g4.get? c = some o → (g4.push { cls := .type "tuple", data := .seq #[x, y] }).get? c = some o := fun c o e => Heap.get?_push_of_some _ e
    have nw : IsPair (g4.push { cls := .type "tuple", data := .seq #[x, y] }) g4.objs.size x y := Heap.get?_push_size _ rfl
    have s5 : (g4.push { cls := .type "tuple", data := .seq #[x, y] }).objs.size = g4.objs.size + 1 := Heap.size_push ..
    rw [sz] at nw s5
    refine wpAny_pure ⟨_, rfl, ?_⟩
    show Q (.ref g4.objs.size) _
    rw [sz]
    exact fin _ _ _ _ _ (up _ _ z4) hf (up _ _ p4) (u1.to fun o e => up _ o e) (u2.to fun o e => up _ o e) nw s5 fun c o c1 c2 c3 c4 e => up c o (r4 c o c1 c2 c3 c4 e)
theorem zip_stop2 {Q : Fin → Shared → Prop} (un : A.handled = none) (D : ZipApart z TI TO i1 i2 l1 l2) (hz : IsZ s.heap z TI TO f0 f1) (hf : Fr0 f0) (pI : IsPair s.heap TI (.ref i1) (.ref i2)) (pO : IsPair s.heap TO a b)
    (t1 : It b1 s.heap i1 l1 k1) (t2 : It b2 s.heap i2 l2 k2) (q1 : Sq b1 s.heap l1 xs) (q2 : Sq b2 s.heap l2 ys) (hend : xs[k1]? = none ∨ ys[k2]? = none)
    (hE : ∀ g e, Rest z TO i1 i2 s.heap g → (∃ o, g.get? e = some o ∧ o.cls = .type "StopIteration") → E (.ref e) { s with heap := g }) :
    wpAny (model prog w) A (Builtin.«zip.__next__» ⟨[.ref z], []⟩) Q E s := by
  show wpAny _ _ (field (.ref z) 2 >>= _) _ _ _; refine wpAny_bind (wpAny_field hz rfl (x := .bool false) rfl ?_)
  show wpAny _ _ (field (.ref z) 3 >>= _) _ _ _; refine wpAny_bind (wpAny_field hz rfl (x := .ref TI) rfl (wpAny_bind (wpAny_seqItems pI rfl ?_)))
  show wpAny _ _ (Builtin.SmallTypes.ownedTupleIsFree (.ref z) >>= _) _ _ _; refine wpAny_bind (free_z hz hf ?_ fun g0 z0 m0 => ?_)
  · simp only [if_true]; refine wpAny_bind (wpAny_rule (wpAny_bind (wpAny_field hz rfl (x := .ref TO) rfl ?_)))
    refine wpAny_bind (wpAny_setField_rec hz (by simp) fun g1 z1 m1 => ?_)
    have z1 : IsZ g1 z TI TO .ellipsis f1 := z1
    refine wpAny_bind ?_; simp only [List.zipIdx_cons, List.zipIdx_nil, List.forIn_cons, List.forIn_nil]
    refine wpAny_bind (wpAny_bind (wpAny_onRaise ?_)); show wpAny _ _ (Builtin.SmallTypes.nextOf (.ref i1) >>= _) _ _ _
    cases hx : xs[k1]? with
    | none =>
      refine wpAny_bind (next_none un (t1.but m1.extBut D.i1z) (q1.but m1.extBut D.l1z) hx fun g2 e m2 he => ?_)
      obtain ⟨oe, ho, hc⟩ := he
      have z2 : IsZ g2 z TI TO .ellipsis f1 := m2 _ _ D.i1z.symm z1
      have ez : e ≠ z := fun q => by subst q; rw [z2] at ho; cases ho; simp at hc
      refine wpAny_setField_rec z2 (by simp) fun g3 _ m3 => hE g3 e (fun c o c1 _ c3 _ q => m3.extBut _ _ c1 (m2 _ _ c3 (m1.extBut _ _ c1 q))) ⟨oe, m3.extBut _ _ ez ho, hc⟩
    | some x =>
      have hy : ys[k2]? = none := by rcases hend with h | h; rw [hx] at h; cases h; exact h
      refine wpAny_bind (next_one (t1.but m1.extBut D.i1z) (q1.but m1.extBut D.l1z) hx fun g2 u1 m2 => wpAny_pure ?_)
      have p2 : IsPair g2 TO a b := m2.extBut _ _ D.TOi1 (m1.extBut _ _ D.TOz pO)
      refine wpAny_bind (wpAny_seqItems p2 rfl (wpAny_bind (wpAny_updateSeq_pair p2 fun g3 p3 m3 => ?_)))
      refine wpAny_bind (wpAny_letGo (wpAny_pure (wpAny_bind (wpAny_bind (wpAny_onRaise ?_)))))
      show wpAny _ _ (Builtin.SmallTypes.nextOf (.ref i2) >>= _) _ _ _
      refine wpAny_bind (next_none un (((t2.but m1.extBut D.i2z).but m2.extBut D.i12.symm).but m3.extBut D.TOi2.symm) (((q2.but m1.extBut D.l2z).but m2.extBut D.l2i1).but m3.extBut D.l2TO) hy fun g4 e m4 he => ?_)
      obtain ⟨oe, ho, hc⟩ := he
      have z4 : IsZ g4 z TI TO .ellipsis f1 := m4 _ _ D.i2z.symm (m3.extBut _ _ D.TOz.symm (m2.extBut _ _ D.i1z.symm z1))
      have ez : e ≠ z := fun q => by subst q; rw [z4] at ho; cases ho; simp at hc
      refine wpAny_setField_rec z4 (by simp) fun g5 _ m5 => hE g5 e (fun c o c1 c2 c3 c4 q => m5.extBut _ _ c1 (m4 _ _ c4 (m3.extBut _ _ c2 (m2.extBut _ _ c3 (m1.extBut _ _ c1 q))))) ⟨oe, m5.extBut _ _ ez ho, hc⟩
  · rw [if_neg (by decide)]
    dsimp only
    refine wpAny_bind ?_
    simp only [List.forIn_toArray, List.forIn_cons, List.forIn_nil]
    refine wpAny_bind (wpAny_bind (wpAny_holding ?_))
    show wpAny _ _ (Builtin.SmallTypes.nextOf (.ref i1) >>= _) _ _ _
    cases hx : xs[k1]? with
    | none => exact wpAny_bind (next_none un (t1.but m0.extBut D.i1z) (q1.but m0.extBut D.l1z) hx fun g2 e m2 he => hE g2 e (fun c o c1 _ c3 _ q => m2 _ _ c3 (m0.extBut _ _ c1 q)) he)
    | some x =>
      have hy : ys[k2]? = none := by rcases hend with h | h; rw [hx] at h; cases h; exact h
      refine wpAny_bind (next_one (t1.but m0.extBut D.i1z) (q1.but m0.extBut D.l1z) hx fun g2 u1 m2 => wpAny_pure ?_)
      refine wpAny_pure ?_
      refine wpAny_bind (wpAny_bind (wpAny_holding ?_))
      show wpAny _ _ (Builtin.SmallTypes.nextOf (.ref i2) >>= _) _ _ _
      exact wpAny_bind (next_none un ((t2.but m0.extBut D.i2z).but m2.extBut D.i12.symm) ((q2.but m0.extBut D.l2z).but m2.extBut D.l2i1) hy fun g4 e m4 he => hE g4 e (fun c o c1 c2 c3 c4 q => m4 _ _ c4 (m2.extBut _ _ c3 (m0.extBut _ _ c1 q))) he)
end
end EZ
namespace EZ
open PySem ZM
open AutoSeq1 (wpAny_loadPart')
theorem meets_new {zz TI TO : Addr} :
    Meets (Builtin.«enumerate.__new__» ⟨[.type "enumerate", .ref zz], []⟩) (fun _ R s => IsZip s.heap zz TI TO .none ∧
      R (.ok (.ret (.ref s.heap.objs.size))) { s with heap := s.heap.push { cls := .type "enumerate", data := .fields #[.none, .bool false, .ref zz, rawInt 0, .none, .none] } }) :=
  .of_wp fun prog w A R s h => by
    obtain ⟨hp, g, d, tk, os⟩ := s; obtain ⟨hl, h⟩ := h
    have hsub := sub_enumerate
    have hL : IsZip (Shared.heap ⟨hp, g, d, tk, os⟩) zz TI TO .none := hl
    wp_walk using wpAny_loadPart' hl
    refine wpAny_stack_any fun st => wpAny_pure ?_
    split
    · rename_i c _ _ _ _ _
      cases (c == Value.type "enumerate")
      · wp_walk using wpAny_loadPart' hl, wpAny_pyIter_zip hL
        exact ⟨_, rfl, h⟩
      · wp_walk using wpAny_loadPart' hl, wpAny_pyIter_zip hL
        exact ⟨_, rfl, h⟩
    · wp_walk using wpAny_loadPart' hl, wpAny_pyIter_zip hL
      exact ⟨_, rfl, h⟩
section
variable {prog : Program} {w : World} {A : Around} {E : Value → Shared → Prop} {s : Shared}
end
end EZ

/-! for over enumerate(zip(x, y)) -/
namespace EZ
open PySem PySem.Spec PyProof.Rows L2 ZM
end EZ
namespace DL
open PySem PySem.Spec PyProof.Rows L2
end DL

/-! sorted(list of numbers) -/
namespace DL
open PySem PySem.Spec PyProof.Rows L2
end DL

/-! DLX: what may raise: readings that take a wish about what is raised -/
namespace DL
open PySem PySem.Spec PyProof.Rows L2

abbrev DWish := DSt → D → LH → Prop
/-- the data of what is raised -/
def ExRel (K : PySem.W.Frag) (F : Hp) (x : D) (cls : Value) (d : Option Addr) : Prop := match x with
  | .exc k => ∃ C, PySem.W.nsIn K mainGlobals (exN k) = some (some (.ref C)) ∧ cls = .ref C ∧ d = none
  | .exc1 k e => ∃ C dx v, PySem.W.nsIn K mainGlobals (exN k) = some (some (.ref C)) ∧ cls = .ref C ∧ d = some dx ∧ F dx = some (.xd [(exF k, v)]) ∧ RelD K F e v
  | _ => False
theorem ExRel.rel {K : PySem.W.Frag} {F : Hp} {x : D} {cls : Value} {d : Option Addr} {a : Addr} (h : ExRel K F x cls d) (n : F a = none) : RelD K (upd F a (ExH cls d a)) x (.ref a) := by
  cases x with
  | exc k =>
    obtain ⟨C, h1, rfl, rfl⟩ := h
    exact .exc h1 upd_same
  | exc1 k e =>
    obtain ⟨C, dx, v, h1, rfl, rfl, h2, h3⟩ := h
    refine .exc1 h1 upd_same ?_ (h3.mono (same_upd n))
    rw [upd_ne (fun z => by rw [z, n] at h2; cases h2)]
    exact h2
  | _ => exact h.elim
def LXE (K : PySem.W.Frag) (F Fr : Hp) (wd : D → LH → Prop) : XK := fun cls d H => ∃ F' l x, Same F F' ∧ Rep K F' Fr l H ∧ ExRel K F' x cls d ∧ wd x l
section
variable {X : Cx} {e : Expr} {es : List Expr} {st : Stmt} {sts : List Stmt}
end

/-! ### defs that may raise -/
def spOfX (K : PySem.W.Frag) (dsp : (D → LH → Prop) → DSp) : Sp := fun vs H Q E => ∃ F Fr ds l Qd wd, RelDs K F ds vs ∧ Rep K F Fr l H ∧ dsp wd ds l Qd ∧ (∀ v H', LK K F Fr Qd v H' → Q v H') ∧ ∀ cls d H', LXE K F Fr wd cls d H' → E cls d H'
structure FnX (P : Program) (w : World) (K : PySem.W.Frag) (mg : Str → Option Value) (base : Heap) (k : Nat) (f : Addr) (fd : FuncData) (ps : List Str) (dsp : (D → LH → Prop) → DSp) : Prop where
  len : ∀ wd ds l Q, dsp wd ds l Q → ds.length = ps.length
  run : ∀ (A : Around) (outer : List Env) (s : Shared) (H : Hp) (args : Args) (us : List Value) (vs : List V) (Q : VK) (E : XK), Room k A → A.guards = some [] → Env0 P w K mg base A outer s H → BindsTo s fd args (ps.zip us) → Vals vs us → spOfX K dsp vs H Q E →
    codeAny (model P w) A (.call (.ref f) args) (CR (L2.CX P w) outer P w H s Q E) s
section
variable {P : Program} {w : World} {K : PySem.W.Frag} {mg : Str → Option Value} {base : Heap}
theorem FnX.mono {j k : Nat} {f : Addr} {fd : FuncData} {ps : List Str} {dsp : (D → LH → Prop) → DSp} (G : FnX P w K mg base j f fd ps dsp) (h : j ≤ k) : FnX P w K mg base k f fd ps dsp :=
  ⟨G.len, fun A outer s H args us vs Q E hr => G.run A outer s H args us vs Q E (hr.mono h)⟩
/-- where nothing is raised -/
theorem FnX.plain {k : Nat} {f : Addr} {fd : FuncData} {ps : List Str} {dsp : (D → LH → Prop) → DSp} (G : FnX P w K mg base k f fd ps dsp) : FnG P w K mg base k f fd ps (dsp fun _ _ => False) := by
  refine ⟨G.len _, fun A outer s H args us vs Q E hr hgd e0 hbd r hsp => ?_⟩
  obtain ⟨F, Fr, ds, l, Qd, rd, R, q, hq⟩ := hsp
  refine codeAny_mono (G.run A outer s H args us vs Q L2.E0 hr hgd e0 hbd r ⟨F, Fr, ds, l, Qd, _, rd, R, q, hq, fun cls d H' z => ?_⟩) fun res s' hq => ?_
  · obtain ⟨_, _, _, _, _, _, z⟩ := z
    exact z.elim
  · cases res with
    | error _ =>
      obtain ⟨_, _, _, _, _, _, _, _, _, _, _, _, z⟩ := hq
      exact z.elim
    | ok fl => cases fl <;> exact hq
end

section
variable {X : Cx} {e o : Expr} {es : List Expr} {to : DTE} {t : DWish → DTA} {pos p apos : Pos} {x m : Str} {c : Cl} {C : Addr} {k : Nat} {g f : Addr} {fd : FuncData} {ps : List Str} {dsp : (D → LH → Prop) → DSp}
end
end DL

namespace DL
open PySem PySem.Spec PyProof.Rows L2
/-! ### argument lists, displays, statements -/
section
variable {X : Cx} {e : Expr} {es : List Expr} {te : DWish → DTE} {u : DWish → DTA} {pos : Pos} {st : Stmt} {rest : List Stmt} {t v : DWish → DTS}
end

/-! ### raise -/
section
variable {X : Cx} {x m : Str} {C : Addr} {k j : Nat} {p p2 pos pos' : Pos}
end

/-! ### what a table says of the classes -/
/-! ### try: the exception that is caught is tracked from then on -/
section
variable {X : Cx} {pins : List (Addr × Obj)} {σ : St} {H : Hp} {s : Shared}
end
section
variable {X : Cx} {x n : Str} {c : Value} {i : Nat} {body suite : List Stmt} {b₀ : Stmt} {np pos pos' : Pos} {tb : WX → TS} {ts : Addr → TS} {Wout : WX}
end
section
variable {X : Cx} {x n : Str} {c : Value} {i : Nat} {body suite : List Stmt} {b₀ : Stmt} {np pos pos' : Pos} {tb : DWish → DTS} {ts : DTS} {tab : List (Nat × Bool)}
theorem LS.clr {K : PySem.W.Frag} {F F1 Fr : Hp} (s : Same F F1) {Q : DSt → LH → Prop} {σ : St} {H : Hp} (q : LS K F1 Fr (fun e l => clrK e i fun e' => Q e' l) σ H) : LS K F Fr Q (σ.set i none) H := by
  obtain ⟨F2, e, l, s2, re, R, q⟩ := q
  rw [clrK_eq] at q
  exact ⟨F2, _, l, s.trans s2, re.clr i none, R, q⟩
end

/-! ### isinstance of an exception -/
section
variable {X : Cx}
variable {e : Expr} {te : DTE} {tab : List (Nat × Bool)} {y : Str} {p p2 p3 pos : Pos} {es : List Expr} {us : List Value} {u : Value}
end
/-! ### a list that may be written, frozen and remembered -/
end DL

namespace DL
open PySem PySem.Spec PyProof.Rows L2
/-! ### str of a list of lists that may be written, as they stand -/
section
variable {X : Cx} {k : Nat} {e : Expr} {te : DTE} {p pos : Pos}
end
end DL

/-! what may be written is borrowed by an expression that tells a tuple of simple things -/
namespace DL
open PySem PySem.Spec PyProof.Rows L2
def tupI : D → Bool
  | .non | .bl _ | .int _ | .str _ => true
  | .tup ds => ds.all simpD
  | _ => false
theorem simp_rel {K : PySem.W.Frag} {F F' : Hp} {d : D} {v : V} (h : simpD d = true) (r : RelD K F d v) : RelD K F' d v := by
  cases r with
  | non => exact .non
  | bl b => exact .bl b
  | int b => exact .int b
  | str b => exact .str b
  | _ => cases h
theorem simp_rels {K : PySem.W.Frag} {F F' : Hp} : ∀ {ds : List D} {vs : List V}, ds.all simpD = true → RelDs K F ds vs → RelDs K F' ds vs
  | [], _, _, .nil => .nil
  | d :: ds, _, h, .cons a b => by
    rw [List.all_cons, Bool.and_eq_true] at h
    exact .cons (simp_rel h.1 a) (simp_rels h.2 b)
theorem dok_notup {K : PySem.W.Frag} {F H : Hp} {b : Addr} {o : DO} {vs : List V} (f : isFz o = false) (h : DOk K F H b o) (e : H b = some (.tup vs)) : False := by
  cases o with
  | lst ds => obtain ⟨vs, _, z⟩ := h; rw [e] at z; cases z
  | dT ks ds => obtain ⟨vs, _, _, z⟩ := h; rw [e] at z; cases z
  | dK ks ds => obtain ⟨vs, _, _, z⟩ := h; rw [e] at z; cases z
  | ins c ds => obtain ⟨C, dx, vs, _, _, _, z⟩ := h; rw [e] at z; cases z
  | dN o ks ds => obtain ⟨as, vs, _, _, _, z⟩ := h; rw [e] at z; cases z
  | fz d => cases f
section
variable {X : Cx} {e : Expr} {te : DTE}
end
/-! the same, but some objects may be read within -/
def tupL : D → Bool
  | .lst xs => xs.all tupI && xs.any fun d => !simpD d
  | d => tupI d
def tupV : D → Bool
  | .ref _ => true
  | d => tupL d
def tupO : DO → Bool
  | .lst ds => ds.all tupV
  | .dT _ ds => ds.all tupV
  | .dK _ ds => ds.all tupV
  | .ins _ ds => ds.all tupV
  | .dN _ _ _ => false
  | .fz _ => false
def stL (l : LH) (S : Addr → Bool) : LH := fun b => cond (S b) (l b) none
theorem stL_in {l : LH} {S : Addr → Bool} {b : Addr} (h : S b = true) : stL l S b = l b := by unfold stL; rw [h]; rfl
theorem stL_out {l : LH} {S : Addr → Bool} {b : Addr} (h : S b = false) : stL l S b = none := by unfold stL; rw [h]; rfl
/-- S: what may be read -/
def BorOk (l : LH) (S : Addr → Bool) : Prop := ∀ a, S a = true → ∃ o, l a = some o ∧ tupO o = true
def nref (vs : List V) : Bool := vs.all fun v => match v with | .ref _ => false | _ => true
theorem nref_not {K : PySem.W.Frag} {F : Hp} : ∀ {ds : List D} {vs : List V}, ds.all tupI = true → (ds.any fun d => !simpD d) = true → RelDs K F ds vs → nref vs = true → False
  | [], _, _, h, .nil, _ => nomatch h
  | d :: ds, _, h, h2, .cons a b, n => by
    rw [List.all_cons, Bool.and_eq_true] at h
    unfold nref at n
    rw [List.all_cons, Bool.and_eq_true] at n
    rw [List.any_cons, Bool.or_eq_true] at h2
    rcases h2 with h2 | h2
    · cases a with
      | non => cases h2
      | bl b => cases h2
      | int b => cases h2
      | str b => cases h2
      | tup p q => exact nomatch n.1
      | _ => exact nomatch h.1
    · exact nref_not h.2 h2 b n.2
structure BorS (F : Hp) (l : LH) (S : Addr → Bool) (H F1 : Hp) : Prop where
  up : Same F F1
  of : ∀ b o, F1 b = some o → F b = some o ∨ (l b ≠ none ∧ S b = false ∧ H b = some o ∧ ∃ vs, o = .lst vs ∧ nref vs = true)
theorem BorS.refl {F : Hp} {l : LH} {S : Addr → Bool} {H : Hp} : BorS F l S H F := ⟨Same.refl F, fun _ _ e => .inl e⟩
/-- F2 without what was borrowed -/
def subH (F F1 F2 : Hp) : Hp := fun b => match F b, F1 b with
  | none, some _ => none
  | _, _ => F2 b
theorem subH_sub {F F1 F2 : Hp} {b : Addr} {o : HO} (h : subH F F1 F2 b = some o) : F2 b = some o := by
  unfold subH at h
  split at h
  · cases h
  · exact h
theorem subH_none {F F1 F2 : Hp} {b : Addr} (h : F2 b = none) : subH F F1 F2 b = none := by
  unfold subH
  split
  · rfl
  · exact h
theorem subH_bor {F F1 F2 : Hp} {b : Addr} (h : F b = none) (h1 : F1 b ≠ none ∨ F2 b = none) : subH F F1 F2 b = none := by
  unfold subH
  rw [h]
  cases q : F1 b with
  | some _ => rfl
  | none =>
    rcases h1 with z | z
    · exact absurd q z
    · exact z
theorem subH_same {F F1 F2 : Hp} (s : Same F F2) : Same F (subH F F1 F2) := fun b o e => by
  unfold subH
  rw [e]
  exact s b o e
section
variable {K : PySem.W.Frag} {F Fr H F1 F2 : Hp} {l : LH} {S : Addr → Bool}
theorem BorS.keep (B : BorS F l S H F1) (s : Same F1 F2) {p : Addr} {o : HO} (h : F2 p = some o) (hn : ∀ vs, o = .lst vs → nref vs = true → False) : subH F F1 F2 p = some o := by
  unfold subH
  cases e : F p with
  | some u => exact h
  | none =>
    cases e1 : F1 p with
    | none => exact h
    | some u =>
      have e2 := s _ _ e1
      rw [h] at e2
      cases e2
      rcases B.of p _ e1 with z | ⟨_, _, _, vs, z, n⟩
      · rw [e] at z; cases z
      · exact (hn vs z n).elim
theorem BorS.tupI (B : BorS F l S H F1) (s : Same F1 F2) {d : D} {v : V} (h : tupI d = true) (r : RelD K F2 d v) : RelD K (subH F F1 F2) d v := by
  cases r with
  | non => exact .non
  | bl b => exact .bl b
  | int b => exact .int b
  | str b => exact .str b
  | tup a b => exact .tup (B.keep s a fun vs e => nomatch e) (simp_rels h b)
  | _ => cases h
theorem BorS.tupIs (B : BorS F l S H F1) (s : Same F1 F2) : ∀ {ds : List D} {vs : List V}, ds.all DL.tupI = true → RelDs K F2 ds vs → RelDs K (subH F F1 F2) ds vs
  | [], _, _, .nil => .nil
  | d :: ds, _, h, .cons a b => by
    rw [List.all_cons, Bool.and_eq_true] at h
    exact .cons (B.tupI s h.1 a) (B.tupIs s h.2 b)
theorem BorS.tupV (B : BorS F l S H F1) (s : Same F1 F2) {d : D} {v : V} (h : tupV d = true) (r : RelD K F2 d v) : RelD K (subH F F1 F2) d v := by
  cases d with
  | ref a => cases r; exact .ref _
  | lst xs =>
    have h : (xs.all DL.tupI && xs.any fun d => !simpD d) = true := h
    rw [Bool.and_eq_true] at h
    cases r with
    | lst a b => exact .lst (B.keep s a fun vs e n => by cases e; exact nref_not h.1 h.2 b n) (B.tupIs s h.1 b)
  | _ => exact B.tupI s h r
theorem BorS.tupVs (B : BorS F l S H F1) (s : Same F1 F2) : ∀ {ds : List D} {vs : List V}, ds.all DL.tupV = true → RelDs K F2 ds vs → RelDs K (subH F F1 F2) ds vs
  | [], _, _, .nil => .nil
  | d :: ds, _, h, .cons a b => by
    rw [List.all_cons, Bool.and_eq_true] at h
    exact .cons (B.tupV s h.1 a) (B.tupVs s h.2 b)
theorem BorS.tupO (B : BorS F l S H F1) (s : Same F1 F2) {H' : Hp} {b : Addr} {o : DO} (h : tupO o = true) (x : DOk K F2 H' b o) : DOk K (subH F F1 F2) H' b o := by
  cases o with
  | lst ds => obtain ⟨vs, r, q⟩ := x; exact ⟨vs, B.tupVs s h r, q⟩
  | dT ks ds => obtain ⟨vs, r, n, q⟩ := x; exact ⟨vs, B.tupVs s h r, n, q⟩
  | dK ks ds => obtain ⟨vs, r, n, q⟩ := x; exact ⟨vs, B.tupVs s h r, n, q⟩
  | ins c ds => obtain ⟨C, dx, vs, r, z, n, q⟩ := x; exact ⟨C, dx, vs, B.tupVs s h r, z, n, q⟩
  | dN o ks ds => cases h
  | fz d => cases h
open Classical in
noncomputable def frS (S : Addr → Bool) (Fr H F1 : Hp) (l : LH) : Hp := fun b => if l b ≠ none ∧ S b = false ∧ F1 b = none then H b else Fr b
theorem BorS.rep (R : Rep K F Fr l H) (B : BorS F l S H F1) : Rep K F1 (frS S Fr H F1 l) (stL l S) H where
  fz := fun b o e => by
    rcases B.of b o e with q | ⟨_, _, q, _⟩
    · exact R.fz b o q
    · exact q
  fr := fun b o e => by
    unfold frS at e
    split at e
    · exact e
    · exact R.fr b o e
  fd := fun b o e => by
    unfold frS at e
    split at e
    · rename_i h; exact ⟨h.2.2, stL_out h.2.1⟩
    · obtain ⟨h1, h2⟩ := R.fd b o e
      refine ⟨?_, ?_⟩
      · cases q : F1 b with
        | none => rfl
        | some u =>
          rcases B.of b u q with z | ⟨z, _⟩
          · rw [h1] at z; cases z
          · exact absurd h2 z
      · unfold stL
        rw [h2]
        cases S b <;> rfl
  lv := fun b o e => by
    cases hS : S b with
    | false => rw [stL_out hS] at e; cases e
    | true =>
      rw [stL_in hS] at e
      obtain ⟨h1, h2⟩ := R.lv b o e
      refine ⟨fun f => ?_, h2.mono B.up rfl⟩
      cases q : F1 b with
      | none => rfl
      | some u =>
        rcases B.of b u q with z | ⟨_, z, _⟩
        · rw [h1 f] at z; cases z
        · rw [hS] at z; cases z
  ft := fun b vs e => by
    unfold frS at e
    split at e
    · rename_i h
      cases q : l b with
      | none => exact h.1 q
      | some x =>
        obtain ⟨h1, h2⟩ := R.lv b x q
        cases hx : isFz x with
        | false => exact dok_notup hx h2 e
        | true =>
          cases x with
          | fz d =>
            obtain ⟨_, u, z⟩ := h2
            rw [B.up _ _ z] at h
            exact nomatch h.2.2
          | _ => cases hx
    · exact R.ft b vs e
  tb := R.tb
  nt := fun b o e => by
    rcases B.of b o e with q | ⟨z, _, q, _⟩
    · exact R.nt b o q
    · cases q2 : l b with
      | none => exact absurd q2 z
      | some x =>
        cases hf : isFz x with
        | false => exact (R.lv b x q2).2.notbl hf q
        | true =>
          cases x with
          | fz d => obtain ⟨_, u, h⟩ := (R.lv b _ q2).2; have h2 := R.fz _ _ h; rw [q] at h2; cases h2; exact R.nt b _ h
          | _ => cases hf
  nr := fun b o e => by
    unfold frS at e
    split at e
    · rename_i h
      cases q2 : l b with
      | none => exact absurd q2 h.1
      | some x =>
        cases hf : isFz x with
        | false => exact (R.lv b x q2).2.notbl hf e
        | true =>
          cases x with
          | fz d => obtain ⟨_, u, z⟩ := (R.lv b _ q2).2; have h2 := R.fz _ _ z; rw [e] at h2; cases h2; exact R.nt b _ z
          | _ => cases hf
    · exact R.nr b o e
theorem BorS.back {H' : Hp} {l2 : LH} (R : Rep K F Fr l H) (B : BorS F l S H F1) (s : Same F1 F2) (R' : Rep K F2 (frS S Fr H F1 l) l2 H') (ok : BorOk l S) (same : ∀ a, S a = true → l2 a = l a) : Rep K (subH F F1 F2) Fr l H' where
  fz := fun b o e => R'.fz b o (subH_sub e)
  fr := fun b o e => by
    refine R'.fr b o ?_
    unfold frS
    rw [if_neg (fun z => z.1 (R.fd b o e).2)]
    exact e
  fd := fun b o e => by
    obtain ⟨h1, h2⟩ := R.fd b o e
    refine ⟨?_, h2⟩
    have h3 : frS S Fr H F1 l b = some o := by
      unfold frS
      rw [if_neg (fun z => z.1 h2)]
      exact e
    exact subH_none (R'.fd b o h3).1
  lv := fun b o e => by
    obtain ⟨h1, h2⟩ := R.lv b o e
    cases hS : S b with
    | true =>
      obtain ⟨o', e', ho⟩ := ok b hS
      rw [e] at e'
      cases e'
      obtain ⟨q1, q2⟩ := R'.lv b o ((same b hS).trans e)
      exact ⟨fun f => subH_none (q1 f), B.tupO s ho q2⟩
    | false =>
      have fs : Same F F2 := fun b o e => s b o (B.up b o e)
      obtain ⟨u, hu⟩ := h2.there R.fz
      have nl : l b ≠ none := by rw [e]; exact fun z => (nomatch z)
      have fb : F1 b = none → frS S Fr H F1 l b = some u := fun q => by
        unfold frS
        rw [if_pos ⟨nl, hS, q⟩]
        exact hu
      have hH : H' b = H b := by
        rw [hu]
        cases q : F1 b with
        | none => exact R'.fr b u (fb q)
        | some u' =>
          rcases B.of b u' q with z | ⟨_, _, z, _⟩
          · have z := R.fz b u' z
            rw [hu] at z; cases z
            exact R'.fz b u (s b u q)
          · rw [hu] at z; cases z
            exact R'.fz b u (s b u q)
      refine ⟨fun f => subH_bor (h1 f) ?_, h2.mono (subH_same fs) hH⟩
      cases q : F1 b with
      | some _ => exact .inl fun z => nomatch z
      | none => exact .inr (R'.fd b u (fb q)).1
  ft := R.ft
  tb := R'.tb
  nt := fun b o e => R'.nt b o (subH_sub e)
  nr := R.nr
end
section
variable {X : Cx} {e : Expr} {te : DTE} {tt : DTT}
end
end DL

/-! tuples that are known to have no dict of their own, and their count -/
namespace L2
open PySem PySem.Spec PyProof.Rows
section
variable {X : Cx}
def tyK (x : V) (H : Hp) : Prop := ∃ p od xs, x = .ref p ∧ H p = some (.frz od (.tup xs)) ∧ od.cls = .type "tuple" ∧ od.dict = none
variable {o e : Expr} {es : List Expr} {to : TE} {t : TA} {name : Str} {apos cpos : Pos} {id : String} {r : V → List V → Hp → VK → Prop}
end
end L2
namespace DL
open PySem PySem.Spec PyProof.Rows L2
section
variable {X : Cx}
variable {o e : Expr} {to te : DTE} {apos cpos pos p p2 q : Pos}
end
end DL

/-! isinstance(x, own classes) where x may be an exception or an own object that may be written -/
namespace DL
open PySem PySem.Spec PyProof.Rows L2
section
variable {X : Cx}
variable {e : Expr} {te : DTE} {tab : List (Nat × Bool)} {y : Str} {p p2 p3 pos : Pos} {es : List Expr} {us : List Value} {u : Value} {cn : Str} {b0 : Bool} {C0 : Addr}
end
end DL

/-! dict displays: plain keys; one key that is a tuple -/
namespace L2
open PySem PySem.Spec PyProof.Rows
section
variable {X : Cx} {pos : Pos}
def tDisp1T (tk tv : TE) : TE := fun σ H Q => ∀ p, H p = none → tk σ (upd H p (.dT [])) fun x H1 => tv σ H1 fun y H2 => ∃ (k : List Key) (b : Addr), x = .ref b ∧ H2 p = some (.dT []) ∧ H2 b = some (.tup (k.map kV)) ∧ Q (.ref p) (upd H2 p (.dT [(k, y)]))
theorem disp_pairsH {prog : Program} {w : World} {K : Type} [DecidableEq K] {knd : HeapKind prog w K} {A : Around} {E : Value → Shared → Prop} {s : Shared} {env : Env} {keys : List (Option Expr)} {values : List Expr} {pos : Pos} {pairs : List (Sem Value × Sem Value)} {Q : Value → Shared → Prop} (hu : knd.room A)
    (hshape : (evalEachOpt keys env).zip ((evalEach values env).map fun v => do let x ← v; standAt pos; pure x) = pairs.map fun p => (some p.1, p.2)) (h0 : pairs ≠ []) (hlen : pairs.length ≤ 15)
    (h : wpAny (model prog w) A (evalPairs pairs) (fun vs s₁ => ∃ ps, CarriesH knd s₁.heap vs ps ∧ s₁.heap.DictOfH knd s.heap.objs.size [] ∧
      ∀ h' tk, h'.DictOfH knd s.heap.objs.size (storedAllH [] ps) → Heap.SameBut s.heap.objs.size s₁.heap h' → Q (.ref s.heap.objs.size) { s₁ with heap := h', toks := tk }) E
      { s with heap := s.heap.push { cls := .type "dict", data := .dict #[] } }) :
    wpAny (model prog w) A (eval (.Dict keys values pos) env) Q E s := by
  rw [arm_eval_Dict, hshape, dictDisplay_pairs pairs h0 (by omega)]
  exact wpAny_bind (wpAny_standAt (wpAny_bind (wpAny_subDictH (knd := knd) (Q := fun d s' => wpAny (model prog w) A (pure (Value.ref d)) Q E s') hu hlen
    (wpAny_mono h (fun vs s₁ h₁ => by obtain ⟨ps, hc, hm, hq⟩ := h₁; exact ⟨ps, hc, hm, fun h' tk a b => wpAny_pure (hq h' tk a b)⟩) fun _ _ e => e))))
theorem pe_disp1T {kx vx : Expr} {tk tv : TE} (hu : X.A.units < cLine) (hk : PE X kx tk) (hv : PE X vx tv) : PE X (.Dict [some kx] [vx] pos) (tDisp1T tk tv) := by
  refine ⟨fun pins s σ H Q I q => ?_⟩
  have hn := I.hok.fresh (Nat.le_refl s.heap.objs.size)
  have I1 := I.laid (a := s.heap.objs.size) (o := .dT []) (h' := s.heap.push { cls := .type "dict", data := .dict #[] }) (t' := s.toks) (fun _ _ q => Heap.get?_push_of_some _ q) (Nat.le_refl _) (dt_empty s.heap I.big)
  have pl := pairTrees_length [some kx] [vx] X.env pos rfl rfl
  refine disp_pairsH (knd := tupleKind (mixKind X.prog X.w)) (pairs := pairTrees [some kx] [vx] X.env pos) hu (zip_pairTrees [some kx] [vx] X.env pos rfl rfl) (fun he => by
    rw [he] at pl
    cases pl) (by rw [pl]; show 1 ≤ 15; omega) ?_
  refine pairTrees_cons_walk (thn (hk.run pins _ σ _ _ I1 (q _ hn)) fun u s1 ⟨x, H1, I1', rx, q1⟩ => thn (hv.run pins s1 σ H1 _ I1' q1) fun w2 s2 ⟨y, H2, I2, ry, k, b, ex, hp, hb, q2⟩ => pairTrees_nil_walk ?_)
  subst ex
  cases (show u = Value.ref b from rx)
  obtain ⟨z, hd, xs, rel, dd⟩ := dt_of I2.hok hp
  cases rel
  refine ⟨[(k, b, w2)], ⟨rfl, rfl, key_of I2.hok hb, trivial⟩, dd, fun h' tk' dd' hs => ⟨.ref s.heap.objs.size, _, ?_, rfl, q2⟩⟩
  obtain ⟨qo, es, ep, hq, h2, h3, h4, his, h5⟩ := dd'
  refine d_write I2 (by rw [hp]; exact True.intro) hs ⟨qo, hq⟩ ⟨by show 1 ≤ sizeLine; decide, hd, [(k, b, w2)], .cons ⟨rfl, ?_, ry⟩ .nil, qo, es, ep, hq, h2, h3, h4, h5⟩
  rw [upd_ne (ne_of hb hp (fun z => nomatch z))]
  exact hb
end
end L2
namespace DL
open PySem PySem.Spec PyProof.Rows L2
abbrev DTP := DSt → LH → (List D → List D → LH → Prop) → Prop
section
variable {X : Cx} {pos : Pos} {keys : List (Option Expr)} {values : List Expr} {t : DTP} {kx vx : Expr} {tk tv : DTE}
/-- {k: v}, k a tuple of plain things -/
def dDispT (tk tv : DTE) : DTE := fun env l Q => tk env l fun k l1 => tv env l1 fun v l2 => ∃ q, keyT k = some q ∧ newL (.dT [q] [v]) l2 Q
theorem de_dispT {k : Nat} (hr : Room k X.A) (hk : DE X kx tk) (hv : DE X vx tv) : DE X (.Dict [some kx] [vx] pos) (dDispT tk tv) := by
  refine ⟨?_⟩
  intro F Fr env l σ H Q hE hR ht
  refine (pe_disp1T (by have := hr.un; omega) peW peW).we fun p np => ?_
  have nFr := hR.Fr_none np
  refine (hk F (upd Fr p (.dT [])) env l σ _ _ hE (hR.take np (.dT [])) ht).mono fun x H1 ⟨F1, d, l1, s1, r1, R1, q1⟩ => ?_
  refine (hv F1 _ env l1 σ H1 _ (hE.mono s1) R1 q1).mono fun y H2 ⟨F2, e, l2, s2, r2, R2, q, hq, q2⟩ => ?_
  obtain ⟨b, rfl, hb⟩ := keyT_rel r1 hq
  refine ⟨q, b, rfl, R2.fr _ _ upd_same, R2.fz _ _ (s2 _ _ hb), ?_⟩
  have R3 := (R2.turn (.dT ([q].zip [y]))).giveL nFr (d := .dT [q] [e]) ⟨[y], .cons r2 .nil, rfl, upd_same⟩
  exact ⟨F2, .ref p, _, s1.trans s2, .ref p, R3, q2 p (R2.fd _ _ upd_same).2⟩
end
end DL
/-! a dict's place as a target among others -/
namespace L2
open PySem PySem.Spec PyProof.Rows
end L2
namespace DL
open PySem PySem.Spec PyProof.Rows L2
end DL
/-! t[::-1] of a tuple -/
namespace HT
open PySem PySem.Spec PyProof.Rows
section
variable {prog : Program} {w : World} {A : Around} {E : Value → Shared → Prop} {s : Shared}
end
end HT
namespace L2
open PySem PySem.Spec PyProof.Rows
section
variable {X : Cx}
end
end L2
namespace DL
open PySem PySem.Spec PyProof.Rows L2
end DL
/-! try .. except X: .. else: .., the exception without a name -/
namespace DL
open PySem PySem.Spec PyProof.Rows L2
section
variable {X : Cx} {x : Str} {c : Value} {body suite orelse : List Stmt} {b₀ : Stmt} {np pos pos' : Pos}
end
end DL

/-! x = f if c else g; return x(..): a local name that holds one of two defs, called at once -/
namespace DL
open PySem PySem.Spec PyProof.Rows L2
section
variable {X : Cx} {k1 k2 i : Nat} {f1 f2 : Addr} {fd1 fd2 : FuncData} {ps1 ps2 : List Str} {sp1 sp2 : DSp} {x n1 n2 : Str} {e c : Expr} {es : List Expr} {t : DTA} {tt : DTT} {p px p1 p2 pi pos pos1 pos2 : Pos}
end
end DL

/-! sorted of a list or tuple of data that are alike -/
namespace SrtD
open PySem PySem.Calls PyProof.Rows Srt PySem.W
section
variable {prog : Program} {w : World} {A : Around} {E : Value → Shared → Prop} {s : Shared}
theorem collect_tup {l : Addr} {vs : List Value} {o : Obj} {n : Nat} {Q : List Value → Shared → Prop} (ho : s.heap.get? l = some o) (hc : o.cls = .type "tuple") (hd : o.data = .seq vs.toArray n)
    (h : Q vs { s with heap := (s.heap.push (seqObj "list" #[] 0)).update s.heap.objs.size (Obj.mapSeq (· ++ vs.toArray)) }) (hsz : vs.length ≤ sizeLine) :
    wpAny (model prog w) A (collect (.ref l)) Q E s := by
  unfold collect
  refine wpAny_bind (wpAny_runValue (codeAny_builtin entry_proto_collect' ?_))
  show wpAny _ _ (do again (.builtin "list.__iadd__" ⟨[← newList [], .ref l], []⟩)) _ _ s
  refine wpAny_bind (wpAny_newList (wpAny_pure ⟨Code.quiet_builtin _ (by decide +kernel), codeAny_builtin entry_list_iadd' ?_⟩))
  show wpAny _ _ (Builtin.List.listExtendWith (.ref s.heap.objs.size) (.ref l) (.ref s.heap.objs.size)) _ _ { s with heap := s.heap.push (seqObj "list" #[] 0) }
  unfold Builtin.List.listExtendWith
  have ho' : (s.heap.push (seqObj "list" #[] 0)).get? l = some o := Heap.get?_push_of_some _ ho
  refine wpAny_bind (wpAny_typeOf (T := "tuple") ⟨o, ho', hc⟩ ?_)
  have ht : (Value.type "tuple" == Value.type "tuple") = true := by rfl
  rw [if_pos (by rw [ht]; simp)]
  refine wpAny_bind (listItems_at ho' hd ?_)
  refine wpAny_bind (listItems_at (xs := #[]) (n := 0) (Heap.get?_push_size _ rfl) rfl ?_)
  rw [if_neg (by simp)]
  refine wpAny_bind (listUpdate_at (xs := #[]) (n := 0) (Heap.get?_push_size _ rfl) rfl ?_ (Nat.zero_le _) (by show (#[] ++ vs.toArray).size ≤ sizeLine + 1; simp only [Array.size_append, List.size_toArray, List.length_nil]; omega))
  refine wpAny_pure ?_
  show wpAny (model prog w) A (do
      let o ← load s.heap.objs.size
      match o.data with
      | .seq xs _ => pure xs.toList
      | _ => unsupported "internal:collect") Q E { s with heap := (s.heap.push (seqObj "list" #[] 0)).update s.heap.objs.size (Obj.mapSeq (· ++ vs.toArray)) }
  refine wpAny_bind (wpAny_load (get?_update_seq (Heap.get?_push_size _ rfl) _) ?_)
  show wpAny _ _ (pure ((#[] : Array Value) ++ vs.toArray).toList) Q E _
  rw [show ((#[] : Array Value) ++ vs.toArray).toList = vs by simp]
  exact wpAny_pure h
theorem sorted_of_tup {l : Addr} {vs : List Value} {o : Obj} {n : Nat} {Q : Value → Shared → Prop} (ho : s.heap.get? l = some o) (hc : o.cls = .type "tuple") (hd : o.data = .seq vs.toArray n) (hL : vs.length ≤ sizeLine)
    (body : ∀ E' : Value → Shared → Prop, wpAny (model prog w) A.in1.in1 (Builtin.«list.sort» ⟨[.ref (s.heap.objs.size + 1)], []⟩) (fun f s' => f = .done (.ret .none) ∧ Q (.ref (s.heap.objs.size + 1)) s') E' { s with heap := copyHeap s.heap vs }) :
    wpAny (model prog w) A (call (.builtin "sorted") [.ref l]) Q E s := by
  refine call_function_entry_kw kind_sorted plain_sorted entry_sorted (args_sorted1 _) ?_
  unfold Builtin.«sorted»
  refine wpAny_bind (m := checkCount "sorted" 1 1 _) (wpAny_pure ?_)
  refine wpAny_bind (collect_tup ho hc hd ?_ hL)
  refine wpAny_bind (wpAny_newList ?_ hL)
  have hsz : ((s.heap.push (seqObj "list" #[] 0)).update s.heap.objs.size (Obj.mapSeq (· ++ vs.toArray))).objs.size = s.heap.objs.size + 1 := by
    rw [Heap.size_update, size_push']
  show wpAny _ _ _ _ _ { s with heap := copyHeap s.heap vs }
  rw [hsz]
  refine wpAny_bind (wpAny_holding (wpAny_call_entry_kw slot_list_sort ⟨_, copyHeap_at s.heap vs, rfl⟩ entry_list_sort ?body (args_list_sort _)))
  case body =>
    show wpAny (model prog w) A.in1.in1 (Builtin.«list.sort» ⟨[.ref (s.heap.objs.size + 1)], []⟩) _ _ _
    refine wpAny_mono (body _) (fun f s' hf => ?_) fun _ _ e => e
    obtain ⟨rfl, hq⟩ := hf
    exact ⟨_, rfl, wpAny_pure ⟨_, rfl, hq⟩⟩
variable {β : Type} {vs : List Value} {bs : List β} {enc : β → PyData} {R : Value → β → Prop}
theorem sorted_data_tup {l : Addr} {o : Obj} {n : Nat} {Q : Value → Shared → Prop} (ho : s.heap.get? l = some o) (hc : o.cls = .type "tuple") (hd : o.data = .seq vs.toArray n) (e : EachIs R vs bs) (er : EachIs (fun v b => ∃ as, Reads s.heap v (enc b) as) vs bs) (hal : AllAlike (bs.map enc)) (hk : Sortable (bs.map enc)) (hL : bs.length ≤ sizeLine)
    (hu : ∀ b, b ∈ bs → A.units + 2 + (enc b).depth < cLine) (h : ∀ out, out.length = bs.length → EachIs R out (bs.mergeSort (dataLe false enc)) → Q (.ref (s.heap.objs.size + 1)) { s with heap := sortedAll s.heap vs (List.toArray out) }) :
    wpAny (model prog w) A (call (.builtin "sorted") [.ref l]) Q E s := by
  have er' : EachIs (fun v b => ∃ as, Reads (sortingHeap (copyHeap s.heap vs) (s.heap.objs.size + 1) vs) v (enc b) as) vs bs := er.mono fun _ _ ⟨as, r⟩ => ⟨as, PyProof.Rows.Reads.keeps (fun _ _ => sorting_copy_old) r⟩
  have hL' : vs.length ≤ sizeLine := by rw [e.length]; exact hL
  have S := SortsAt.data (prog := prog) (w := w) (A := A.in1.in1) (s := { s with heap := sortingHeap (copyHeap s.heap vs) (s.heap.objs.size + 1) vs }) (each_map (R := fun v d => ∃ as, Reads (sortingHeap (copyHeap s.heap vs) (s.heap.objs.size + 1) vs) v d as) enc er') hal hk (bound_map hu)
  exact sorted_of_tup ho hc hd hL' fun _ => list_sort_vals (s := { s with heap := copyHeap s.heap vs }) (copyHeap_at s.heap vs) S hL' ⟨rfl, h _ (by rw [sortVals_length false rfl]; exact e.length) (sortVals_data false e er' hal)⟩
end
end SrtD
namespace DL
open PySem PySem.Spec PyProof.Rows L2
def leD : D → D → Bool := PySem.W.dataLe false toPy
def sortOk (ds : List D) : Prop := PyData.canLayAll0 (toPys ds) = true ∧ PySem.W.AllAlike (toPys ds) ∧ PySem.W.Sortable (toPys ds) ∧ PyData.depthAll (toPys ds) ≤ 8
def rSortD (K : PySem.W.Frag) : List V → Hp → VK → Prop := fun vs H Q => ∃ (a : Addr) (xs : List V) (ds : List D) (F : Hp), vs = [V.ref a] ∧ (SqL K H a xs ∨ SqT K H a xs) ∧ Same F H ∧ RelDs K F ds xs ∧ sortOk ds ∧
  ∀ ys p, RelDs K F (ds.mergeSort leD) ys → H p = none → Q (.ref p) (upd H p (.lst ys))
section
variable {K : PySem.W.Frag} {F : Hp}
theorem each_rel : ∀ {ds : List D} {vs : List V} {us : List Value}, RelDs K F ds vs → Vals vs us → PySem.W.EachIs (fun u d => ∃ v, RelV v u ∧ RelD K F d v) us ds
  | [], _, _, .nil, .nil => .nil
  | _ :: _, _, _, .cons a b, .cons r t => .cons ⟨_, r, a⟩ (each_rel b t)
theorem each_back : ∀ {ds : List D} {us : List Value}, PySem.W.EachIs (fun u d => ∃ v, RelV v u ∧ RelD K F d v) us ds → ∃ vs, Vals vs us ∧ RelDs K F ds vs
  | _, _, .nil => ⟨[], .nil, .nil⟩
  | _, _, .cons ⟨v, r, a⟩ t => let ⟨vs, r2, a2⟩ := each_back t; ⟨v :: vs, .cons r r2, .cons a a2⟩
theorem depth_mem : ∀ {ds : List D} {d : D}, d ∈ ds → (toPy d).depth ≤ PyData.depthAll (toPys ds)
  | x :: xs, d, h => by
    rw [toPys, PyData.depthAll]
    rcases List.mem_cons.mp h with e | h
    · subst e; exact Nat.le_max_left _ _
    · exact Nat.le_trans (depth_mem h) (Nat.le_max_right _ _)
theorem cr_sortD {X : Cx} {k : Nat} (hr : Room k X.A) : CallR X (.builtin "sorted") (rSortD X.K) := by
  intro pins s σ H vs us Q I r ⟨a, xs, ds, F, e, hs, sF, rr, ok, q⟩
  subst e
  rw [Vals.ref1 r]
  obtain ⟨c1, c2, c3, c4⟩ := ok
  have dp := RelDs.dp sF rr c1
  have fin : ∀ (its : List Value) (out : List Value), Vals xs its → xs.length ≤ sizeLine → out.length = ds.length → PySem.W.EachIs (fun u d => ∃ v, RelV v u ∧ RelD X.K F d v) out (ds.mergeSort leD) →
      ∃ v H1, Inv X pins σ H1 { s with heap := PyProof.Rows.sortedAll s.heap its out.toArray } ∧ RelV v (.ref (s.heap.objs.size + 1)) ∧ Q v H1 := by
    intro its out rv hz ho he
    obtain ⟨ys, r1, r2⟩ := each_back he
    obtain ⟨ep, he'⟩ := PyProof.Rows.sortedAll_at s.heap its out.toArray
    have hlen : ys.length ≤ sizeLine := by rw [r1.length, ho, rr.length]; exact hz
    exact ⟨.ref _, upd H (s.heap.objs.size + 1) (.lst ys), I.laid (t' := s.toks) (fun _ _ => PyProof.Rows.sortedAll_old) (Nat.le_succ _) ⟨hlen, out, ep, r1, he'⟩, rfl, q _ _ r2 (I.hok.fresh (Nat.le_succ _))⟩
  have reads : ∀ (its : List Value), Vals xs its → PySem.W.EachIs (fun v b => ∃ as, PySem.Reads s.heap v (toPy b) as) its ds := by
    intro its rv
    obtain ⟨as, rd⟩ := Dp.readsAll I (toPys ds) xs its dp rv
    rw [toPys_map] at rd
    exact PySem.W.readsAll_each toPy rd
  have al : PySem.W.AllAlike (ds.map toPy) := by rw [← toPys_map]; exact c2
  have so : PySem.W.Sortable (ds.map toPy) := by rw [← toPys_map]; exact c3
  have hu : ∀ b, b ∈ ds → X.A.units + 2 + (toPy b).depth < cLine := fun b hb => by
    have := depth_mem hb
    have := hr.un
    omega
  rcases hs with hs | hs
  · obtain ⟨its, rv, hl, hz⟩ := I.list hs
    exact PySem.W.sorted_data hl.isList (each_rel rr rv) (reads its rv) al so (by rw [rr.length]; exact hz) hu fun out h1 h2 => fin its out rv hz h1 h2
  · obtain ⟨its, rv, hl, hz⟩ := I.tuple hs
    obtain ⟨o, ho, hc, n, hd⟩ := hl
    exact SrtD.sorted_data_tup ho hc hd (each_rel rr rv) (reads its rv) al so (by rw [rr.length]; exact hz) hu fun out h1 h2 => fin its out rv hz h1 h2
end
def kSortD : List D → LH → DK → Prop := fun ds l Q => match ds with
  | [.lst ds] => sortOk ds ∧ Q (.lst (ds.mergeSort leD)) l
  | [.tup ds] => sortOk ds ∧ Q (.lst (ds.mergeSort leD)) l
  | [.kt ds] => sortOk ds ∧ Q (.lst (ds.mergeSort leD)) l
  | [.ref a] => getO l a fun o => match o with | .lst ds => sortOk ds ∧ Q (.lst (ds.mergeSort leD)) l | _ => False
  | _ => False
theorem kSortD_ok {X : Cx} : KCall X (rSortD X.K) kSortD := by
  intro F Fr l H Q ds vs Q' R rd hq q
  cases rd with
  | nil => exact q.elim
  | @cons d v ds' vs' r1 rr =>
    cases rr with
    | cons _ _ => cases d <;> exact q.elim
    | nil =>
      cases r1 with
      | @lst p vs ds h1 rr => exact ⟨p, vs, ds, F, rfl, .inl (.inl (.inl (R.fz _ _ h1))), R.fz, rr, q.1, fun ys p2 r np => hq _ _ (LK.lst np R r q.2)⟩
      | @tup p vs ds h1 rr => exact ⟨p, vs, ds, F, rfl, .inr (.inl (.inl (R.fz _ _ h1))), R.fz, rr, q.1, fun ys p2 r np => hq _ _ (LK.lst np R r q.2)⟩
      | @kt p od vs ds h1 _ _ rr => exact ⟨p, vs, ds, F, rfl, .inr (.inl (.inr ⟨_, R.fz _ _ h1⟩)), R.fz, rr, q.1, fun ys p2 r np => hq _ _ (LK.lst np R r q.2)⟩
      | ref a =>
        obtain ⟨o, ho, q⟩ := q
        cases o with
        | lst ds =>
          obtain ⟨vs, rr, h1⟩ := (R.lv _ _ ho).2
          exact ⟨a, vs, ds, F, rfl, .inl (.inl (.inl h1)), R.fz, rr, q.1, fun ys p2 r np => hq _ _ (LK.lst np R r q.2)⟩
        | _ => exact q.elim
      | _ => exact q.elim
end DL

/-! dicts whose keys are tuples of any depth: {}, d[k], d[k] = v (a new key), for k in d, for k, v in d.items() -/
namespace DL
open PySem PySem.Spec PyProof.Rows L2
section
variable {X : Cx} {pins : List (Addr × Obj)} {σ : St} {H F : Hp} {s : Shared}
theorem zip3_get {α β γ : Type} {as : List α} {bs : List β} {cs : List γ} {i : Nat} {a : α} {b : β} {c : γ} (h1 : as[i]? = some a) (h2 : bs[i]? = some b) (h3 : cs[i]? = some c) : (as.zip (bs.zip cs))[i]? = some (a, b, c) := by
  rw [List.getElem?_zip_eq_some]
  exact ⟨h1, by rw [List.getElem?_zip_eq_some]; exact ⟨h2, h3⟩⟩
end
/-! ### d[k] -/
section
variable {X : Cx} {a b e o : Expr} {ta tb te to : DTE} {pos p apos cpos : Pos} {k : Nat}
/-! ### {} -/
/-! ### d[k] = v, a new key -/
end
/-! ### for k in d; for k, v in d.items() -/
structure NdEn (o : Obj) (as : List Addr) (vs : List V) (es : Array DictEntry) (ep : Nat) : Prop where
  dict : o.ExactDict
  data : o.data = .dict es ep
  size : es.size = as.length
  lens : vs.length = as.length
  ent : ∀ (i : Nat) (q : Addr), as[i]? = some q → ∃ en : DictEntry, es[i]? = some en ∧ en.key = .ref q
  val : ∀ (i : Nat) (v : V), vs[i]? = some v → ∃ en : DictEntry, es[i]? = some en ∧ RelV v en.val
theorem NdF.en {o : Obj} {a : Addr} {ks : List D} {as : List Addr} {vs : List V} (f : NdF o a ks as vs) (P : Program) (w : World) : ∃ es ep, NdEn o as vs es ep := by
  obtain ⟨es, ep, us, hd, rv, he⟩ := f.es
  have l1 := f.len1; have l2 := f.len2
  have l3 : us.length = ks.length := by have := Paired.length rv; omega
  have he' := he P w
  have q := congrArg List.length he'
  rw [Array.length_toList, List.length_map, List.length_zip, List.length_zip, List.length_map] at q
  have at' : ∀ (i : Nat) (hi : i < ks.length) (q : Addr) (u : Value), as[i]? = some q → us[i]? = some u → es[i]? = some (entryOfKey (nestedKind P w) (nkD ks[i], q, u)) := fun i hi q u h1 h2 => by
    rw [entry_at he' i, zip3_get (a := nkD ks[i]) (by rw [List.getElem?_map, List.getElem?_eq_getElem hi]; rfl) h1 h2]
    rfl
  refine ⟨es, ep, f.dict, hd, by omega, by omega, fun i q hq => ?_, fun i v hv => ?_⟩
  · have hi : i < ks.length := by
      have := (List.getElem?_eq_some_iff.mp hq).1
      omega
    exact ⟨_, at' i hi q (us[i]'(by omega)) hq (List.getElem?_eq_getElem _), rfl⟩
  · have hi : i < ks.length := by
      have := (List.getElem?_eq_some_iff.mp hv).1
      omega
    obtain ⟨u, hu, ru⟩ := L2.paired_get rv hv
    exact ⟨_, at' i hi (as[i]'(by omega)) u (List.getElem?_eq_getElem _) hu, ru⟩
section
variable {X : Cx} {e : Expr} {te : DTE} {apos cpos tpos pos p : Pos} {elts : List Expr} {kk : Nat}
end
end DL

/-! dict(pairs) with keys of any depth, d.get(k, x) of such, sorted(d.items()) of numbers by numbers -/
namespace DL
open PySem PySem.Spec PyProof.Rows L2
section
variable {X : Cx} {pins : List (Addr × Obj)} {σ : St} {H F : Hp} {s : Shared}
end
section
variable {X : Cx} {a b e o : Expr} {ta tb te to tx : DTE} {pos p apos cpos : Pos} {k : Nat}
end
/-! ### sorted(d.items()) -/
section
variable {X : Cx} {pins : List (Addr × Obj)} {σ : St} {H0 : Hp} {s : Shared} {l : LH} {Fr : Hp}
end
section
variable {X : Cx} {e : Expr} {te : DTE} {pos p apos cpos : Pos} {k : Nat}
end
end DL

namespace DL
open PySem PySem.Spec PyProof.Rows L2
/-! sorted(d.items(), key=lambda pair: (len(pair[0]), pair[0])): the lambda's call -/
section
variable {prog : Program} {w : World} {A : Around} {E : Value → Shared → Prop} {s : Shared}
/-- pair[0] -/
theorem first_raw {env : Env} {a : Str} {j : Nat} {p1 p2 p3 : Pos} {m : Str → Option Value} {b : Addr} {u0 u1 : Value} {Q : Value → Shared → Prop} (hk : env.scope.kind = .function) (hl : env.kindOf a = some .local) (hn : s.heap.Ns env.locals m) (hm : m a = some (.ref b))
    (hb : IsTup s.heap b #[u0, u1]) (hd : (a == ("__debug__" : Str)) = false) (q : ∀ k, Q u0 { s with toks := k }) :
    wpAny (model prog w) A (eval (.Subscript (.Name a p1) (.Constant (.int 0) j p2) p3) env) Q E s := by
  refine Subscript_ (wpAny_Name (wpAny_loadName_local hk hl hn hm ?_) hd)
  refine wpAny_Constant_int ?_
  have hb' : IsTup ({ s with toks := s.toks + 1 } : Shared).heap b #[u0, u1] := hb
  exact subscriptTail_builtinR (x := u0) hb'.typeIs slot_tuple_getitem.lookup (getItem_tuple (j := 0) (Q := fun r s' => r = u0 ∧ Q r s') hb' (by decide) (by decide) rfl rfl ⟨rfl, q _⟩) (by rfl)
/-- len(pair[0]) -/
theorem lenFirst_raw {env : Env} {a : Str} {j : Nat} {p0 p1 p2 p3 p4 : Pos} {m mg mb : Str → Option Value} {b kt : Addr} {u1 : Value} {its : Array Value} {Q : Value → Shared → Prop} (hk : env.scope.kind = .function) (hl : env.kindOf a = some .local) (hn : s.heap.Ns env.locals m) (hm : m a = some (.ref b))
    (hb : IsTup s.heap b #[.ref kt, u1]) (hkt : IsTup s.heap kt its) (hz : (its.size : Int) < 2 ^ 63) (hd : (a == ("__debug__" : Str)) = false)
    (hg : env.kindOf "len" = some .globalImplicit) (hG : s.heap.Ns env.globals mg) (hmiss : mg "len" = none) (hB : s.heap.Ns env.builtins mb) (hv : mb "len" = some (.builtin "len")) (q : ∀ k t, Q (.int its.size t) { s with toks := k }) :
    wpAny (model prog w) A (eval (.Call (.Name "len" p0) [.Subscript (.Name a p1) (.Constant (.int 0) j p2) p3] [] p4) env) Q E s := by
  refine Call_ (Calls.Name_function_global hk hg (Calls.loadGlobal_builtin hG hmiss hB hv ?_))
  refine PyProof.Rows.callWith_builtin1 (PyProof.Rows.args_cons ?_ rfl) rfl rfl
  refine first_raw hk hl hn hm hb hd fun k => PyProof.Rows.args_nil ?_
  have h2 : IsTup ({ s with toks := k } : Shared).heap kt its := hkt
  exact len_tuple h2 hz (q _ _)
theorem key_raw {env : Env} {a : Str} {j j2 : Nat} {x1} {p0 p1 p2 p3 p4 p5 p6 p7 p8 : Pos} {m mg mb : Str → Option Value} {b kt : Addr} {u1 : Value} {its : Array Value} {Q : Value → Shared → Prop} (hk : env.scope.kind = .function) (hl : env.kindOf a = some .local) (hn : s.heap.Ns env.locals m) (hm : m a = some (.ref b))
    (hb : IsTup s.heap b #[.ref kt, u1]) (hkt : IsTup s.heap kt its) (hz : (its.size : Int) < 2 ^ 63) (hd : (a == ("__debug__" : Str)) = false)
    (hg : env.kindOf "len" = some .globalImplicit) (hG : s.heap.Ns env.globals mg) (hmiss : mg "len" = none) (hB : s.heap.Ns env.builtins mb) (hv : mb "len" = some (.builtin "len"))
    (q : ∀ k t, Q (.ref s.heap.objs.size) { s with heap := s.heap.push { cls := .type "tuple", data := .seq #[.int its.size t, .ref kt] }, toks := k }) :
    wpAny (model prog w) A (eval (.Tuple [.Call (.Name "len" p0) [.Subscript (.Name a p1) (.Constant (.int 0) j p2) p3] [] p4, .Subscript (.Name a p5) (.Constant (.int 0) j2 p6) p7] x1 p8) env) Q E s := by
  refine wpAny_Tuple_spliced (Calls.spliced_cons (lenFirst_raw hk hl hn hm hb hkt hz hd hg hG hmiss hB hv fun k t => ?_))
  refine Calls.spliced_cons ?_
  have hb' : IsTup ({ s with toks := k } : Shared).heap b #[.ref kt, u1] := hb
  have hn' : ({ s with toks := k } : Shared).heap.Ns env.locals m := hn
  refine first_raw hk hl hn' hm hb' hd fun k2 => Calls.spliced_nil ⟨Nat.le_of_ble_eq_true rfl, q _ _⟩
theorem readsInts {h : Heap} : ∀ {ws : List Int} {vs : List Value}, Vals (ws.map V.int) vs → ReadsAll h vs (ws.map PyData.int) []
  | [], [], _ => .nil
  | n :: ws, v :: vs, r => by
    cases r with
    | cons r1 r2 =>
      obtain ⟨t, rfl⟩ := r1
      exact .cons (as := []) (bs := []) (.int _ _) (readsInts r2)
def encW (k : List Int) : PyData := .tuple [.int (k.length : Nat), .tuple (k.map PyData.int)]
/-- the lambda's call: it keeps all that was there and gives the key -/
theorem lam_key {f c' b kt : Addr} {qual a : Str} {pm ctv u1 : Value} {params : Arguments} {scope : Scope} {cl : List (Str × Addr)} {j j2 : Nat} {x1} {p0 p1 p2 p3 p4 p5 p6 p7 p8 : Pos} {mg mb : Str → Option Value} {its : List Value} {ws : List Int} (hroom : A.depth < recursionLimit)
    (ho : s.heap.get? f = some (PySem.W.kla_obj "<lambda>" qual params (.Tuple [.Call (.Name "len" p0) [.Subscript (.Name a p1) (.Constant (.int 0) j p2) p3] [] p4, .Subscript (.Name a p5) (.Constant (.int 0) j2 p6) p7] x1 p8) scope cl pm c' ctv))
    (hcd : s.heap.CodeRec (.ref c') qual) (nl : s.heap.NoLimit)
    (hbind : ∀ v : Value, bindArgs (PySem.W.kla_fn "<lambda>" qual params (.Tuple [.Call (.Name "len" p0) [.Subscript (.Name a p1) (.Constant (.int 0) j p2) p3] [] p4, .Subscript (.Name a p5) (.Constant (.int 0) j2 p6) p7] x1 p8) scope cl pm (.ref c') ctv) ⟨[v], []⟩ = pure [(a, v)])
    (hk : scope.kind = .function) (hco : scope.isCoroutine = false) (hgen : scope.isGenerator = false) (hcell : ∀ x ∈ scope.names, x.2 ≠ .cell) (hl : scope.names.lookup a = some .local) (hg : scope.names.lookup ("len" : Str) = some .globalImplicit) (hd : (a == ("__debug__" : Str)) = false)
    (hG : s.heap.Ns mainGlobals mg) (hmiss : mg "len" = none) (hB : s.heap.Ns builtinsNs mb) (hv : mb "len" = some (.builtin "len"))
    (hb : IsTup s.heap b #[.ref kt, u1]) (hkt : IsTup s.heap kt its.toArray) (hi : Vals (ws.map V.int) its) (hz : ws.length ≤ sizeLine) :
    wpAny (model prog w) A (call (.ref f) [.ref b]) (PySem.W.KeyPure (encW ws) s) E s := by
  have hlen : its.length = ws.length := by have := hi.length; rw [List.length_map] at this; exact this.symm
  refine wpAny_call (codeAny_mono (R := fun r s' => match r with | .ok (.ret u) => PySem.W.KeyPure (encW ws) s u s' | _ => False) ?_ fun r s' hq => ?_)
  · refine PySem.W.kla_callFunE hroom ho rfl hco hgen rfl hcd ?_
    rw [hbind]
    refine wpAny_pure (wpAny_newFunctionEnv hcell (fun y hy => by rw [List.mem_singleton.mp hy]; exact hl) (fun h₁ hns hsb => ?_) hk)
    have kp : ∀ b o, s.heap.get? b = some o → h₁.get? b = some o := fun b o e => hsb.extBut b o (Nat.ne_of_lt (Heap.lt_size e)) (Heap.get?_push_of_some _ e)
    refine ⟨nl.fresh _ hsb, ?_⟩
    refine PySem.W.kla_codeExpr ?_
    have hb1 : IsTup ({ s with heap := h₁, toks := s.toks + 1 } : Shared).heap b #[.ref kt, u1] := hb.keeps kp
    have hk1 : IsTup ({ s with heap := h₁, toks := s.toks + 1 } : Shared).heap kt its.toArray := hkt.keeps kp
    refine key_raw (mg := mg) (mb := mb) (its := its.toArray) hk hl hns (by show List.lookup a [(a, Value.ref b)] = _; simp) hb1 hk1 ?_ hd hg (hG.keeps kp) hmiss (hB.keeps kp) hv fun k t => ?_
    · rw [List.size_toArray, hlen]
      have : sizeLine = 16777216 := sizeLine_eq
      omega
    · refine ⟨_, _, rfl, fun b o e => Heap.get?_push_of_some _ (kp b o e), ?_⟩
      refine .tuple (as := []) (Heap.get?_push_size _ rfl) rfl rfl ?_
      obtain ⟨o, e1, e2, n, e3⟩ := hkt
      refine .cons (as := []) (bs := []) ?_ (.cons (as := []) (bs := []) (.tuple (Heap.get?_push_of_some _ (kp _ _ e1)) e2 e3 (readsInts hi)) .nil)
      rw [List.size_toArray, hlen]
      exact .int _ _
  · cases r with
    | error e => exact hq.elim
    | ok fl =>
      cases fl with
      | ret u => exact hq
      | next => exact hq.elim
      | brk => exact hq.elim
      | cont => exact hq.elim
/-- sorted over the items of a dict, by a key -/
theorem sortItemsKw {r d : Addr} {es : Array DictEntry} {ep : Nat} {kw : List (Str × Value)} {Q : Value → Shared → Prop} (calm : A.handled = none) (view : s.heap.IsItemsView r d) (raw : DT.Raw s.heap d es ep) (hn : es.size ≤ sizeLine) (ok1 : argsOk "sorted" ⟨[.ref r], kw⟩)
    (go : ∀ (h' : Heap) (tk : Nat) (as : List Addr), (∀ b o, s.heap.get? b = some o → h'.get? b = some o) → s.heap.objs.size < h'.objs.size → as.length = es.size → DT.Made es s.heap.objs.size h' as →
      wpAny (model prog w) A.in1 (call (.builtin "list.sort") [.ref h'.objs.size] kw) (fun _ s' => Q (.ref h'.objs.size) s') E { s with heap := h'.push { cls := .type "list", data := .seq (as.map Value.ref).toArray }, toks := tk }) :
    wpAny (model prog w) A (call (.builtin "sorted") [.ref r] kw) Q E s := by
  refine PyProof.Rows.call_function_entry_kw kind_sorted plain_sorted entry_sorted ok1 ?_
  unfold Builtin.«sorted»
  refine wpAny_bind (m := checkCount "sorted" 1 1 _) (wpAny_pure (wpAny_bind (DT.collectI (es := es) (ep := ep) calm view raw hn fun h' tk as hk hlt hl hG => ?_)))
  exact wpAny_bind (wpAny_newList (wpAny_bind (wpAny_holding (wpAny_mono (go h' tk as hk hlt hl hG) (fun _ s' x => wpAny_pure ⟨_, rfl, x⟩) fun _ _ e => e))) (by rw [List.length_map, hl]; exact hn))
end
section
variable {X : Cx} {pins : List (Addr × Obj)} {σ : St} {H0 : Hp} {s : Shared} {l : LH} {Fr : Hp}
/-- pairs of a key, a tuple, and a value: b the pair, q its key -/
structure Pr where
  b : Addr
  q : Addr
  w : List Int
  v : V
theorem takeP {h' : Heap} {tk : Nat} (I0 : Inv X pins σ H0 s) : ∀ (zs : List Pr) {H1 F1 : Hp}, Inv X pins σ H1 { s with heap := h', toks := tk } → Rep X.K F1 Fr l H1 → (zs.map (·.b)).Nodup →
    (∀ z ∈ zs, s.heap.objs.size ≤ z.b ∧ H1 z.b = none ∧ H1 z.q = some (.tup (z.w.map V.int)) ∧ ∃ u, RelV z.v u ∧ h'.get? z.b = some { cls := .type "tuple", data := .seq #[.ref z.q, u] }) →
    ∃ H2 F2, Inv X pins σ H2 { s with heap := h', toks := tk } ∧ Same F1 F2 ∧ Rep X.K F2 Fr l H2 ∧ (∀ z ∈ zs, F2 z.b = some (.tup [.ref z.q, z.v]) ∧ F2 z.q = some (.tup (z.w.map V.int))) ∧ ∀ b, b ∉ zs.map (·.b) → H2 b = H1 b
  | [], H1, F1, I1, R1, _, _ => ⟨H1, F1, I1, Same.refl F1, R1, (fun z h => by cases h), fun _ _ => rfl⟩
  | z :: zs, H1, F1, I1, R1, hn, h => by
    obtain ⟨hb, hnone, hq, u, ru, hg⟩ := h z List.mem_cons_self
    rw [List.map_cons, List.nodup_cons] at hn
    obtain ⟨F0, s0, q0, R0⟩ := R1.tupIn hq
    have I2 : Inv X pins σ (upd H1 z.b (.tup [.ref z.q, z.v])) { s with heap := h', toks := tk } := I1.take (h' := h') (t' := tk) (fun b ob _ e => e) (I0.fpOk hb hnone)
      ⟨by show 2 ≤ sizeLine; decide, [Value.ref z.q, u], .cons rfl (.cons ru .nil), ⟨_, hg, rfl, _, rfl⟩⟩
    have R2 := R0.laid hnone (.tup [.ref z.q, z.v])
    have zq : z.q ≠ z.b := fun e => by rw [e, hnone] at hq; cases hq
    obtain ⟨H2, F2, I3, S3, R3, q3, k3⟩ := takeP I0 zs I2 R2 hn.2 fun c hc => by
      obtain ⟨c1, c2, c3, c4⟩ := h c (List.mem_cons_of_mem _ hc)
      have cq : c.q ≠ z.b := fun e => by rw [e, hnone] at c3; cases c3
      exact ⟨c1, by rw [upd_ne (fun e => hn.1 (by rw [← e]; exact List.mem_map.mpr ⟨c, hc, rfl⟩))]; exact c2, by rw [upd_ne cq]; exact c3, c4⟩
    refine ⟨H2, F2, I3, (s0.trans (same_upd (R0.F_none hnone))).trans S3, R3, fun c hc => ?_, fun b hb => ?_⟩
    · rcases List.mem_cons.mp hc with rfl | hc
      · exact ⟨S3 _ _ upd_same, S3 _ _ (by rw [upd_ne zq]; exact q0)⟩
      · exact q3 c hc
    · rw [List.map_cons, List.mem_cons, not_or] at hb
      rw [k3 b hb.2, upd_ne hb.1]
theorem Rep.lam {K : PySem.W.Frag} {F H H' : Hp} (r : Rep K F Fr l H) (x : LamX.ExtN H H') (t : LamX.Tabs (tabOf K) H') : Rep K F Fr l H' where
  fz := fun b o e => x b o (r.fz b o e) fun ps z => by have := r.nt b o e; rw [z] at this; cases this
  fr := fun b o e => x b o (r.fr b o e) fun ps z => by have := r.nr b o e; rw [z] at this; cases this
  fd := r.fd
  lv := fun b o e => by
    obtain ⟨h1, h2⟩ := r.lv b o e
    obtain ⟨u, hu⟩ := h2.there r.fz
    refine ⟨h1, h2.mono (Same.refl F) ?_⟩
    rw [hu]
    refine x b u hu fun ps z => ?_
    cases hf : isFz o with
    | false => have := h2.notbl hf hu; rw [z] at this; cases this
    | true =>
      cases o with
      | fz d => obtain ⟨_, u', hF⟩ := h2; have h3 := r.fz _ _ hF; rw [hu] at h3; cases h3; have := r.nt _ _ hF; rw [z] at this; cases this
      | _ => cases hf
  ft := r.ft
  tb := t
  nt := r.nt
  nr := r.nr
end
def tK (w : List Int) : List Key := w.map Sum.inl
def pairW (p : List Int × D) : D := .tup [.tup (p.1.map D.int), p.2]
def sortW (ws : List (List Int)) (ds : List D) : List (List Int × D) := (ws.zip ds).mergeSort (PySem.W.dataLe false fun p : List Int × D => encW p.1)
theorem each_getW {R : Value → List Int × D → Prop} : ∀ {as : List Addr} {ps : List (List Int × D)}, as.length = ps.length → (∀ (j : Nat) a p, as[j]? = some a → ps[j]? = some p → R (.ref a) p) → PySem.W.EachIs R (as.map Value.ref) ps
  | [], [], _, _ => .nil
  | [], _ :: _, h, _ => by cases h
  | _ :: _, [], h, _ => by cases h
  | a :: as, p :: ps, h, f => .cons (f 0 a p rfl rfl) (each_getW (by simpa using h) fun j b q h1 h2 => f (j + 1) b q (by simpa using h1) (by simpa using h2))
theorem rel_outW {K : PySem.W.Frag} {F : Hp} {R : Value → List Int × D → Prop} (hR : ∀ v p, R v p → ∃ b, v = .ref b ∧ RelD K F (pairW p) (.ref b)) : ∀ {out : List Value} {ps : List (List Int × D)}, PySem.W.EachIs R out ps → ∃ vs, Vals vs out ∧ RelDs K F (ps.map pairW) vs
  | _, _, .nil => ⟨[], .nil, .nil⟩
  | _, _, .cons r t => by
    obtain ⟨vs, h1, h2⟩ := rel_outW hR t
    obtain ⟨b, rfl, hb⟩ := hR _ _ r
    exact ⟨.ref b :: vs, .cons rfl h1, .cons hb h2⟩
theorem relInts {K : PySem.W.Frag} {F : Hp} : ∀ w : List Int, RelDs K F (w.map D.int) (w.map V.int)
  | [] => .nil
  | n :: w => .cons (.int n) (relInts w)
theorem alike_intsW : ∀ v w : List Int, PySem.W.alikeAll (v.map PyData.int) (w.map PyData.int) = true
  | [], _ => by simp [PySem.W.alikeAll]
  | _ :: _, [] => by simp [PySem.W.alikeAll]
  | a :: v, b :: w => by
    have := alike_intsW v w
    simp only [List.map_cons, PySem.W.alikeAll, PySem.W.alike, Bool.true_and]
    exact this
theorem depthAll_ints : ∀ w : List Int, PyData.depthAll (w.map PyData.int) ≤ 1
  | [] => by simp [PyData.depthAll]
  | a :: w => by
    have := depthAll_ints w
    simp only [List.map_cons, PyData.depthAll, PyData.depth]
    omega
theorem depth_encW (w : List Int) : (encW w).depth ≤ 3 := by
  have := depthAll_ints w
  simp only [encW, PyData.depth, PyData.depthAll]
  omega
theorem prs_of {K : PySem.W.Frag} {F H : Hp} {h' : Heap} : ∀ {as : List Addr} {ws : List (List Int)} {ds : List D}, as.length = ws.length → ds.length = ws.length →
    (∀ (j : Nat) b w d, as[j]? = some b → ws[j]? = some w → ds[j]? = some d → ∃ q v u, H q = some (.tup (w.map V.int)) ∧ RelD K F d v ∧ RelV v u ∧ h'.get? b = some { cls := .type "tuple", data := .seq #[.ref q, u] }) →
    ∃ zs : List Pr, zs.map (·.b) = as ∧ zs.map (·.w) = ws ∧ RelDs K F ds (zs.map (·.v)) ∧ ∀ z ∈ zs, H z.q = some (.tup (z.w.map V.int)) ∧ ∃ u, RelV z.v u ∧ h'.get? z.b = some { cls := .type "tuple", data := .seq #[.ref z.q, u] }
  | [], [], [], _, _, _ => ⟨[], rfl, rfl, .nil, fun z h => by cases h⟩
  | b :: as, w :: ws, d :: ds, h1, h2, h => by
    obtain ⟨q, v, u, g1, g2, g3, g4⟩ := h 0 b w d rfl rfl rfl
    obtain ⟨zs, e1, e2, e3, e4⟩ := prs_of (as := as) (ws := ws) (ds := ds) (by simpa using h1) (by simpa using h2) fun j b w d k1 k2 k3 => h (j + 1) b w d (by simpa using k1) (by simpa using k2) (by simpa using k3)
    refine ⟨⟨b, q, w, v⟩ :: zs, by rw [List.map_cons, e1], by rw [List.map_cons, e2], .cons g2 e3, fun z hz => ?_⟩
    rcases List.mem_cons.mp hz with rfl | hz
    · exact ⟨g1, u, g3, g4⟩
    · exact e4 z hz
  | [], _ :: _, _, h, _, _ => by cases h
  | _ :: _, [], _, h, _, _ => by cases h
  | _ :: _, _ :: _, [], _, h, _ => by cases h
  | [], [], _ :: _, _, h, _ => by cases h
def dSortLam (te : DTE) : DTE := fun env l Q => te env l fun d l1 => match d with
  | .dT ks ds => ∃ ws : List (List Int), ks = ws.map tK ∧ (∀ w ∈ ws, w.length ≤ 1000) ∧ Q (.lst ((sortW ws ds).map pairW)) l1
  | _ => False
structure LamSc (a : Str) (scope : Scope) : Prop where
  kind : scope.kind = .function
  co : scope.isCoroutine = false
  gen : scope.isGenerator = false
  nm : ∀ x ∈ scope.names, x.2 ≠ .cell ∧ x.2 ≠ .free
  own : scope.names.lookup a = some .local
  len : scope.names.lookup ("len" : Str) = some .globalImplicit
section
variable {X : Cx} {e : Expr} {te : DTE} {pos p apos cpos kpos lpos : Pos} {k : Nat}
theorem de_sortLam {c P : Addr} {a : Str} {params : Arguments} {scope : Scope} {j j2 : Nat} {x1} {p0 p1 p2 p3 p4 p5 p6 p7 p8 : Pos} (hr : Room k X.A) (hc : X.calm = true) (hg : Gl X "sorted") (hm : X.mg "sorted" = none) (hlen : X.mg "len" = none) (h : DE X e te)
    (TB : LamX.TabB X.base X.mg c P) (hcode : X.env.code = .ref c) (htab : tabOf X.K = [(P, X.env.qual ++ "<lambda>")]) (hdef : defaultsOf params X.env = ([], [])) (S : LamSc a scope) (hd : (a == ("__debug__" : Str)) = false)
    (hbind : ∀ (q : Str) (cl : List (Str × Addr)) (pm cv ctv v : Value), bindArgs (PySem.W.kla_fn "<lambda>" q params (.Tuple [.Call (.Name "len" p0) [.Subscript (.Name a p1) (.Constant (.int 0) j p2) p3] [] p4, .Subscript (.Name a p5) (.Constant (.int 0) j2 p6) p7] x1 p8) scope cl pm cv ctv) ⟨[v], []⟩ = pure [(a, v)])
    (hbase : attributeBase e "items" X.env (eval e X.env) = eval e X.env := by rfl) (hline : (apos.endLine == cpos.line) = true := by rfl)
    (na : starEach [.Call (.Attribute e "items" apos) [] [] cpos] X.env = (false, eval (.Call (.Attribute e "items" apos) [] [] cpos) X.env) :: starEach [] X.env := by rfl) :
    DE X (.Call (.Name "sorted" p) [.Call (.Attribute e "items" apos) [] [] cpos] [⟨some "key", .Lambda params (.Tuple [.Call (.Name "len" p0) [.Subscript (.Name a p1) (.Constant (.int 0) j p2) p3] [] p4, .Subscript (.Name a p5) (.Constant (.int 0) j2 p6) p7] x1 p8) scope lpos, kpos⟩] pos) (dSortLam te) := by
  refine ⟨?_⟩
  intro F Fr env l σ H Q hE hR ht pins s I
  refine wpAny_Call_Name_kw (ld_blt I hg hm (show bootBuiltins "sorted" = some (.builtin "sorted") by decide +kernel) ?_)
  refine PyProof.Rows.callWith_kw (PyProof.Rows.args_cons ?_ na) (by rfl) (by rfl) (by rfl) (by rfl)
  refine wpAny_Call_method (T := "dict") (id := "dict.items") hbase rfl hline PySem.F.plainAttrs_dict PySem.F.slot_dict_items PySem.F.type_dict_items (thn (h F Fr env l σ H _ hE hR ht pins s I) fun u s1 ⟨x, H1, I1, rx, F1, d, l1, s1', rd, R1, q1⟩ => ?_)
  cases rd with
  | @dT pa od vs ks ds hF hl rr =>
    obtain ⟨ws, rfl, hw, q1⟩ := q1
    obtain rfl : u = Value.ref pa := rx
    obtain ⟨hsys, hgd, hx, es, ep, hdt, hsz, -⟩ := frzT2 I1 (R1.fz _ _ hF)
    refine ⟨⟨od, hgd, hx.1⟩, fun b hb => by cases hb; exact ⟨od, hgd, hx.2.1⟩, ?_⟩
    have raw : DT.Raw s1.heap pa es ep := ⟨od, hgd, hx, hdt⟩
    have nV : H1 s1.heap.objs.size = none := I1.hok.fresh (Nat.le_refl _)
    have I2 : Inv X pins σ (upd H1 s1.heap.objs.size (L2.DX.itemsO s1.heap.objs.size pa)) { s1 with heap := s1.heap.push { cls := .type "dict_items", data := .fields #[.ref pa] } } := I1.laid (t' := s1.toks) (fun b ob q => Heap.get?_push_of_some _ q) (Nat.le_refl _) (L2.DX.itemsO_ok (Heap.get?_push_size _ rfl))
    have R2 := R1.extra nV (L2.DX.itemsO s1.heap.objs.size pa)
    show wpAny _ _ (callWith cpos (.builtin "dict.items") [.ref pa] [] []) _ X.xe s1
    refine method_meetsIn PySem.F.slot_dict_items PySem.F.entry_dict_items rfl (PySem.evalArgs_none ⟨rfl, raw.typeIs, PySem.F.args_dict_items_1 _, _, DT.meetsItems (es := es) (ep := ep) hsys, raw, PyProof.Rows.args_nil ?_⟩)
    generalize hs2 : ({ s1 with heap := s1.heap.push { cls := .type "dict_items", data := .fields #[.ref pa] } } : Shared) = s2 at I2
    have V2 : (upd H1 s1.heap.objs.size (L2.DX.itemsO s1.heap.objs.size pa)) s1.heap.objs.size = some (L2.DX.itemsO s1.heap.objs.size pa) := upd_same
    generalize upd H1 s1.heap.objs.size (L2.DX.itemsO s1.heap.objs.size pa) = H2 at I2 R2 V2
    have hT : LamX.Tabs (tabOf X.K) H2 := R2.tb
    refine wpAny_evalAll_cons (wpAny_bind (LamX.lam_make2 (T := tabOf X.K) I2 TB hcode (by rw [htab]; exact List.mem_singleton.mpr rfl) (fun q hq _ => by rw [htab] at hq; rw [List.mem_singleton.mp hq]) hT hdef (fun y hy z => absurd z (S.nm y hy).2) fun f c' pm ctv H3 s3 I3 ex t3 hf hfn hfr hco => wpAny_bind (wpAny_standAt (wpAny_pure (wpAny_evalAll_nil ?_)))))
    have R3 := R2.lam ex t3
    obtain ⟨vw, _, _⟩ := I3.hok _ _ (ex _ _ V2 fun ps z => by cases z)
    obtain ⟨_, hgd3, hx3, es3, ep3, hdt3, hsz3, ent⟩ := frzT2 I3 (R3.fz _ _ hF)
    have raw3 : DT.Raw s3.heap pa es3 ep3 := ⟨od, hgd3, hx3, hdt3⟩
    have hL : sizeLine = 16777216 := sizeLine_eq
    have zl : ((ws.map tK).zip vs).length ≤ sizeLine := by
      obtain ⟨_, z, _⟩ := I1.hok _ _ (R1.fz _ _ hF)
      exact z
    have lv : vs.length = ws.length := by rw [← hl, List.length_map]
    have ld : ds.length = ws.length := by rw [rr.length, lv]
    have lz : ((ws.map tK).zip vs).length = ws.length := by rw [List.length_zip, List.length_map, lv, Nat.min_self]
    have lp : (ws.zip ds).length = ws.length := by rw [List.length_zip, ld, Nat.min_self]
    refine sortItemsKw (s := s3) (es := es3) (ep := ep3) (I1.ok.hd hc) vw raw3 (by rw [hsz3]; exact zl) (PyProof.Rows.ksk_s1 _ _) fun h' tk as hk hlt hla hG => ?_
    have las : as.length = ws.length := by omega
    have nd : as.Nodup := List.Pairwise.imp (fun h => Nat.ne_of_lt h) hG.rise
    -- the pairs as they lie there
    have pr : ∀ (j : Nat) b w d, as[j]? = some b → ws[j]? = some w → ds[j]? = some d → ∃ q v u, H3 q = some (.tup (w.map V.int)) ∧ RelD X.K F1 d v ∧ RelV v u ∧ h'.get? b = some { cls := .type "tuple", data := .seq #[.ref q, u] } := fun j b w d h1 h2 h3 => by
      obtain ⟨en, he, hgb⟩ := hG.pairs j b h1
      obtain ⟨v, hv, rv⟩ := rr.get h3
      obtain ⟨en', q, he', hkey, hq, ru⟩ := ent j (tK w) v (List.getElem?_zip_eq_some.mpr ⟨by rw [List.getElem?_map, h2]; rfl, hv⟩)
      rw [he] at he'
      cases he'
      rw [hkey] at hgb
      refine ⟨q, v, en.val, ?_, rv, ru, hgb⟩
      rw [hq]
      unfold tK
      rw [List.map_map]
      rfl
    generalize hh2 : h'.push { cls := .type "list", data := .seq (as.map Value.ref).toArray } = h2
    have hob : h2.get? h'.objs.size = some (seqObj "list" (as.map Value.ref).toArray 0) := by rw [← hh2]; exact Heap.get?_push_size _ rfl
    have up2 : ∀ b o, h'.get? b = some o → h2.get? b = some o := fun b o e => by rw [← hh2]; exact Heap.get?_push_of_some _ e
    have ne2 : ∀ b o, h'.get? b = some o → b ≠ h'.objs.size := fun b o e => Nat.ne_of_lt (Heap.lt_size e)
    have E1 : PySem.W.EachIs (fun (v : Value) (p : List Int × D) => ∃ (j : Nat) (b : Addr), v = .ref b ∧ as[j]? = some b ∧ ws[j]? = some p.1 ∧ ds[j]? = some p.2) (as.map Value.ref) (ws.zip ds) := each_getW (by rw [lp]; exact las) fun j b p h1 h2 => ⟨j, b, rfl, h1, (List.getElem?_zip_eq_some.mp h2).1, (List.getElem?_zip_eq_some.mp h2).2⟩
    have al : PySem.W.AllAlike ((ws.zip ds).map fun p => encW p.1) := fun d hd d' hd' => by
      obtain ⟨x, _, rfl⟩ := List.mem_map.mp hd
      obtain ⟨y, _, rfl⟩ := List.mem_map.mp hd'
      simp only [encW, PySem.W.alike, PySem.W.alikeAll, Bool.true_and, Bool.and_true]
      exact alike_intsW _ _
    have so : PySem.W.Sortable ((ws.zip ds).map fun p => encW p.1) := .inl fun d hd => by
      obtain ⟨x, _, rfl⟩ := List.mem_map.mp hd
      exact ⟨_, _, rfl⟩
    obtain ⟨mb, B1, B2⟩ := I3.mod.blt
    obtain ⟨⟨oc, vsc, tc, hoc, hdc, hvc⟩, _, _⟩ := I3.hok c' _ hco
    have fresh : ∀ b, b ∈ as → s3.heap.objs.size ≤ b := fun b hb => Nat.le_of_lt (hG.above b hb)
    refine PySem.W.list_sort_key_data (s := { s3 with heap := h2, toks := tk }) (b := false) (f := .ref f) (n := 0) (vs := as.map Value.ref) (bs := ws.zip ds) (fun p : List Int × D => encW p.1) hob E1 al so (by rw [lp]; omega) (fun x hx => ?_) (PyProof.Rows.ksk_l1 _ _) (PyProof.Rows.ksk_t1 _ _) (fun v x hR hx h tk2 kp => ?_) fun out n2 hE tk2 kp hLs ho E3 => ?_
    · have hd3 : (encW x.1).depth ≤ 3 := depth_encW _
      have hu := hr.un
      show X.A.units + 1 + 1 + _ < cLine
      omega
    · obtain ⟨i, b, rfl, h1, h3, h4⟩ := hR
      obtain ⟨q, v, u, hq, rv, ru, hgb⟩ := pr i b x.1 x.2 h1 h3 h4
      obtain ⟨its, rit, hti, hz⟩ : ∃ its : List Value, Vals (x.1.map V.int) its ∧ IsTup s3.heap q its.toArray ∧ x.1.length ≤ sizeLine := by
        obtain ⟨z, its, r, pl⟩ := I3.hok _ _ hq
        exact ⟨its, r, pl, by rw [List.length_map] at z; exact z⟩
      have up3 : ∀ b o, s3.heap.get? b = some o → h.get? b = some o := fun b o e => kp b o (ne2 _ _ (hk b o e)) (up2 _ _ (hk b o e))
      exact lam_key (s := { s3 with heap := h, toks := tk2 }) (mg := X.mg) (mb := mb) hr.depth (up3 _ _ hf) ⟨c', oc, vsc, tc, rfl, up3 _ _ hoc, hdc, hvc⟩ (I3.nolimit.keeps up3) (fun v => hbind _ _ _ _ _ v) S.kind S.co S.gen (fun x hx => (S.nm x hx).1) S.own S.len hd
        ((I3.mod.glob.keeps I3.bk).keeps up3) hlen ((B1.keeps I3.bk).keeps up3) ((B2 "len" (by decide)).trans rfl) ⟨_, kp _ _ (ne2 _ _ hgb) (up2 _ _ hgb), rfl, _, rfl⟩ (hti.keeps up3) rit hz
    · have oldF : ∀ b o, h'.get? b = some o → hE.get? b = some o := fun b o e => kp b o (ne2 _ _ e) (up2 _ _ e)
      have I4 : Inv X pins σ H3 { s3 with heap := hE, toks := tk2 } := I3.kept (t' := tk2) fun b o e => oldF _ _ (hk b o e)
      -- the pairs are tracked
      obtain ⟨zs, hzs⟩ : ∃ zs : List Pr, zs.map (·.b) = as ∧ zs.map (·.w) = ws ∧ RelDs X.K F1 ds (zs.map (·.v)) ∧ ∀ z ∈ zs, H3 z.q = some (.tup (z.w.map V.int)) ∧ ∃ u, RelV z.v u ∧ h'.get? z.b = some { cls := .type "tuple", data := .seq #[.ref z.q, u] } := prs_of las ld pr
      obtain ⟨z1, z2, z3, z4⟩ := hzs
      obtain ⟨H4, F4, I5, S4, R4, q4, k4⟩ := takeP I3 zs I4 R3 (by rw [z1]; exact nd) fun z hz => by
        have hm : z.b ∈ as := by rw [← z1]; exact List.mem_map.mpr ⟨z, hz, rfl⟩
        obtain ⟨y1, u, y2, y3⟩ := z4 z hz
        exact ⟨fresh _ hm, I3.hok.fresh (fresh _ hm), y1, u, y2, oldF _ _ y3⟩
      have nL : H4 h'.objs.size = none := by
        rw [k4 _ fun hm => ?_]
        · exact I3.hok.fresh (Nat.le_of_lt hlt)
        · rw [z1] at hm
          exact Nat.lt_irrefl _ (hG.there hm)
      obtain ⟨vs', v1, v2⟩ := rel_outW (K := X.K) (F := F4) (fun v p ⟨j, b, e1, e2, e3, e4⟩ => ⟨b, e1, by
        obtain ⟨z, hz⟩ : ∃ z, zs[j]? = some z := by
          have := e2
          rw [← z1, List.getElem?_map] at this
          cases q : zs[j]? with
          | none => rw [q] at this; cases this
          | some z => exact ⟨z, rfl⟩
        have eb : z.b = b := by have := e2; rw [← z1, List.getElem?_map, hz] at this; exact Option.some.inj this
        have ew : z.w = p.1 := by have := e3; rw [← z2, List.getElem?_map, hz] at this; exact Option.some.inj this
        obtain ⟨g1, g2⟩ := q4 z (List.mem_of_getElem? hz)
        obtain ⟨v', hv', rv'⟩ := z3.get e4
        have ev : z.v = v' := by rw [List.getElem?_map, hz] at hv'; exact Option.some.inj hv'
        rw [eb, ev] at g1
        rw [ew] at g2
        exact .tup g1 (.cons (.tup g2 (relInts _)) (.cons (rv'.mono S4) .nil))⟩) E3
      have lvs : vs'.length ≤ sizeLine := by
        rw [← v2.length, List.length_map, List.length_mergeSort, lp]
        omega
      have I6 : Inv X pins σ (upd H4 h'.objs.size (.lst vs')) { s3 with heap := hE, toks := tk2 } := I5.take (h' := hE) (t' := tk2) (fun b ob _ e => e) (I3.fpOk (Nat.le_of_lt hlt) nL) ⟨lvs, out, n2, v1, hLs⟩
      exact ⟨.ref h'.objs.size, _, I6, rfl, (LK.lst nL R4 v2 q1).weak (s1'.trans S4)⟩
  | _ => exact q1.elim
end
end DL

namespace DL
open PySem PySem.Spec PyProof.Rows L2
/-! the end of a law whose program makes a lambda: the maker's table of code objects is tracked beside the script -/
/-- the maker's code object and its table, at every base -/
class HasTB (K : PySem.W.Frag) (mg : Str → Option Value) (base : Heap) : Prop where
  tb : ∀ c P, PySem.W.tabIn K lamMaker = some (c, P) → LamX.TabB base mg c P
theorem tabOf_of {K : PySem.W.Frag} {c P : Addr} (h : PySem.W.tabIn K lamMaker = some (c, P)) : tabOf K = [(P, lamMaker ++ ".<locals>.<lambda>")] := by
  unfold tabOf
  rw [h]
theorem fn_okE {P : Program} {w : World} {K : PySem.W.Frag} {mg : Str → Option Value} {base : Heap} {x qual : Str} {st : Stmt} {f : Addr} {fd : FuncData} {N ps : List Str} {k nl : Nat} {tb : DTS} (G : Fun K x qual st f fd) (S : FnScope N ps (defScope st)) (hn : nl = N.length - ps.length)
    (hb : ∀ (cdv : Value) (_ : fd.code = cdv) (A : Around) (outer : List Env) (s : Shared) (H : Hp) (E : XK), Room k (A.deeper (envOfC qual (defScope st) s.heap.objs.size f cdv)) → (A.deeper (envOfC qual (defScope st) s.heap.objs.size f cdv)).guards = some [] → DSs (cxOf CX0 P w K mg base N qual (defScope st) f cdv A outer s H E).nox (defBody st) tb) :
    FnG P w K mg base (k + 1) f fd ps (fnD tb ps.length nl) := by
  obtain ⟨oc, od, kV, doc, pm, an, cdv, ct, osl, rfl, lk, hcd⟩ := G.ex
  refine ⟨fun ds l Q h => h.1, fun A outer s H args us vs Q E hr hgd e0 hbd r hsp => ?_⟩
  obtain ⟨F, Fr, ds, l, Qd, rd, R, ⟨h1, q⟩, hq⟩ := hsp
  have hlen : vs.length = ps.length := by rw [← rd.length, h1]
  have inK : K.In s.heap := e0.mod.kin.keeps fun b o e => (e0.bs b o e).1
  have hlim : s.heap.NoLimit := e0.mod.nolimit.keeps fun b o e => (e0.bs b o e).1
  have kinds : ∀ y ∈ ps.zip us, (defScope st).names.lookup y.1 = some .local ∨ ((defScope st).names.lookup y.1 = some .cell ∧ ((cellsFrom (s.heap.objs.size + 1) (defScope st).names []).lookup y.1).isSome = true) := by
    rintro ⟨n, v⟩ hy
    exact (S.par n (List.of_mem_zip hy).1).imp id fun q => ⟨q, PySem.W.cellsFrom_some _ _ _ (.inl q)⟩
  refine codeAny_call_function hr.depth (inK _ _ lk) rfl S.co S.gen rfl (PySem.W.codeRec_of inK hcd) (hbd _ _ _ _ (wpAny_newFunctionEnv_cells S.kind kinds fun env he s1 ic => ?_))
  subst he
  refine ⟨hlim.keeps ic.toInCall.keep, codeAny_func ?_⟩
  have I : Inv (cxOf CX0 P w K mg base N qual (defScope st) f cdv A outer s H E) [] (start N vs) H s1 := inv_start S hr.hd e0 hlen r ic
  have est : L2.start N vs = vs.map some ++ List.replicate nl none := by
    unfold L2.start
    rw [hn, hlen]
  have body : WSs (cxOf CX0 P w K mg base N qual (defScope st) f cdv A outer s H E).nox (defBody st) (LE K F Fr ⟨fun _ l => Qd .non l, Qd, fun _ _ => False, fun _ _ => False⟩) (L2.start N vs) H := by
    rw [est]
    exact hb cdv rfl A outer s H E (hr.deeper _) hgd F Fr _ l _ H _ (RepE.start rd nl) R q
  refine thn (pssW.nox.run [] s1 _ H _ I body) fun fl s' hs => ?_
  have fin : ∀ {σ' : St} {H' : Hp} {v : V} {u : Value}, Inv (cxOf CX0 P w K mg base N qual (defScope st) f cdv A outer s H E) [] σ' H' s' → RelV v u → Q v H' → CE outer P w H s Q u s' := fun J rv q => ⟨_, _, J.os, J.bare, J.base, J.hok, rv, q⟩
  cases fl with
  | ret u => obtain ⟨v, σ', H', J, rv, q⟩ := hs; exact fin J rv (hq v H' q)
  | next =>
    obtain ⟨σ', H', J, F', e', l', s', re, R', q⟩ := hs
    exact fin (v := .non) (u := .none) J rfl (hq .non H' ⟨F', .non, l', s', .non, R', q⟩)
  | brk => obtain ⟨σ', H', J, F', e', l', s', re, R', q⟩ := hs; exact q.elim
  | cont => obtain ⟨σ', H', J, F', e', l', s', re, R', q⟩ := hs; exact q.elim
theorem code_of_tab {K : PySem.W.Frag} {x qual : Str} {st : Stmt} {f c P : Addr} {fd : FuncData} (G : Fun K x qual st f fd) (n : PySem.W.nsIn K mainGlobals lamMaker = some (some (.ref f))) (h : PySem.W.tabIn K lamMaker = some (c, P)) : fd.code = .ref c := by
  obtain ⟨oc, od, kV, doc, pm, an, cdv, ct, osl, rfl, lk, hcd⟩ := G.ex
  unfold PySem.W.tabIn at h
  rw [n] at h
  dsimp only at h
  rw [lk] at h
  dsimp only at h
  split at h
  · split at h
    · split at h
      · cases h; rfl
      · cases h
    · cases h
  · cases h
/-- the maker keeps its reading: its own code object is known -/
theorem fn_okL {P : Program} {w : World} {K : PySem.W.Frag} {mg : Str → Option Value} {base : Heap} {x qual : Str} {st : Stmt} {f c P0 : Addr} {fd : FuncData} {N ps : List Str} {k nl : Nat} {tb : DTS} (G : Fun K x qual st f fd) (n : PySem.W.nsIn K mainGlobals lamMaker = some (some (.ref f))) (h : PySem.W.tabIn K lamMaker = some (c, P0)) (S : FnScope N ps (defScope st)) (hn : nl = N.length - ps.length)
    (hb : ∀ (A : Around) (outer : List Env) (s : Shared) (H : Hp) (E : XK), Room k (A.deeper (envOfC qual (defScope st) s.heap.objs.size f (.ref c))) → (A.deeper (envOfC qual (defScope st) s.heap.objs.size f (.ref c))).guards = some [] → DSs (cxOf CX0 P w K mg base N qual (defScope st) f (.ref c) A outer s H E).nox (defBody st) tb) :
    FnG P w K mg base (k + 1) f fd ps (fnD tb ps.length nl) := by
  have hc := code_of_tab G n h
  exact fn_okE G S hn fun cdv e A outer s H E hr hg => by
    rw [hc] at e
    subst e
    exact hb A outer s H E hr hg
theorem lam_qual : (lamMaker ++ ".<locals>.<lambda>" : Str) = ((lamMaker ++ ".<locals>." : Str) ++ "<lambda>" : Str) := by decide +kernel
abbrev tab0 : Obj := { cls := .none, data := .fields #[] }
theorem law_coreT {P : Program} {w : World} {K : PySem.W.Frag} {mg mb : Str → Option Value} {k : Nat} {fa a c P0 : Addr} {fd : FuncData} {x : Str} {dsp : DSp} {s1 : Shared} {vs : List Value} {ns : List Int}
    (KX : K.In s1.heap) (hns : s1.heap.Ns mainGlobals mg) (hb : s1.heap.Ns builtinsNs mb) (hbb : ∀ x : Str, x ≠ "__name__" → mb x = bootBuiltins x) (hlim : s1.heap.NoLimit) (hg : s1.gens = #[])
    (hT : s1.heap.get? P0 = some tab0) (nT : K.lookup P0 = none) (hC : PySem.W.CodeHd s1.heap c P0)
    (hbm : ∃ (bm : Addr) (ob : Obj), mg "__builtins__" = some (.ref bm) ∧ bm ≠ builtinsNs ∧ s1.heap.get? bm = some ob ∧ ob.cls = .type "module" ∧ ob.dict = some builtinsNs ∧ ob.data = .plain)
    (ha : s1.heap.get? a = some { cls := .type "list", data := .seq vs.toArray }) (hr : Room k callerA) (tab : PySem.W.tabIn K lamMaker = some (c, P0))
    (G : ∀ base : Heap, K.In base → base.Ns mainGlobals mg → HasTB K mg base → FnG P w K mg base k fa fd [x] dsp) (hbind : ∀ (s : Shared) (u : Value), BindsTo s fd ⟨[u], []⟩ [(x, u)])
    (hsp : dsp [.scr ns] (fun _ => none) fun d _ => d = .bl true)
    (F : Hp) (hO : ∀ b o, F b = some o → b = a ∧ ∃ ob xs, o = .frz ob (.lst xs)) (hS : SqL K F a (ns.map V.int)) (hok : HOk P w (upd F P0 (.tbl #[])) s1.heap) (hK : F a ≠ none → K.lookup a = none) :
    codeAny (model P w) callerA (.call (.ref fa) ⟨[.ref a], []⟩) (fun r s' => r = .ok (.ret (.bool true)) ∧ OldK s1.heap s'.heap ∧ s'.os = s1.os ∧ AllBare s'.gens) s1 := by
  have aP : a ≠ P0 := fun z => by rw [z, hT] at ha; cases ha
  have fP : F P0 = none := by
    cases q : F P0 with
    | none => rfl
    | some o => exact absurd (hO _ _ q).1.symm aP
  generalize hH : upd F P0 (.tbl #[]) = H at hok
  have hP : H P0 = some (.tbl #[]) := by rw [← hH]; exact upd_same
  have hF : ∀ b, b ≠ P0 → H b = F b := fun b hb => by rw [← hH]; exact upd_ne hb
  have Hc : ∀ b o, H b = some o → b = P0 ∨ (b = a ∧ ∃ ob xs, o = .frz ob (.lst xs)) := fun b o e => by
    by_cases hb : b = P0
    · exact .inl hb
    · rw [hF b hb] at e
      exact .inr (hO _ _ e)
  -- what is tracked is a list or the empty table
  have free : ∀ {b : Addr} {o : Obj}, s1.heap.get? b = some o → (∀ xs n, o.data ≠ .seq xs n) → o.data ≠ .fields #[] → H b = none := fun {b o} e n1 n2 => by
    cases q : H b with
    | none => rfl
    | some u =>
      rcases Hc b u q with rfl | ⟨rfl, _⟩
      · rw [hT] at e; cases e; exact absurd rfl n2
      · rw [ha] at e; cases e; exact absurd rfl (n1 _ _)
  have base_of : ∀ {b : Addr} {o : Obj}, s1.heap.get? b = some o → H b = none → (hidT s1.heap H).get? b = some o := fun e n => hidT_get e n
  have dict0 : ∀ {o : Obj} {es : Array DictEntry} {ep : Nat}, o.data = .dict es ep → (∀ xs n, o.data ≠ .seq xs n) ∧ o.data ≠ .fields #[] := fun {o es ep} d => ⟨fun xs n z => (by rw [d] at z; cases z), fun z => (by rw [d] at z; cases z)⟩
  have toBase : ∀ {b : Addr} {m : Str → Option Value}, s1.heap.Ns b m → (hidT s1.heap H).Ns b m := fun ⟨o, es, ep, e, d, r⟩ => ⟨o, es, ep, base_of e (free e (dict0 d).1 (dict0 d).2), d, r⟩
  have kbase : K.In (hidT s1.heap H) := fun b o e => base_of (KX b o e) (by
    cases q : H b with
    | none => rfl
    | some u =>
      rcases Hc b u q with rfl | ⟨rfl, _⟩
      · rw [nT] at e; cases e
      · rw [hK (by rw [← hF _ aP, q]; exact fun z => (nomatch z))] at e; cases e)
  have md : Mod K mg (hidT s1.heap H) := ⟨kbase, toBase hns, ⟨mb, toBase hb, hbb⟩, hlim.elim fun mc h => ⟨mc, toBase h.1, h.2⟩⟩
  have e0 : Env0 P w K mg (hidT s1.heap H) callerA [] s1 H := ⟨rfl, md, fun b o e => of_hidT e, Nat.le_of_eq (hidT_size _ _), trivial, (fun b hb => nomatch (show b ∈ ([] : List Addr) from hb)), hok, .of_eq hg⟩
  have tbs : HasTB K mg (hidT s1.heap H) := ⟨fun c' P' e => by
    rw [tab] at e
    cases e
    obtain ⟨oc, us, fl, tf, flags, tg, inF, tx, tt, g1, g2, g3, g4⟩ := hC
    have nf : oc.data ≠ .fields #[] := fun z => by rw [g3] at z; cases z; simp at g4
    refine ⟨⟨oc, us, fl, tf, flags, tg, inF, tx, tt, base_of g1 (free g1 (fun xs n z => by rw [g3] at z; cases z) nf), g2, g3, g4⟩, ?_, fun z => ?_⟩
    · obtain ⟨bm, ob, b1, b2, b3, b4, b5, b6⟩ := hbm
      have nG : bm ≠ mainGlobals := fun z => by
        obtain ⟨o, es, ep, e, hd, _⟩ := hns
        rw [z, e] at b3; cases b3
        rw [hd] at b6; cases b6
      have nP : bm ≠ P0 := fun z => by rw [z, hT] at b3; cases b3; cases b6
      exact ⟨bm, ob, b1, b2, nG, nP, base_of b3 (free b3 (fun xs n z => by rw [b6] at z; cases z) fun z => by rw [b6] at z; cases z), b4, b5, b6⟩
    · obtain ⟨o, es, ep, e, hd, _⟩ := hns
      rw [z, hT] at e; cases e
      cases hd⟩
  have sF : Same F H := fun b o e => by
    rw [hF b (fun z => by rw [z, fP] at e; cases e)]
    exact e
  have tbR : ∀ p ∈ tabOf K, LamX.TabS H p.1 p.2 := fun p hp => by
    rw [tabOf_of tab] at hp
    rw [List.mem_singleton.mp hp]
    exact LamX.TabS.nil hP
  have rep : Rep K F (fun _ => none) (fun _ => none) H := ⟨sF, (fun _ _ e => nomatch e), (fun _ _ e => nomatch e), (fun _ _ e => nomatch e), (fun _ _ e => nomatch e), tbR, (fun b o e => by
    obtain ⟨_, ob, xs, rfl⟩ := hO b o e
    rfl), (fun _ _ e => nomatch e)⟩
  have sp : spOf K dsp [.ref a] H (fun v _ => v = .bl true) L2.E0 := ⟨F, fun _ => none, [.scr ns], fun _ => none, fun d _ => d = .bl true, .cons (.scr hS) .nil, rep, hsp, fun v H' ⟨F', d, l, _, r, _, e⟩ => by subst e; cases r; rfl⟩
  refine codeAny_mono ((G _ kbase (toBase hns) tbs).run callerA [] s1 H ⟨[.ref a], []⟩ [.ref a] [.ref a] _ _ hr rfl e0 (hbind s1 (.ref a)) (.cons rfl .nil) sp) fun r s' h => ?_
  cases r with
  | error e => exact h.elim
  | ok fl =>
    cases fl with
    | next => exact h.elim
    | brk => exact h.elim
    | cont => exact h.elim
    | ret u =>
      obtain ⟨v, H', os, bare, un, hok', rv, q⟩ := h
      replace q : v = .bl true := q
      subst q
      cases (show u = Value.bool true from rv)
      have kept : ∀ b o, b ≠ P0 → s1.heap.get? b = some o → s'.heap.get? b = some o := fun b o hb e => by
        cases q : H b with
        | none => exact un.keep b o e q (fun z => nomatch (show b ∈ ([] : List Addr) from z)) (fun z => nomatch (show b ∈ ([] : List Addr) from z))
        | some u =>
          rcases Hc b u q with z | ⟨_, ob, xs, rfl⟩
          · exact absurd z hb
          · have z1 := (hok b _ q).1
            have z2 := (hok' b _ (un.frzs b ob _ q)).1
            rw [e] at z1
            cases z1
            exact z2
      obtain ⟨more, hm⟩ : ∃ more : Array Value, s'.heap.get? P0 = some { cls := .none, data := .fields more } := by
        obtain ⟨more, z⟩ := un.tbls P0 #[] hP
        exact ⟨_, hok' P0 _ z⟩
      have isT : isCodeTable s1.heap P0 := by
        obtain ⟨oc, us, fl, tf, flags, tg, inF, tx, tt, g1, g2, g3, g4, _⟩ := hC
        exact ⟨c, oc, us, g1, g2, g3, g4⟩
      refine ⟨rfl, ⟨fun b o e => ?_, fun b o e => ?_⟩, os, bare⟩
      · by_cases hb : b = P0
        · subst hb
          rw [hT] at e
          cases e
          exact .inr (.inl ⟨isT, rfl, #[], more, rfl, by rw [Array.empty_append]; exact hm⟩)
        · exact .inl (kept b o hb e)
      · by_cases hb : b = P0
        · rw [hb]; exact ⟨_, hm⟩
        · exact ⟨o, kept b o hb e⟩
theorem law_callT {P : Program} {w : World} {K : PySem.W.Frag} {mg mb : Str → Option Value} {k : Nat} {fa a c P0 : Addr} {fd : FuncData} {x : Str} {dsp : DSp} {s1 : Shared} {vs : List Value} {ns : List Int}
    (KX : K.In s1.heap) (hns : s1.heap.Ns mainGlobals mg) (hb : s1.heap.Ns builtinsNs mb) (hbb : ∀ x : Str, x ≠ "__name__" → mb x = bootBuiltins x) (hlim : s1.heap.NoLimit) (hg : s1.gens = #[])
    (hT : s1.heap.get? P0 = some tab0) (nT : K.lookup P0 = none) (hC : PySem.W.CodeHd s1.heap c P0)
    (hbm : ∃ (bm : Addr) (ob : Obj), mg "__builtins__" = some (.ref bm) ∧ bm ≠ builtinsNs ∧ s1.heap.get? bm = some ob ∧ ob.cls = .type "module" ∧ ob.dict = some builtinsNs ∧ ob.data = .plain)
    (ha : s1.heap.get? a = some { cls := .type "list", data := .seq vs.toArray }) (hi : IntsAre vs ns) (hl : ns.length ≤ sizeLine) (hr : Room k callerA) (tab : PySem.W.tabIn K lamMaker = some (c, P0))
    (G : ∀ base : Heap, K.In base → base.Ns mainGlobals mg → HasTB K mg base → FnG P w K mg base k fa fd [x] dsp) (hbind : ∀ (s : Shared) (u : Value), BindsTo s fd ⟨[u], []⟩ [(x, u)])
    (hsp : dsp [.scr ns] (fun _ => none) fun d _ => d = .bl true) :
    codeAny (model P w) callerA (.call (.ref fa) ⟨[.ref a], []⟩) (fun r s' => r = .ok (.ret (.bool true)) ∧ OldK s1.heap s'.heap ∧ s'.os = s1.os ∧ AllBare s'.gens) s1 := by
  have rv := vals_of_ints hi
  have lenV := hi.length
  have aP : a ≠ P0 := fun z => by rw [z, hT] at ha; cases ha
  cases q : K.lookup a with
  | none =>
    have same : (upd (fun _ => none) a (.frz { cls := .type "list", data := .seq vs.toArray } (.lst (ns.map V.int))) : Hp) a = some _ := upd_same
    refine law_coreT KX hns hb hbb hlim hg hT nT hC hbm ha hr tab G hbind hsp (upd (fun _ => none) a (.frz { cls := .type "list", data := .seq vs.toArray } (.lst (ns.map V.int)))) (fun b o e => ?_) (.inl (.inr ⟨_, same⟩)) (fun b u z => ?_) fun _ => q
    · by_cases hb : b = a
      · subst hb; rw [upd_same] at e; cases e; exact ⟨rfl, _, _, rfl⟩
      · rw [upd_ne hb] at e; cases e
    · by_cases hp : b = P0
      · subst hp; rw [upd_same] at z; cases z; exact hT
      · rw [upd_ne hp] at z
        by_cases hb : b = a
        · subst hb; rw [upd_same] at z; cases z
          exact ⟨ha, by rw [List.length_map]; exact hl, vs, _, rv, ha⟩
        · rw [upd_ne hb] at z; cases z
  | some o =>
    have e := KX a o q
    rw [ha] at e
    cases e
    refine law_coreT KX hns hb hbb hlim hg hT nT hC hbm ha hr tab G hbind hsp (fun _ => none) (fun b o e => nomatch e) (.inr ⟨_, vs.toArray, _, q, rfl, rfl, rfl, by rw [List.size_toArray, lenV]; exact hl, by simpa using rv⟩) (fun b u z => ?_) fun z => absurd rfl z
    by_cases hp : b = P0
    · subst hp; rw [upd_same] at z; cases z; exact hT
    · rw [upd_ne hp] at z; cases z
theorem walk_ofT {l : PySem.W.OpenLaw} {n k : Nat} {q : Program} {loose : List Str} {XP : (Str → Option Value) → Heap → Prop} {d : DefRec} {K : Params → PySem.W.Frag} {as : List Addr} {ek : ∀ P, as = (K P).map (·.1)} {c P0 : Addr} {dsp : DSp} {x : Str}
    (hn : l.most = some n) (hn2 : n ≤ sizeLine) (hdf : d.params.defaults = []) (hr : Room k callerA)
    (hTab : ∀ P : Params, PySem.W.tabIn (K P) lamMaker = some (c, P0)) (hN : ∀ P : Params, (K P).lookup P0 = none) (hC : ∀ P : Params, PySem.W.codeHdIn (K P) c P0 = true)
    (F : ∀ (w : World) (mg : Str → Option Value) (fa : Addr) (h : Heap), (K w.params).In h → h.Ns mainGlobals mg → mg d.name = some (.ref fa) →
      ∃ fd : FuncData, (∀ (s : Shared) (u : Value), BindsTo s fd ⟨[u], []⟩ [(x, u)]) ∧ ∀ base : Heap, (K w.params).In base → base.Ns mainGlobals mg → HasTB (K w.params) mg base → FnG l.prog w (K w.params) mg base k fa fd [x] dsp)
    (hsp : ∀ ns : List Int, ns.length ≤ n → dsp [.scr ns] (fun _ => none) fun d _ => d = .bl true) :
    PySem.W.WalkO q loose XP (PySem.W.Hook.says (PySem.W.kmHook K as ek [P0])) l.row.toRowW d [] (fun f vs => PySem.call f vs) := by
  refine Att.attach_call hn hdf fun w s₀ s₁ mg mb fa o pm cd doc a vs ns G Y ho hd hcd hmg hobj hints hlen hg => ?_
  have KX := PySem.W.km_in_of Y
  obtain ⟨fd, hb, hF⟩ := F w mg fa _ KX G.T.g hmg
  exact law_callT KX G.T.g G.T.b G.T.builtins G.T.nolimit hg (PySem.W.km_tabs_of Y P0 (List.mem_singleton.mpr rfl)) (hN _) (PySem.W.codeHd_of_K KX (hC _)) G.T.bmain hobj hints (Nat.le_trans hlen hn2) hr (hTab _) hF hb (hsp ns hlen)
end DL

/-! a comprehension over zip of two, each a list or tuple that stays or a list that may be written, as long as it is as it was -/
namespace DL
open PySem PySem.Spec PyProof.Rows L2
def JOkV (K : PySem.W.Frag) (F : Hp) (J : It) (hold : LH → Prop) (ds : List D) : Prop := ∀ (i : Nat) F' Fr l H, Same F F' → Rep K F' Fr l H → hold l →
  (ds.length ≤ i → J.stop i H) ∧ (∀ d, ds[i]? = some d → J.go i H ∧ ∀ x H', J.yld i H x H' → ∃ F2, Same F' F2 ∧ RelD K F2 d x ∧ Rep K F2 Fr l H')
def LIV (K : PySem.W.Frag) (F Fr : Hp) (R : (LH → Prop) → List D → LH → Prop) : It → Hp → Prop := fun J H => ∃ F1 l1 hold ds, Same F F1 ∧ Rep K F1 Fr l1 H ∧ JOkV K F1 J hold ds ∧ R hold ds l1
abbrev DTIV := DSt → LH → ((LH → Prop) → List D → LH → Prop) → Prop
structure DIV (X : Cx) (tg iter : Expr) (t : DTIV) : Prop where
  run : ∀ F Fr env l σ H R, RepE X.K F env σ → Rep X.K F Fr l H → t env l R → WI X tg iter σ H (LIV X.K F Fr R)
section
variable {X : Cx} {elt tg iter : Expr} {ifs : List Expr} {scope : Scope} {own : List (Str × Nat)} {pos : Pos} {ti : DTIV} {g : DTG} {tt : DTT} {te : DTE}
variable (hc : X.calm = true) (hN : X.N.Nodup) (hi : DIV X tg iter ti) (ok : BlkOk X.N X.env.scope scope own)
    (hg : ∀ (s : Shared) (H : Hp) (C : Addr) (cl : List (Str × Addr)) (fp : List Addr), DG (X.blk s H scope (compEnvC scope cl C X.env) fp) tg (own.map (·.2)) g)
    (ht : ∀ (s : Shared) (H : Hp) (C : Addr) (cl : List (Str × Addr)) (fp : List Addr), DTs (X.blk s H scope (compEnvC scope cl C X.env) fp) ifs tt)
    (he : ∀ (s : Shared) (H : Hp) (C : Addr) (cl : List (Str × Addr)) (fp : List Addr), DE (X.blk s H scope (compEnvC scope cl C X.env) fp) elt te)
include hi hg ht he hc hN ok
end
/-! zip -/
end DL

/-! list(zip(x, y)), each a list or a tuple -/
namespace PySem.W
open PySem PySem.Calls PyProof.Rows PyProof.V PySem.Spec ZM EZ
/-- what stands while list() takes the pairs -/
def ZmSt (b1 b2 : Bool) (z TI TO i1 i2 l1 l2 : Addr) (xs ys : Array Value) (i : Nat) (h : Heap) : Prop :=
  IsPair h TI (.ref i1) (.ref i2) ∧ It b1 h i1 l1 i ∧ It b2 h i2 l2 i ∧ Sq b1 h l1 xs ∧ Sq b2 h l2 ys ∧ ∃ f0 f1 a b, IsZ h z TI TO f0 f1 ∧ Fr0 f0 ∧ IsPair h TO a b
section
variable {prog : Program} {w : World} {A : Around} {s : Shared} {R : Result → Shared → Prop} {b1 b2 : Bool} {z TI TO i1 i2 l1 l2 S : Addr} {xs ys : Array Value}
theorem ZmSt.keep {i : Nat} {h h' : Heap} (hS : S ∉ [z, TI, TO, i1, i2, l1, l2]) (st : ZmSt b1 b2 z TI TO i1 i2 l1 l2 xs ys i h) (hk : ∀ b o, b ≠ S → h.get? b = some o → h'.get? b = some o) : ZmSt b1 b2 z TI TO i1 i2 l1 l2 xs ys i h' := by
  simp only [List.mem_cons, List.not_mem_nil, or_false, not_or] at hS
  obtain ⟨dz, dTI, dTO, di1, di2, dl1, dl2⟩ := hS
  obtain ⟨hTI, h1, h2, hl1, hl2, f0, f1, a, b, hz, hf, hTO⟩ := st
  exact ⟨hk _ _ (Ne.symm dTI) hTI, h1.to fun o e => hk _ o (Ne.symm di1) e, h2.to fun o e => hk _ o (Ne.symm di2) e, hl1.to fun o e => hk _ o (Ne.symm dl1) e, hl2.to fun o e => hk _ o (Ne.symm dl2) e, f0, f1, a, b, hk _ _ (Ne.symm dz) hz, hf, hk _ _ (Ne.symm dTO) hTO⟩
theorem zm_item {i : Nat} {E : Value → Shared → Prop} {Q : Option Value → Shared → Prop} (D : ZipApart z TI TO i1 i2 l1 l2) (st : ZmSt b1 b2 z TI TO i1 i2 l1 l2 xs ys i s.heap) (hi : i < min xs.size ys.size)
    (hQ : ∀ x y h', (xs[i]? = some x ∧ ys[i]? = some y) → ZmSt b1 b2 z TI TO i1 i2 l1 l2 xs ys (i + 1) h' → h'.get? s.heap.objs.size = some { cls := .type "tuple", data := .seq #[x, y] } → h'.objs.size = s.heap.objs.size + 1 →
      (∀ b o, b ∉ ZlW z TO i1 i2 → s.heap.get? b = some o → h'.get? b = some o) → Q (some (.ref s.heap.objs.size)) { s with heap := h' }) : wpAny (model prog w) A (pyNext (.ref z)) Q E s := by
  obtain ⟨hTI, h1, h2, hl1, hl2, f0, f1, a, b, hz, hf, hTO⟩ := st
  have hix : i < xs.size := Nat.lt_of_lt_of_le hi (Nat.min_le_left ..)
  have hiy : i < ys.size := Nat.lt_of_lt_of_le hi (Nat.min_le_right ..)
  have ex := Array.getElem?_eq_getElem hix
  have ey := Array.getElem?_eq_getElem hiy
  have hT : s.TypeIs (.ref z) "zip" := ⟨_, hz, rfl⟩
  unfold pyNext
  refine wpAny_bind (wpAny_attempt (wpAny_callSpecial?_slot (name := Str.ofString "__next__") hT PySem.F.slot_zip_next
    (wpAny_call_entry PySem.F.slot_zip_next hT PySem.F.entry_zip_next (zip_turn2 D hz hf hTI hTO h1 h2 hl1 hl2 ex ey fun g f0' f1' a' b' c1 c2 c3 c4 c5 c6 c7 hk => wpAny_pure ?_) (PySem.F.args_zip_next_1 _))))
  exact hQ _ _ g ⟨ex, ey⟩
    ⟨hk _ _ D.TIz D.TITO D.TIi1 D.TIi2 hTI, c4, c5, hl1.to fun o e => hk _ o D.l1z D.l1TO D.l1i1 D.l1i2 e, hl2.to fun o e => hk _ o D.l2z D.l2TO D.l2i1 D.l2i2 e, f0', f1', a', b', c1, c2, c3⟩ c6 c7
    fun c o hc e => hk c o (fun x => hc (by simp [ZlW, x])) (fun x => hc (by simp [ZlW, x])) (fun x => hc (by simp [ZlW, x])) (fun x => hc (by simp [ZlW, x])) e
theorem zm_done {E : Value → Shared → Prop} {Q : Option Value → Shared → Prop} (hA : A.handled = none) (D : ZipApart z TI TO i1 i2 l1 l2) (st : ZmSt b1 b2 z TI TO i1 i2 l1 l2 xs ys (min xs.size ys.size) s.heap)
    (hQ : ∀ h', (∀ b o, b ∉ ZlW z TO i1 i2 → s.heap.get? b = some o → h'.get? b = some o) → Q none { s with heap := h' }) : wpAny (model prog w) A (pyNext (.ref z)) Q E s := by
  obtain ⟨hTI, h1, h2, hl1, hl2, f0, f1, a, b, hz, hf, hTO⟩ := st
  have hend : xs[min xs.size ys.size]? = none ∨ ys[min xs.size ys.size]? = none := by
    rcases Nat.le_total xs.size ys.size with h | h
    · exact .inl (Array.getElem?_eq_none (by rw [Nat.min_eq_left h]; exact Nat.le_refl _))
    · exact .inr (Array.getElem?_eq_none (by rw [Nat.min_eq_right h]; exact Nat.le_refl _))
  have hT : s.TypeIs (.ref z) "zip" := ⟨_, hz, rfl⟩
  unfold pyNext
  refine wpAny_bind (wpAny_attempt (wpAny_callSpecial?_slot (name := Str.ofString "__next__") hT PySem.F.slot_zip_next
    (wpAny_call_entry PySem.F.slot_zip_next hT PySem.F.entry_zip_next (zip_stop2 hA D hz hf hTI hTO h1 h2 hl1 hl2 hend fun g e hk he => ?_) (PySem.F.args_zip_next_1 _))))
  obtain ⟨o, ho, hc⟩ := he
  refine wpAny_bind (wpAny_isInstance (T := "StopIteration") (b := true) ⟨o, ho, hc⟩ isSubtype_stop (wpAny_pure (hQ _ fun c o hc e => hk c o (fun x => hc (by simp [ZlW, x])) (fun x => hc (by simp [ZlW, x])) (fun x => hc (by simp [ZlW, x])) (fun x => hc (by simp [ZlW, x])) e)))
theorem zm_loop (hA : A.handled = none) (D : ZipApart z TI TO i1 i2 l1 l2) (hSo : S ∉ [z, TI, TO, i1, i2, l1, l2]) (hn : min xs.size ys.size ≤ sizeLine) (res : Value) {lo : Addr} (lS : S < lo) (lw : ∀ b ∈ ZlW z TO i1 i2, b < lo) {h₁ : Heap}
    (hR : ∀ h' tk acc c as, (∀ b o, b ≠ S → b ∉ ZlW z TO i1 i2 → h₁.get? b = some o → h'.get? b = some o) → h'.get? S = some { cls := .type "list", dict := none, data := .seq acc c, slots := #[] } → as.length = min xs.size ys.size → ZlG xs ys lo h' as →
      acc.toList = as.map Value.ref → R (.ok (.ret res)) { s with heap := h', toks := tk }) :
    ∀ (k i : Nat) (h : Heap) (tk : Nat) (c : Nat) (acc : Array Value) (as : List Addr), min xs.size ys.size - i = k → i ≤ min xs.size ys.size → ZmSt b1 b2 z TI TO i1 i2 l1 l2 xs ys i h → (∀ b o, b ≠ S → b ∉ ZlW z TO i1 i2 → h₁.get? b = some o → h.get? b = some o) →
      h.get? S = some { cls := .type "list", dict := none, data := .seq acc c, slots := #[] } → acc.toList = as.map Value.ref → as.length = i → ZlG xs ys lo h as → lo ≤ h.objs.size →
      codeAny (model prog w) A (.builtin "list.extend.loop" ⟨[.ref S, .ref z, res], []⟩) R { s with heap := h, toks := tk } := by
  have hSw : S ∉ ZlW z TO i1 i2 := fun m => hSo (by
    simp only [ZlW, List.mem_cons, List.not_mem_nil, or_false] at m ⊢
    rcases m with e | e | e | e <;> simp [e])
  intro k
  induction k with
  | zero =>
    intro i h tk c acc as hk hi hst hkeep hS hacc hal hG hIs
    have hin : i = min xs.size ys.size := by omega
    subst hin
    refine codeAny_builtin PySem.F.entry_extend_loop ?_
    rw [Around.under_plainId PySem.F.plain_extend_loop _]
    show wpAny _ A.in1 (pyNext (.ref z) >>= _) _ _ _
    refine wpAny_bind (zm_done (A := A.in1) (s := { s with heap := h, toks := tk }) hA D hst fun h' he => ?_)
    refine wpAny_pure (hR h' tk acc c as (fun b o h1 h2 e => he b o h2 (hkeep b o h1 h2 e)) (he S _ hSw hS) hal ⟨hG.rise, hG.above, fun j a hj => ?_⟩ hacc)
    obtain ⟨x, y, e1, e2⟩ := hG.pairs j a hj
    have := hG.above a (List.mem_of_getElem? hj)
    exact ⟨x, y, e1, he a _ (fun m => Nat.lt_irrefl _ (Nat.lt_of_lt_of_le (lw a m) this)) e2⟩
  | succ k ih =>
    intro i h tk c acc as hk hi hst hkeep hS hacc hal hG hIs
    have hlt : i < min xs.size ys.size := by omega
    have hsz : acc.size = i := by rw [← Array.length_toList, hacc, List.length_map, hal]
    have hSl : S < h.objs.size := Heap.lt_size hS
    refine codeAny_builtin PySem.F.entry_extend_loop ?_
    rw [Around.under_plainId PySem.F.plain_extend_loop _]
    show wpAny _ A.in1 (pyNext (.ref z) >>= _) _ _ _
    refine wpAny_bind (zm_item (A := A.in1) (s := { s with heap := h, toks := tk }) D hst hlt fun x y h' hP hst' ht hz hkp => ?_)
    dsimp only at ht hz hkp ⊢
    have hS' := hkp S _ hSw hS
    have up : ∀ b o, b ≠ S → h'.get? b = some o → (h'.update S (Obj.mapSeq (·.push (Value.ref h.objs.size)))).get? b = some o := fun b o hb e => (Heap.get?_update_other _ _ (Ne.symm hb)).trans e
    show wpAny _ A.in1 (updateSeq S (·.push (Value.ref h.objs.size)) >>= _) _ _ _
    refine wpAny_bind ?_
    refine wpAny_updateSeq hS' rfl (wpAny_pure ⟨plainId_quiet PySem.F.plain_extend_loop _, ih (i + 1) _ tk _ (acc.push (Value.ref h.objs.size)) (as ++ [h.objs.size]) (by omega) hlt (hst'.keep hSo up)
      (fun b o h1 h2 e => up b o h1 (hkp b o h2 (hkeep b o h1 h2 e))) (Heap.get?_update_self _ hS' rfl) (by rw [Array.toList_push, hacc, List.map_append]; rfl) (by rw [List.length_append, hal]; rfl) ⟨?_, ?_, ?_⟩ ?_⟩) (by rw [hsz]; omega) (by show (acc.push (Value.ref h.objs.size)).size ≤ sizeLine + 1; rw [Array.size_push, hsz]; omega)
    · refine List.pairwise_append.mpr ⟨hG.rise, List.pairwise_singleton _ _, fun a ha b hb => ?_⟩
      rw [List.mem_singleton.mp hb]
      exact hG.there ha
    · intro a ha
      rcases List.mem_append.mp ha with ha | ha
      · exact hG.above a ha
      · rw [List.mem_singleton.mp ha]; exact hIs
    · intro j b hj
      rcases Nat.lt_trichotomy j as.length with h1 | h1 | h1
      · rw [List.getElem?_append_left h1] at hj
        obtain ⟨x', y', e1, e2⟩ := hG.pairs j b hj
        have hb := hG.above b (List.mem_of_getElem? hj)
        exact ⟨x', y', e1, up b _ (Nat.ne_of_gt (Nat.lt_of_lt_of_le lS hb)) (hkp b _ (fun m => Nat.lt_irrefl _ (Nat.lt_of_lt_of_le (lw b m) hb)) e2)⟩
      · subst h1
        have hb : h.objs.size = b := by simpa using hj
        subst hb
        exact ⟨x, y, by rw [hal]; exact hP, up _ _ (Nat.ne_of_gt hSl) ht⟩
      · have hnone : (as ++ [h.objs.size])[j]? = none := List.getElem?_eq_none (by rw [List.length_append, List.length_singleton]; omega)
        rw [hnone] at hj; cases hj
    · have e1 : (h'.update S (Obj.mapSeq (·.push (Value.ref h.objs.size)))).get? h.objs.size = _ := up _ _ (Nat.ne_of_gt hSl) ht
      exact Nat.le_of_lt (Nat.lt_of_le_of_lt hIs (Heap.lt_size e1))
end
section
variable {prog : Program} {w : World} {A : Around} {E : Value → Shared → Prop} {s : Shared}
variable {R : Result → Shared → Prop} {b1 b2 : Bool} {z TI TO i1 i2 l1 l2 S : Addr} {xs ys : Array Value}
theorem zm_extend (hA : A.handled = none) (D : ZipApart z TI TO i1 i2 l1 l2) (hSo : S ∉ [z, TI, TO, i1, i2, l1, l2]) (hn : min xs.size ys.size ≤ sizeLine) (res : Value) (c₀ : Nat)
    (hz : IsZip s.heap z TI TO .none) (st : ZmSt b1 b2 z TI TO i1 i2 l1 l2 xs ys 0 s.heap) (lw : ∀ b ∈ ZlW z TO i1 i2, b < s.heap.objs.size) (hS : s.heap.get? S = some { cls := .type "list", data := .seq #[] c₀ })
    (hR : ∀ h' tk acc c as, (∀ b o, b ≠ S → b ∉ ZlW z TO i1 i2 → s.heap.get? b = some o → h'.get? b = some o) → h'.get? S = some { cls := .type "list", dict := none, data := .seq acc c, slots := #[] } → as.length = min xs.size ys.size → ZlG xs ys s.heap.objs.size h' as →
      acc.toList = as.map Value.ref → R (.ok (.ret res)) { s with heap := h', toks := tk }) :
    wpAny (model prog w) A.in1 (Builtin.List.listExtendWith (.ref S) (.ref z) res)
      (fun fin s' => match fin with | .done f => R (.ok f) s' | .again c' => c'.quiet = true ∧ codeAny (model prog w) A c' R s') (fun e s' => R (.error e) s') s := by
  have hSl : S < s.heap.objs.size := Heap.lt_size hS
  have hSz : S ≠ z := fun e => hSo (by rw [e]; exact List.mem_cons_self)
  have hT : s.TypeIs (.ref z) "zip" := ⟨_, hz, rfl⟩
  have key : ∀ (h : Heap) (c₁ tk : Nat), s.heap.objs.size ≤ h.objs.size → (∀ b o, b ≠ S → s.heap.get? b = some o → h.get? b = some o) →
      h.get? S = some { cls := .type "list", data := .seq #[] c₁ } → codeAny (model prog w) A (.builtin "list.extend.loop" ⟨[.ref S, .ref z, res], []⟩) R { s with heap := h, toks := tk } := by
    intro h c₁ tk hz hk hS₁
    refine zm_loop (s := s) (h₁ := s.heap) (lo := s.heap.objs.size) hA D hSo hn res hSl lw hR _ 0 h tk c₁ #[] [] (Nat.sub_zero _) (Nat.zero_le _) (st.keep hSo hk) (fun b o h1 _ e => hk b o h1 e) hS₁ rfl rfl ⟨List.Pairwise.nil, (fun _ ha => nomatch ha), (fun j a hj => by simp at hj)⟩ hz
  unfold Builtin.List.listExtendWith
  refine wpAny_bind (wpAny_typeOf (T := "zip") hT ?_)
  have h1 : Builtin.List.listSameRef (.ref S) (.ref z) = false := by simp [Builtin.List.listSameRef, hSz]
  have h2 : (Value.type "zip" == Value.type "list") = false := by decide
  have h3 : (Value.type "zip" == Value.type "tuple") = false := by decide
  simp only [h1, h2, h3, Bool.or_false, Bool.false_eq_true, if_false]
  refine wpAny_bind (wpAny_pyIter_zip hz ?_)
  refine wpAny_bind (wpAny_holding (zl_hint hT ?_))
  refine wpAny_ite_split (fun _ => ?_) (fun _ => wpAny_pure ⟨plainId_quiet PySem.F.plain_extend_loop _, key _ c₀ _ (Nat.le_refl _) (fun b o _ e => e) hS⟩)
  refine wpAny_bind (wpAny_rule ?_)
  refine wpAny_bind ?_
  show wpAny _ _ (updateSeq S (·.push .none) >>= fun _ => updateSeq S (·.pop)) _ _ _
  refine wpAny_bind (wpAny_updateSeq hS rfl ?_)
  have hS₂ := Heap.get?_update_self (Obj.mapSeq (·.push Value.none)) hS rfl
  refine wpAny_updateSeq (hz := by seq_fits) hS₂ rfl ?_
  have hS₃ := Heap.get?_update_self (Obj.mapSeq (·.pop)) hS₂ rfl
  refine wpAny_pure ⟨plainId_quiet PySem.F.plain_extend_loop _, key _ _ _ ?_ (fun b o hb e => ?_) hS₃⟩
  · exact Nat.le_of_eq (by rw [Heap.size_update, Heap.size_update])
  · exact (Heap.get?_update_other _ _ (Ne.symm hb)).trans ((Heap.get?_update_other _ _ (Ne.symm hb)).trans e)
theorem zm_init (hA : A.handled = none) (D : ZipApart z TI TO i1 i2 l1 l2) (hSo : S ∉ [z, TI, TO, i1, i2, l1, l2]) (hn : min xs.size ys.size ≤ sizeLine)
    (hz : IsZip s.heap z TI TO .none) (st : ZmSt b1 b2 z TI TO i1 i2 l1 l2 xs ys 0 s.heap) (lw : ∀ b ∈ ZlW z TO i1 i2, b < s.heap.objs.size) (hS : s.heap.get? S = some { cls := .type "list", data := .seq #[] })
    (hR : ∀ h' tk acc c as, (∀ b o, b ≠ S → b ∉ ZlW z TO i1 i2 → s.heap.get? b = some o → h'.get? b = some o) → h'.get? S = some { cls := .type "list", dict := none, data := .seq acc c, slots := #[] } → as.length = min xs.size ys.size → ZlG xs ys s.heap.objs.size h' as →
      acc.toList = as.map Value.ref → R (.ok (.ret .none)) { s with heap := h', toks := tk }) :
    wpAny (model prog w) A.in1 (Builtin.«list.__init__» ⟨[.ref S, .ref z], []⟩)
      (fun fin s' => match fin with | .done f => R (.ok f) s' | .again c' => c'.quiet = true ∧ codeAny (model prog w) A c' R s') (fun e s' => R (.error e) s') s := by
  have hSz : S ≠ z := fun e => hSo (by rw [e]; exact List.mem_cons_self)
  show wpAny _ _ (do let old ← Builtin.List.listItems (.ref S); Builtin.List.listUpdate (.ref S) (fun _ => #[]); letGo old.toList.reverse; Builtin.List.listExtendWith (.ref S) (.ref z) .none) _ _ s
  refine wpAny_bind ?_
  unfold Builtin.List.listItems
  refine wpAny_bind (wpAny_seqItems hS rfl (wpAny_pure ?_))
  show wpAny _ _ (updateSeq S (fun _ => #[]) >>= fun _ => letGo (#[] : Array Value).toList.reverse >>= fun _ => Builtin.List.listExtendWith (.ref S) (.ref z) .none) _ _ s
  refine wpAny_bind (wpAny_updateSeq hS rfl ?_)
  have hS₂ := Heap.get?_update_self (Obj.mapSeq (fun _ => (#[] : Array Value))) hS rfl
  have oth : ∀ b o, b ≠ S → s.heap.get? b = some o → (s.heap.update S (Obj.mapSeq (fun _ => (#[] : Array Value)))).get? b = some o :=
    fun b o hb e => (Heap.get?_update_other _ _ (Ne.symm hb)).trans e
  have hz' : (s.heap.update S (Obj.mapSeq (fun _ => (#[] : Array Value)))).objs.size = s.heap.objs.size := Heap.size_update ..
  refine wpAny_bind (wpAny_letGo ?_)
  refine zm_extend (s := { s with heap := s.heap.update S (Obj.mapSeq (fun _ => (#[] : Array Value))) }) hA D hSo hn .none _ (oth z _ (Ne.symm hSz) hz) (st.keep hSo oth) (by rw [hz']; exact lw) hS₂ fun h' tk acc c as hk hS' hl hG hacc => ?_
  rw [hz'] at hG
  exact hR h' tk acc c as (fun b o hb h2 e => hk b o hb h2 (oth b o hb e)) hS' hl hG hacc
theorem zm_call {Q : Value → Shared → Prop} (hA : A.handled = none) (D : ZipApart z TI TO i1 i2 l1 l2) (hlow : ∀ b ∈ [z, TI, TO, i1, i2, l1, l2], b < s.heap.objs.size) (hn : min xs.size ys.size ≤ sizeLine)
    (hz : IsZip s.heap z TI TO .none) (st : ZmSt b1 b2 z TI TO i1 i2 l1 l2 xs ys 0 s.heap)
    (hQ : ∀ h' tk acc c as, (∀ b o, b ∉ ZlW z TO i1 i2 → s.heap.get? b = some o → h'.get? b = some o) → h'.get? s.heap.objs.size = some { cls := .type "list", dict := none, data := .seq acc c, slots := #[] } → as.length = min xs.size ys.size → ZlG xs ys (s.heap.objs.size + 1) h' as →
      acc.toList = as.map Value.ref → Q (.ref s.heap.objs.size) { s with heap := h', toks := tk }) :
    wpAny (model prog w) A (call (.type "list") [.ref z]) Q E s := by
  have hSo : s.heap.objs.size ∉ [z, TI, TO, i1, i2, l1, l2] := fun m => Nat.lt_irrefl _ (hlow _ m)
  have lw : ∀ b ∈ ZlW z TO i1 i2, b < s.heap.objs.size := fun b m => hlow b (by
    simp only [ZlW, List.mem_cons, List.not_mem_nil, or_false] at m ⊢
    rcases m with e | e | e | e <;> simp [e])
  refine callType_codes (Q₁ := fun obj s₁ => obj = .ref s.heap.objs.size ∧ s₁ = { s with heap := s.heap.push { cls := .type "list", data := .seq #[] } }) PySem.F.called_list (PySem.F.typeCall_list_1 _) PySem.F.entry_list_init
    (code_list_new _ ⟨rfl, rfl⟩) fun obj s₁ h₁ => ?_
  obtain ⟨rfl, rfl⟩ := h₁
  have hS : (s.heap.push { cls := .type "list", data := .seq #[] }).get? s.heap.objs.size = some { cls := .type "list", data := .seq #[] } := Heap.get?_push_size _ rfl
  have hz' : (s.heap.push { cls := .type "list", data := .seq #[] }).objs.size = s.heap.objs.size + 1 := Heap.size_push ..
  refine ⟨⟨_, hS, rfl⟩, PySem.F.args_list_init_2 _ _, zm_init (A := A.in1) (s := { s with heap := s.heap.push { cls := .type "list", data := .seq #[] } }) hA D hSo hn (Heap.get?_push_of_some _ hz) (st.keep hSo fun b o _ e => Heap.get?_push_of_some _ e) (by rw [hz']; exact fun b m => Nat.lt_succ_of_lt (lw b m)) hS fun h' tk acc c as hk hS' hl hG hacc => ?_⟩
  rw [hz'] at hG
  exact ⟨rfl, hQ h' tk acc c as (fun b o h2 e => hk b o (Nat.ne_of_lt (Heap.lt_size e)) h2 (Heap.get?_push_of_some _ e)) hS' hl hG hacc⟩
end
end PySem.W

/-! list(zip(x, y)) of lists and tuples; a dict frozen in its variable; over the keys of a dict by tuples -/
namespace DL
open PySem PySem.Spec PyProof.Rows L2
section
variable {X : Cx}
def tListZipM (K : PySem.W.Frag) (ta : TA) : TE := fun σ H Q => ta σ H fun vs H1 => ∃ a b b1 b2 xs ys, vs = [.ref a, .ref b] ∧ ZM.SqX b1 K H1 a xs ∧ ZM.SqX b2 K H1 b ys ∧ min xs.length ys.length ≤ sizeLine ∧
  ∀ (S : Addr) (as : List Addr), as.length = min xs.length ys.length → as.Nodup → H1 S = none → (∀ t ∈ as, H1 t = none) → S ∉ as → Q (.ref S) (zpT (upd H1 S (.lst (as.map V.ref))) as (xs.zip ys))
theorem pe_listZipM {e e2 : Expr} {ta : TA} {p p2 pos pos2 : Pos} (hc : X.calm = true) (ha : PA X [e, e2] ta) (hg : Gl X "list") (hm : X.mg "list" = none) (hg2 : Gl X "zip") (hm2 : X.mg "zip" = none)
    (hs2 : starEach [e, e2] X.env = (false, eval e X.env) :: starEach [e2] X.env := by rfl) (hpl : (backTo pos2 (starEach [e2] X.env)).any (·.1) = false := by rfl)
    (hs : starEach [.Call (.Name "zip" p2) [e, e2] [] pos2] X.env = (false, eval (.Call (.Name "zip" p2) [e, e2] [] pos2) X.env) :: starEach [] X.env := by rfl) :
    PE X (.Call (.Name "list" p) [.Call (.Name "zip" p2) [e, e2] [] pos2] [] pos) (tListZipM X.K ta) := by
  refine ⟨fun pins s σ H Q I hq => ?_⟩
  have hv : bootBuiltins "list" = some (.type "list") := by decide +kernel
  refine wpAny_Call_Name_kw (ld_blt I hg hm hv ?_)
  refine PyProof.Rows.callWith_type1 ?_ hs rfl
  rw [hs]
  show wpAny _ _ (spliced ((false, eval (.Call (.Name "zip" p2) [e, e2] [] pos2) X.env) :: backTo pos (starEach [] X.env))) _ _ s
  refine Calls.spliced_cons ?_
  refine Call_ (ld_blt I hg2 hm2 PyProof.Rows.boot_zip (PyProof.Rows.callWith_type1 (thn (ha.run pos2 pins s σ H _ I hq) fun us s1 ⟨vs, H1, I1, r1, a, b, b1, b2, xs, ys, ex, hx, hy, hz, q⟩ => ?_) hs2 hpl))
  subst ex
  cases r1 with
  | cons r rr =>
    cases rr with
    | cons r' rr =>
      cases rr
      cases r
      cases r'
      obtain ⟨its, rv, p1⟩ := ZM.sq_get I1 hx
      obtain ⟨itt, rw', p2⟩ := ZM.sq_get I1 hy
      refine ZM.call_zipM p1 p2 fun h' hz' hTI hTO h1 h2 hk => ?_
      refine Calls.spliced_nil ?_
      have la := p1.lt
      have lb := p2.lt
      have D := PySem.W.ktu_apart s1.heap.objs.size a b la lb
      have e1 : its.toArray.size = xs.length := by rw [List.size_toArray]; exact rv.length.symm
      have e2 : itt.toArray.size = ys.length := by rw [List.size_toArray]; exact rw'.length.symm
      refine PySem.W.zm_call (s := { s1 with heap := h' }) (I1.ok.hd hc) D (fun c hc => ?_) (by rw [e1, e2]; exact hz) hz' ⟨hTI, h1, h2, p1.to fun o g => hk _ o g, p2.to fun o g => hk _ o g, _, _, _, _, hz', .inl rfl, hTO⟩ fun h2 tk acc c as hk2 hS hla hG hacc => ?_
      · show c < h'.objs.size
        have big : s1.heap.objs.size + 4 < h'.objs.size := Heap.lt_size hz'
        simp only [List.mem_cons, List.not_mem_nil, or_false] at hc
        have aN : (a : Nat) < s1.heap.objs.size := la
        have bN : (b : Nat) < s1.heap.objs.size := lb
        rcases hc with e | e | e | e | e | e | e <;> subst e
        · exact big
        · exact Nat.lt_of_le_of_lt (Nat.add_le_add_left (by decide) _) big
        · exact Nat.lt_of_le_of_lt (Nat.add_le_add_left (by decide) _) big
        · exact Nat.lt_of_le_of_lt (Nat.le_add_right _ _) big
        · exact Nat.lt_of_le_of_lt (Nat.add_le_add_left (by decide) _) big
        · exact Nat.lt_trans (Nat.lt_of_lt_of_le aN (Nat.le_add_right _ _)) big
        · exact Nat.lt_trans (Nat.lt_of_lt_of_le bN (Nat.le_add_right _ _)) big
      · have hk3 : ∀ b o, s1.heap.get? b = some o → h2.get? b = some o := fun b o hb => by
          have lb : (b : Nat) < s1.heap.objs.size := Heap.lt_size hb
          refine hk2 b o (fun m => ?_) (hk b o hb)
          simp only [PySem.W.ZlW, List.mem_cons, List.not_mem_nil, or_false] at m
          have no : ∀ k : Nat, b = s1.heap.objs.size + k → False := fun k e => by
            have e' : (b : Nat) = s1.heap.objs.size + k := e
            rw [e'] at lb
            exact absurd lb (Nat.not_lt.mpr (Nat.le_add_right _ _))
          rcases m with e | e | e | e
          · exact no 4 e
          · exact no 3 e
          · exact no 0 e
          · exact no 1 e
        rw [e1, e2] at hla
        have hS0 : s1.heap.objs.size ≤ h'.objs.size := Nat.le_of_lt (Nat.lt_of_le_of_lt (Nat.le_add_right _ _) (Heap.lt_size hz'))
        obtain ⟨k1, k2, k3, k4, J⟩ := zl_laid (tk := tk) I1 hz rv rw' hk3 hS0 hS hla hG hacc
        exact ⟨.ref _, _, J, rfl, q _ as hla k1 k2 k3 k4⟩

def dLZipM (ta : DTA) : DTE := fun env l Q => ta env l fun ds l1 => match ds with
  | [x, y] => match seqOf x with
    | some xs => match seqOf y with
      | some ys => (xs.length ≤ sizeLine ∨ ys.length ≤ sizeLine) ∧ Q (.lst (zipD xs ys)) l1
      | none => False
    | none => False
  | _ => False
theorem de_listZipM {e e2 : Expr} {ta : DTA} {p p2 pos pos2 : Pos} (hc : X.calm = true) (ha : DA X [e, e2] ta) (hg : Gl X "list") (hm : X.mg "list" = none) (hg2 : Gl X "zip") (hm2 : X.mg "zip" = none)
    (hs2 : starEach [e, e2] X.env = (false, eval e X.env) :: starEach [e2] X.env := by rfl) (hpl : (backTo pos2 (starEach [e2] X.env)).any (·.1) = false := by rfl)
    (hs : starEach [.Call (.Name "zip" p2) [e, e2] [] pos2] X.env = (false, eval (.Call (.Name "zip" p2) [e, e2] [] pos2) X.env) :: starEach [] X.env := by rfl) :
    DE X (.Call (.Name "list" p) [.Call (.Name "zip" p2) [e, e2] [] pos2] [] pos) (dLZipM ta) := by
  refine ⟨?_⟩
  intro F Fr env l σ H Q hE hR ht
  refine (pe_listZipM hc paW hg hm hg2 hm2 hs2 hpl hs).we ?_
  refine (ha F Fr env l σ H _ hE hR ht).mono fun vs H1 ⟨F1, ds, l1, s1, r1, R1, q1⟩ => ?_
  cases r1 with
  | nil => exact q1.elim
  | @cons d1 v1 _ _ ra rr =>
    cases rr with
    | nil => exact q1.elim
    | @cons d2 v2 _ _ rb rr =>
      cases rr with
      | cons _ _ => exact q1.elim
      | nil =>
        have q1 : match seqOf d1 with
          | some xs => match seqOf d2 with
            | some ys => (xs.length ≤ sizeLine ∨ ys.length ≤ sizeLine) ∧ Q (.lst (zipD xs ys)) l1
            | none => False
          | none => False := q1
        cases e1 : seqOf d1 with
        | none => rw [e1] at q1; exact q1.elim
        | some es =>
        rw [e1] at q1
        obtain ⟨a, b1, xs, rfl, h1, ra'⟩ := seq_rel ra e1
        cases e2 : seqOf d2 with
        | none => rw [e2] at q1; exact q1.elim
        | some fs =>
        rw [e2] at q1
        obtain ⟨b, b2, ys, rfl, h2, rb'⟩ := seq_rel rb e2
        have qa := sqX_mono R1.fz h1
        have qb := sqX_mono R1.fz h2
        obtain ⟨hz, q1⟩ := q1
        have la := ra'.length
        have lb := rb'.length
        refine ⟨a, b, b1, b2, xs, ys, rfl, qa, qb, by rw [la, lb] at hz; omega, fun S as hl nd nS nas hS => ?_⟩
        have R2 := R1.laid nS (.lst (as.map V.ref))
        obtain ⟨R3, S3⟩ := rep_zpT as (xs.zip ys) R2 (fun b hb => by
          have ne : b ≠ S := fun z => hS (by rw [← z]; exact hb)
          rw [upd_ne ne]
          exact nas b hb) nd
        have sm : Same F1 (zpT (upd F1 S (.lst (as.map V.ref))) as (xs.zip ys)) := (same_upd (R1.F_none nS)).trans S3
        have at_ := zpT_at as (xs.zip ys) (upd F1 S (.lst (as.map V.ref))) (by rw [List.length_zip]; exact hl) nd
        have eS : zpT (upd F1 S (.lst (as.map V.ref))) as (xs.zip ys) S = some (.lst (as.map V.ref)) := by rw [zpT_off as _ _ hS, upd_same]
        exact ⟨_, .lst (zipD es fs), l1, s1.trans sm, .lst eS (rel_zipV (ra'.mono sm) (rb'.mono sm) at_), R3, q1⟩
/-- the dict that a name stands for is not written any more -/
def dFzV (i : Nat) (te : DTE) : DTE := fun env l Q => ∃ a ks ds, nthE env i = some (.ref a) ∧ l a = some (.dT ks ds) ∧ te (env.set i (some (.dT ks ds))) (dL l a) Q
theorem de_fzV {e : Expr} {te : DTE} (i : Nat) (h : DE X e te) : DE X e (dFzV i te) := by
  refine ⟨?_⟩
  intro F Fr env l σ H Q hE hR ⟨a, ks, ds, hi, ho, ht⟩ pins s I
  obtain ⟨H', F', u, I2, s1, R2, r2, _⟩ := lock_dT I hR ho
  obtain ⟨v, hv, rv⟩ := hE.get hi
  cases rv
  refine thn (h F' Fr _ _ σ H' _ ((hE.mono s1).setD hv r2) R2 ht pins s I2) fun u s2 ⟨v, H1, I1, rv, F1, d, l1, s1', r1, R1, q1⟩ => ?_
  exact ⟨v, H1, I1, rv, F1, d, l1, s1.trans s1', r1, R1, q1⟩
def keysT (ks : List (List Key)) : List D := ks.map fun k => .tup (k.map keyV)
def iKeysT (te : DTE) : DTI := fun env l R => te env l fun d l1 => match d with
  | .dT ks _ => R (keysT ks) l1
  | _ => False
theorem jok_keysT {K : PySem.W.Frag} {F : Hp} {d : Addr} {od : Obj} {ks : List (List Key)} {vs : List V} (h : F d = some (.frz od (.dT (ks.zip vs)))) (hl : ks.length = vs.length) : JOk K F (Itkt d od (ks.zip vs)) (keysT ks) := by
  intro i F' Fr l H s R
  have hd := R.fz _ _ (s _ _ h)
  have hz : (ks.zip vs).length = ks.length := by rw [List.length_zip]; omega
  refine ⟨fun hi => ⟨hd, by unfold keysT at hi; rw [List.length_map] at hi; omega⟩, fun x hx => ?_⟩
  unfold keysT at hx
  have hi : i < ks.length := by
    have := (List.getElem?_eq_some_iff.mp hx).1
    rwa [List.length_map] at this
  refine ⟨⟨hd, by omega⟩, fun y H' q => ?_⟩
  obtain ⟨e, k, v, q, hk, ey, hq⟩ := q
  subst e ey
  rw [List.getElem?_map, List.getElem?_eq_getElem hi] at hx
  have e1 := (List.getElem?_zip_eq_some.mp hk).1
  rw [List.getElem?_eq_getElem hi] at e1
  cases e1
  cases hx
  obtain ⟨F2, s2, hF2, R2⟩ := R.tupIn hq
  exact ⟨F2, s2, .tup hF2 (keysV_rel _), R2⟩
theorem di_keysT {e : Expr} {te : DTE} {tg : Expr} (h : DE X e te) : DI X tg e (iKeysT te) := by
  refine ⟨?_⟩
  intro F Fr env l σ H R hE hR ht
  refine (pi_keys peW).wi ?_
  refine (h F Fr env l σ H _ hE hR ht).mono fun x H1 ⟨F1, d, l1, s1, rd, R1, q1⟩ => ?_
  cases rd with
  | dT h1 hl rr => exact ⟨_, _, rfl, .inr ⟨_, R1.fz _ _ h1, F1, l1, _, s1, R1, jok_keysT h1 hl, q1⟩⟩
  | _ => exact q1.elim
end
theorem newKV_ok {K : PySem.W.Frag} {F Fr H : Hp} {l : LH} {Q : DK} {p : Addr} {ks : List Key} {ds : List D} {vs : List V} (np : H p = none) (R : Rep K F Fr l H) (hl : ks.length = vs.length) (rr : RelDs K F ds vs) (q : newL (.dK ks ds) l Q) : LK K F Fr Q (.ref p) (upd H p (.dK (ks.zip vs))) :=
  ⟨F, .ref p, _, Same.refl F, .ref p, R.made np (show DOk K F _ p (.dK ks ds) from ⟨vs, rr, hl, upd_same⟩), q p (R.l_none np)⟩
def dDictPM (te : DTE) : DTE := fun env l Q => aCons te aNil env l fun ds l1 => match ds with
  | [.lst xs] => ∃ z, pairsD xs = some z ∧ z.1.Nodup ∧ newL (.dK z.1 z.2) l1 Q
  | _ => False
theorem de_dictPM {X : Cx} {e : Expr} {te : DTE} {pos p : Pos} (hc : X.calm = true) (hg : Gl X "dict") (hm : X.mg "dict" = none) (h : DE X e te)
    (he : starEach [e] X.env = (false, eval e X.env) :: starEach [] X.env := by rfl) (hpl : (backTo pos (starEach [] X.env)).any (·.1) = false := by rfl) : DE X (.Call (.Name "dict" p) [e] [] pos) (dDictPM te) := by
  refine ⟨?_⟩
  intro F Fr env l σ H Q hE hR ht
  have ha := da_cons h da_nil he
  have key : WE X (.Call (.Name "dict" p) [e] [] pos) σ H fun v H' => ∃ b F1 l1 ks us ds H1, v = .ref b ∧ H' = upd H1 b (.dK (ks.zip us)) ∧ H1 b = none ∧ Rep X.K F1 Fr l1 H1 ∧ Same F F1 ∧ RelDs X.K F1 ds us ∧ ks.length = us.length ∧ newL (.dK ks ds) l1 Q := by
    refine (pe_callTy (call_dictP hc) hg hm (by decide +kernel) paW (by decide) (by decide) he hpl).we ?_
    refine (ha F Fr env l σ H (fun ds l1 => match ds with | [.lst xs] => ∃ z, pairsD xs = some z ∧ z.1.Nodup ∧ newL (.dK z.1 z.2) l1 Q | _ => False) hE hR ht).mono fun vs H1 ⟨F1, ds, l1, s1, r1, R1, q1⟩ => ?_
    · cases r1 with
      | nil => exact q1.elim
      | @cons d v ds' vs' r2 rr =>
        cases rr with
        | cons _ _ => cases d <;> exact q1.elim
        | nil =>
          cases r2 with
          | @lst a ws xs h1 rx =>
            obtain ⟨z, hz, nd, q⟩ := q1
            obtain ⟨ps, us, e1, e2, e3, e4⟩ := pairs_rel rx hz
            subst e1
            refine ⟨a, ps, z.1.zip us, rfl, .inl (.inl (R1.fz _ _ h1)), ?_, fun b nb => ?_⟩
            · have go : ∀ {ps : List Addr} {kvs : List (Key × V)}, Paired (fun p kv => SqT X.K F1 p [kV kv.1, kv.2]) ps kvs → Paired (fun p kv => SqT X.K H1 p [kV kv.1, kv.2]) ps kvs := by
                intro ps kvs q
                induction q with
                | nil => exact .nil
                | cons a _ ih => exact .cons (sqT_mono R1.fz a) ih
              exact go e4
            · refine ⟨b, F1, l1, z.1, us, z.2, H1, rfl, ?_, nb, R1, s1, e2, e3, q⟩
              rw [merge_nd (acc := []) (by rw [List.nil_append, List.map_fst_zip (by omega)]; exact nd), List.nil_append]
          | _ => exact q1.elim
  intro pins s I
  refine thn (key pins s I) fun u s' ⟨x, H', I', rx, b, F1, l1, ks, us, ds, H1, e1, e2, nb, R1, s1, rr, hl, q⟩ => ?_
  subst e1 e2
  exact ⟨_, _, I', rx, (newKV_ok nb R1 hl rr q).weak s1⟩
/-! len of a dict by plain keys -/
def rLenDK : List V → Hp → VK → Prop := fun xs H Q => ∃ (p : Addr) (kvs : List (Key × V)), xs = [.ref p] ∧ Rd H p (.dK kvs) ∧ Q (.int ((kvs.length : Nat) : Int)) H
theorem cr_lenDK {X : Cx} : CallR X (.builtin "len") rLenDK := by
  intro pins s σ H xs us Q I r h
  obtain ⟨p, kvs, rfl, hp, q⟩ := h
  obtain ⟨u, rfl, rx⟩ := vals1 r
  obtain rfl : u = .ref p := rx
  exact d_len I hp fun t s' I' => ⟨.int ((kvs.length : Nat) : Int), H, I', ⟨_, rfl⟩, q⟩
def kLenDK : List D → LH → DK → Prop := fun ds l Q => match ds with
  | [.dK ks ds] => Q (.int ks.length) l
  | [.ref a] => getO l a fun o => match o with | .dK ks ds => Q (.int ks.length) l | _ => False
  | _ => False
theorem kLenDK_ok {X : Cx} : KCall X rLenDK kLenDK := by
  intro F Fr l H Q ds vs Q' R rd hq q
  have key : ∀ {p : Addr} {ks : List Key} {ds : List D} {vs : List V}, Rd H p (.dK (ks.zip vs)) → ks.length = vs.length → Q (.int ks.length) l → rLenDK [.ref p] H Q' := by
    intro p ks ds vs h hl q
    refine ⟨p, _, rfl, h, hq _ _ (LK.mk (.int _) R ?_)⟩
    rw [List.length_zip, ← hl, Nat.min_self]
    exact q
  cases rd with
  | nil => exact q.elim
  | cons r1 rr =>
    cases rr with
    | cons _ _ => cases r1 <;> exact q.elim
    | nil =>
      cases r1 with
      | @dK _ _ _ _ ds' h hl rr => exact key (ds := ds') (.inr ⟨_, R.fz _ _ h⟩) hl q
      | ref a =>
        obtain ⟨o, ho, q⟩ := q
        cases o with
        | dK ks ds =>
          obtain ⟨vs, rr, hl, hH⟩ := (R.lv _ _ ho).2
          exact key (ds := ds) (.inl hH) hl q
        | _ => exact q.elim
      | _ => exact q.elim
end DL

/-! sorted by the lambda, as a list that is to be written -/
namespace DL
open PySem PySem.Spec PyProof.Rows L2
def dSortLamM (te : DTE) : DTE := fun env l Q => te env l fun d l1 => match d with
  | .dT ks ds => ∃ ws : List (List Int), ks = ws.map tK ∧ (∀ w ∈ ws, w.length ≤ 1000) ∧ newL (.lst ((sortW ws ds).map pairW)) l1 Q
  | _ => False
section
variable {X : Cx} {e : Expr} {te : DTE} {pos p apos cpos kpos lpos : Pos} {k : Nat}
theorem de_sortLamM {c P : Addr} {a : Str} {params : Arguments} {scope : Scope} {j j2 : Nat} {x1} {p0 p1 p2 p3 p4 p5 p6 p7 p8 : Pos} (hr : Room k X.A) (hc : X.calm = true) (hg : Gl X "sorted") (hm : X.mg "sorted" = none) (hlen : X.mg "len" = none) (h : DE X e te)
    (TB : LamX.TabB X.base X.mg c P) (hcode : X.env.code = .ref c) (htab : tabOf X.K = [(P, X.env.qual ++ "<lambda>")]) (hdef : defaultsOf params X.env = ([], [])) (S : LamSc a scope) (hd : (a == ("__debug__" : Str)) = false)
    (hbind : ∀ (q : Str) (cl : List (Str × Addr)) (pm cv ctv v : Value), bindArgs (PySem.W.kla_fn "<lambda>" q params (.Tuple [.Call (.Name "len" p0) [.Subscript (.Name a p1) (.Constant (.int 0) j p2) p3] [] p4, .Subscript (.Name a p5) (.Constant (.int 0) j2 p6) p7] x1 p8) scope cl pm cv ctv) ⟨[v], []⟩ = pure [(a, v)])
    (hbase : attributeBase e "items" X.env (eval e X.env) = eval e X.env := by rfl) (hline : (apos.endLine == cpos.line) = true := by rfl)
    (na : starEach [.Call (.Attribute e "items" apos) [] [] cpos] X.env = (false, eval (.Call (.Attribute e "items" apos) [] [] cpos) X.env) :: starEach [] X.env := by rfl) :
    DE X (.Call (.Name "sorted" p) [.Call (.Attribute e "items" apos) [] [] cpos] [⟨some "key", .Lambda params (.Tuple [.Call (.Name "len" p0) [.Subscript (.Name a p1) (.Constant (.int 0) j p2) p3] [] p4, .Subscript (.Name a p5) (.Constant (.int 0) j2 p6) p7] x1 p8) scope lpos, kpos⟩] pos) (dSortLamM te) := by
  refine ⟨?_⟩
  intro F Fr env l σ H Q hE hR ht pins s I
  refine wpAny_Call_Name_kw (ld_blt I hg hm (show bootBuiltins "sorted" = some (.builtin "sorted") by decide +kernel) ?_)
  refine PyProof.Rows.callWith_kw (PyProof.Rows.args_cons ?_ na) (by rfl) (by rfl) (by rfl) (by rfl)
  refine wpAny_Call_method (T := "dict") (id := "dict.items") hbase rfl hline PySem.F.plainAttrs_dict PySem.F.slot_dict_items PySem.F.type_dict_items (thn (h F Fr env l σ H _ hE hR ht pins s I) fun u s1 ⟨x, H1, I1, rx, F1, d, l1, s1', rd, R1, q1⟩ => ?_)
  cases rd with
  | @dT pa od vs ks ds hF hl rr =>
    obtain ⟨ws, rfl, hw, q1⟩ := q1
    obtain rfl : u = Value.ref pa := rx
    obtain ⟨hsys, hgd, hx, es, ep, hdt, hsz, -⟩ := frzT2 I1 (R1.fz _ _ hF)
    refine ⟨⟨od, hgd, hx.1⟩, fun b hb => by cases hb; exact ⟨od, hgd, hx.2.1⟩, ?_⟩
    have raw : DT.Raw s1.heap pa es ep := ⟨od, hgd, hx, hdt⟩
    have nV : H1 s1.heap.objs.size = none := I1.hok.fresh (Nat.le_refl _)
    have I2 : Inv X pins σ (upd H1 s1.heap.objs.size (L2.DX.itemsO s1.heap.objs.size pa)) { s1 with heap := s1.heap.push { cls := .type "dict_items", data := .fields #[.ref pa] } } := I1.laid (t' := s1.toks) (fun b ob q => Heap.get?_push_of_some _ q) (Nat.le_refl _) (L2.DX.itemsO_ok (Heap.get?_push_size _ rfl))
    have R2 := R1.extra nV (L2.DX.itemsO s1.heap.objs.size pa)
    show wpAny _ _ (callWith cpos (.builtin "dict.items") [.ref pa] [] []) _ X.xe s1
    refine method_meetsIn PySem.F.slot_dict_items PySem.F.entry_dict_items rfl (PySem.evalArgs_none ⟨rfl, raw.typeIs, PySem.F.args_dict_items_1 _, _, DT.meetsItems (es := es) (ep := ep) hsys, raw, PyProof.Rows.args_nil ?_⟩)
    generalize hs2 : ({ s1 with heap := s1.heap.push { cls := .type "dict_items", data := .fields #[.ref pa] } } : Shared) = s2 at I2
    have V2 : (upd H1 s1.heap.objs.size (L2.DX.itemsO s1.heap.objs.size pa)) s1.heap.objs.size = some (L2.DX.itemsO s1.heap.objs.size pa) := upd_same
    generalize upd H1 s1.heap.objs.size (L2.DX.itemsO s1.heap.objs.size pa) = H2 at I2 R2 V2
    have hT : LamX.Tabs (tabOf X.K) H2 := R2.tb
    refine wpAny_evalAll_cons (wpAny_bind (LamX.lam_make2 (T := tabOf X.K) I2 TB hcode (by rw [htab]; exact List.mem_singleton.mpr rfl) (fun q hq _ => by rw [htab] at hq; rw [List.mem_singleton.mp hq]) hT hdef (fun y hy z => absurd z (S.nm y hy).2) fun f c' pm ctv H3 s3 I3 ex t3 hf hfn hfr hco => wpAny_bind (wpAny_standAt (wpAny_pure (wpAny_evalAll_nil ?_)))))
    have R3 := R2.lam ex t3
    obtain ⟨vw, _, _⟩ := I3.hok _ _ (ex _ _ V2 fun ps z => by cases z)
    obtain ⟨_, hgd3, hx3, es3, ep3, hdt3, hsz3, ent⟩ := frzT2 I3 (R3.fz _ _ hF)
    have raw3 : DT.Raw s3.heap pa es3 ep3 := ⟨od, hgd3, hx3, hdt3⟩
    have hL : sizeLine = 16777216 := sizeLine_eq
    have zl : ((ws.map tK).zip vs).length ≤ sizeLine := by
      obtain ⟨_, z, _⟩ := I1.hok _ _ (R1.fz _ _ hF)
      exact z
    have lv : vs.length = ws.length := by rw [← hl, List.length_map]
    have ld : ds.length = ws.length := by rw [rr.length, lv]
    have lz : ((ws.map tK).zip vs).length = ws.length := by rw [List.length_zip, List.length_map, lv, Nat.min_self]
    have lp : (ws.zip ds).length = ws.length := by rw [List.length_zip, ld, Nat.min_self]
    refine sortItemsKw (s := s3) (es := es3) (ep := ep3) (I1.ok.hd hc) vw raw3 (by rw [hsz3]; exact zl) (PyProof.Rows.ksk_s1 _ _) fun h' tk as hk hlt hla hG => ?_
    have las : as.length = ws.length := by omega
    have nd : as.Nodup := List.Pairwise.imp (fun h => Nat.ne_of_lt h) hG.rise
    -- the pairs as they lie there
    have pr : ∀ (j : Nat) b w d, as[j]? = some b → ws[j]? = some w → ds[j]? = some d → ∃ q v u, H3 q = some (.tup (w.map V.int)) ∧ RelD X.K F1 d v ∧ RelV v u ∧ h'.get? b = some { cls := .type "tuple", data := .seq #[.ref q, u] } := fun j b w d h1 h2 h3 => by
      obtain ⟨en, he, hgb⟩ := hG.pairs j b h1
      obtain ⟨v, hv, rv⟩ := rr.get h3
      obtain ⟨en', q, he', hkey, hq, ru⟩ := ent j (tK w) v (List.getElem?_zip_eq_some.mpr ⟨by rw [List.getElem?_map, h2]; rfl, hv⟩)
      rw [he] at he'
      cases he'
      rw [hkey] at hgb
      refine ⟨q, v, en.val, ?_, rv, ru, hgb⟩
      rw [hq]
      unfold tK
      rw [List.map_map]
      rfl
    generalize hh2 : h'.push { cls := .type "list", data := .seq (as.map Value.ref).toArray } = h2
    have hob : h2.get? h'.objs.size = some (seqObj "list" (as.map Value.ref).toArray 0) := by rw [← hh2]; exact Heap.get?_push_size _ rfl
    have up2 : ∀ b o, h'.get? b = some o → h2.get? b = some o := fun b o e => by rw [← hh2]; exact Heap.get?_push_of_some _ e
    have ne2 : ∀ b o, h'.get? b = some o → b ≠ h'.objs.size := fun b o e => Nat.ne_of_lt (Heap.lt_size e)
    have E1 : PySem.W.EachIs (fun (v : Value) (p : List Int × D) => ∃ (j : Nat) (b : Addr), v = .ref b ∧ as[j]? = some b ∧ ws[j]? = some p.1 ∧ ds[j]? = some p.2) (as.map Value.ref) (ws.zip ds) := each_getW (by rw [lp]; exact las) fun j b p h1 h2 => ⟨j, b, rfl, h1, (List.getElem?_zip_eq_some.mp h2).1, (List.getElem?_zip_eq_some.mp h2).2⟩
    have al : PySem.W.AllAlike ((ws.zip ds).map fun p => encW p.1) := fun d hd d' hd' => by
      obtain ⟨x, _, rfl⟩ := List.mem_map.mp hd
      obtain ⟨y, _, rfl⟩ := List.mem_map.mp hd'
      simp only [encW, PySem.W.alike, PySem.W.alikeAll, Bool.true_and, Bool.and_true]
      exact alike_intsW _ _
    have so : PySem.W.Sortable ((ws.zip ds).map fun p => encW p.1) := .inl fun d hd => by
      obtain ⟨x, _, rfl⟩ := List.mem_map.mp hd
      exact ⟨_, _, rfl⟩
    obtain ⟨mb, B1, B2⟩ := I3.mod.blt
    obtain ⟨⟨oc, vsc, tc, hoc, hdc, hvc⟩, _, _⟩ := I3.hok c' _ hco
    have fresh : ∀ b, b ∈ as → s3.heap.objs.size ≤ b := fun b hb => Nat.le_of_lt (hG.above b hb)
    refine PySem.W.list_sort_key_data (s := { s3 with heap := h2, toks := tk }) (b := false) (f := .ref f) (n := 0) (vs := as.map Value.ref) (bs := ws.zip ds) (fun p : List Int × D => encW p.1) hob E1 al so (by rw [lp]; omega) (fun x hx => ?_) (PyProof.Rows.ksk_l1 _ _) (PyProof.Rows.ksk_t1 _ _) (fun v x hR hx h tk2 kp => ?_) fun out n2 hE tk2 kp hLs ho E3 => ?_
    · have hd3 : (encW x.1).depth ≤ 3 := depth_encW _
      have hu := hr.un
      show X.A.units + 1 + 1 + _ < cLine
      omega
    · obtain ⟨i, b, rfl, h1, h3, h4⟩ := hR
      obtain ⟨q, v, u, hq, rv, ru, hgb⟩ := pr i b x.1 x.2 h1 h3 h4
      obtain ⟨its, rit, hti, hz⟩ : ∃ its : List Value, Vals (x.1.map V.int) its ∧ IsTup s3.heap q its.toArray ∧ x.1.length ≤ sizeLine := by
        obtain ⟨z, its, r, pl⟩ := I3.hok _ _ hq
        exact ⟨its, r, pl, by rw [List.length_map] at z; exact z⟩
      have up3 : ∀ b o, s3.heap.get? b = some o → h.get? b = some o := fun b o e => kp b o (ne2 _ _ (hk b o e)) (up2 _ _ (hk b o e))
      exact lam_key (s := { s3 with heap := h, toks := tk2 }) (mg := X.mg) (mb := mb) hr.depth (up3 _ _ hf) ⟨c', oc, vsc, tc, rfl, up3 _ _ hoc, hdc, hvc⟩ (I3.nolimit.keeps up3) (fun v => hbind _ _ _ _ _ v) S.kind S.co S.gen (fun x hx => (S.nm x hx).1) S.own S.len hd
        ((I3.mod.glob.keeps I3.bk).keeps up3) hlen ((B1.keeps I3.bk).keeps up3) ((B2 "len" (by decide)).trans rfl) ⟨_, kp _ _ (ne2 _ _ hgb) (up2 _ _ hgb), rfl, _, rfl⟩ (hti.keeps up3) rit hz
    · have oldF : ∀ b o, h'.get? b = some o → hE.get? b = some o := fun b o e => kp b o (ne2 _ _ e) (up2 _ _ e)
      have I4 : Inv X pins σ H3 { s3 with heap := hE, toks := tk2 } := I3.kept (t' := tk2) fun b o e => oldF _ _ (hk b o e)
      -- the pairs are tracked
      obtain ⟨zs, hzs⟩ : ∃ zs : List Pr, zs.map (·.b) = as ∧ zs.map (·.w) = ws ∧ RelDs X.K F1 ds (zs.map (·.v)) ∧ ∀ z ∈ zs, H3 z.q = some (.tup (z.w.map V.int)) ∧ ∃ u, RelV z.v u ∧ h'.get? z.b = some { cls := .type "tuple", data := .seq #[.ref z.q, u] } := prs_of las ld pr
      obtain ⟨z1, z2, z3, z4⟩ := hzs
      obtain ⟨H4, F4, I5, S4, R4, q4, k4⟩ := takeP I3 zs I4 R3 (by rw [z1]; exact nd) fun z hz => by
        have hm : z.b ∈ as := by rw [← z1]; exact List.mem_map.mpr ⟨z, hz, rfl⟩
        obtain ⟨y1, u, y2, y3⟩ := z4 z hz
        exact ⟨fresh _ hm, I3.hok.fresh (fresh _ hm), y1, u, y2, oldF _ _ y3⟩
      have nL : H4 h'.objs.size = none := by
        rw [k4 _ fun hm => ?_]
        · exact I3.hok.fresh (Nat.le_of_lt hlt)
        · rw [z1] at hm
          exact Nat.lt_irrefl _ (hG.there hm)
      obtain ⟨vs', v1, v2⟩ := rel_outW (K := X.K) (F := F4) (fun v p ⟨j, b, e1, e2, e3, e4⟩ => ⟨b, e1, by
        obtain ⟨z, hz⟩ : ∃ z, zs[j]? = some z := by
          have := e2
          rw [← z1, List.getElem?_map] at this
          cases q : zs[j]? with
          | none => rw [q] at this; cases this
          | some z => exact ⟨z, rfl⟩
        have eb : z.b = b := by have := e2; rw [← z1, List.getElem?_map, hz] at this; exact Option.some.inj this
        have ew : z.w = p.1 := by have := e3; rw [← z2, List.getElem?_map, hz] at this; exact Option.some.inj this
        obtain ⟨g1, g2⟩ := q4 z (List.mem_of_getElem? hz)
        obtain ⟨v', hv', rv'⟩ := z3.get e4
        have ev : z.v = v' := by rw [List.getElem?_map, hz] at hv'; exact Option.some.inj hv'
        rw [eb, ev] at g1
        rw [ew] at g2
        exact .tup g1 (.cons (.tup g2 (relInts _)) (.cons (rv'.mono S4) .nil))⟩) E3
      have lvs : vs'.length ≤ sizeLine := by
        rw [← v2.length, List.length_map, List.length_mergeSort, lp]
        omega
      have I6 : Inv X pins σ (upd H4 h'.objs.size (.lst vs')) { s3 with heap := hE, toks := tk2 } := I5.take (h' := hE) (t' := tk2) (fun b ob _ e => e) (I3.fpOk (Nat.le_of_lt hlt) nL) ⟨lvs, out, n2, v1, hLs⟩
      exact ⟨.ref h'.objs.size, _, I6, rfl, (LK.mut nL R4 v2 q1).weak (s1'.trans S4)⟩
  | _ => exact q1.elim
end
end DL

namespace Law
open PySem PySem.Spec PyProof.Rows L2 DL
def topS (i : Nat) : Stmt := PySem.Challenge.pw_bracketwords_k21_laid_together.main.body.getD i (.Pass ⟨0, 0, 0, 0⟩)
abbrev s__law_folded : Stmt := topS 7
abbrev N__law_folded : List Str := ["_law_script", "_law_size", "_law_cells", "_law_k", "_law_cell"]
abbrev p__law_folded : List Str := ["_law_script", "_law_size"]
theorem sc__law_folded : FnScope N__law_folded p__law_folded (defScope s__law_folded) := ⟨rfl, rfl, rfl, by decide +kernel, rfl, by decide +kernel, by decide +kernel⟩
abbrev s__law_box : Stmt := topS 5
abbrev N__law_box : List Str := ["_law_script", "_law_k", "_law_cell"]
abbrev p__law_box : List Str := ["_law_script", "_law_k"]
theorem sc__law_box : FnScope N__law_box p__law_box (defScope s__law_box) := ⟨rfl, rfl, rfl, by decide +kernel, rfl, by decide +kernel, by decide +kernel⟩
abbrev s__law_take : Stmt := topS 6
abbrev N__law_take : List Str := ["_law_box_here", "_law_size", "_law_found", "_law_step", "_law_once", "_law_twice"]
abbrev p__law_take : List Str := ["_law_box_here", "_law_size"]
theorem sc__law_take : FnScope N__law_take p__law_take (defScope s__law_take) := ⟨rfl, rfl, rfl, by decide +kernel, rfl, by decide +kernel, by decide +kernel⟩
abbrev s__law_plain : Stmt := topS 8
abbrev N__law_plain : List Str := ["_law_box_here", "_law_letters", "_law_most", "_law_k"]
abbrev p__law_plain : List Str := ["_law_box_here", "_law_letters", "_law_most"]
theorem sc__law_plain : FnScope N__law_plain p__law_plain (defScope s__law_plain) := ⟨rfl, rfl, rfl, by decide +kernel, rfl, by decide +kernel, by decide +kernel⟩
abbrev s__law_choices : Stmt := topS 9
abbrev N__law_choices : List Str := ["_law_many", "_law_size", "_law_found", "_law_turn", "_law_longer", "_law_one", "_law_k"]
abbrev p__law_choices : List Str := ["_law_many", "_law_size"]
theorem sc__law_choices : FnScope N__law_choices p__law_choices (defScope s__law_choices) := ⟨rfl, rfl, rfl, by decide +kernel, rfl, by decide +kernel, by decide +kernel⟩
abbrev s__law_word_of : Stmt := topS 10
abbrev N__law_word_of : List Str := ["_law_many", "_law_one", "_law_places", "_law_other", "_law_more", "_law_letters", "_law_place", "_law_letter", "_law_k"]
abbrev p__law_word_of : List Str := ["_law_many", "_law_one", "_law_places", "_law_other", "_law_more"]
theorem sc__law_word_of : FnScope N__law_word_of p__law_word_of (defScope s__law_word_of) := ⟨rfl, rfl, rfl, by decide +kernel, rfl, by decide +kernel, by decide +kernel⟩
abbrev s__law_due : Stmt := topS 11
abbrev N__law_due : List Str := ["_law_one", "_law_other", "_law_counts", "_law_many", "_law_places", "_law_more", "_law_word", "_law_size", "_law_times"]
abbrev p__law_due : List Str := ["_law_one", "_law_other"]
theorem sc__law_due : FnScope N__law_due p__law_due (defScope s__law_due) := ⟨rfl, rfl, rfl, by decide +kernel, rfl, by decide +kernel, by decide +kernel⟩
abbrev s_add_longer : Stmt := topS 1
abbrev N_add_longer : List Str := ["found", "letter", "counts", "word", "times", "longer"]
abbrev p_add_longer : List Str := ["found", "letter", "counts"]
theorem sc_add_longer : FnScope N_add_longer p_add_longer (defScope s_add_longer) := ⟨rfl, rfl, rfl, by decide +kernel, rfl, by decide +kernel, by decide +kernel⟩
abbrev s_laid_counts : Stmt := topS 2
abbrev N_laid_counts : List Str := ["one", "other", "found"]
abbrev p_laid_counts : List Str := ["one", "other"]
theorem sc_laid_counts : FnScope N_laid_counts p_laid_counts (defScope s_laid_counts) := ⟨rfl, rfl, rfl, by decide +kernel, rfl, by decide +kernel, by decide +kernel⟩
abbrev s_laid_together : Stmt := topS 3
abbrev N_laid_together : List Str := ["one", "other", "counts"]
abbrev p_laid_together : List Str := ["one", "other"]
theorem sc_laid_together : FnScope N_laid_together p_laid_together (defScope s_laid_together) := ⟨rfl, rfl, rfl, by decide +kernel, rfl, by decide +kernel, by decide +kernel⟩
abbrev s_law : Stmt := topS 12
abbrev N_law : List Str := ["_law_script", "_law_cells", "_law_k", "_law_box_here", "_law_turn", "_law_letters", "_law_size", "_law_one", "_law_other", "_law_due_here", "_law_found"]
abbrev p_law : List Str := ["_law_script"]
theorem sc_law : FnScope N_law p_law (defScope s_law) := ⟨rfl, rfl, rfl, by decide +kernel, rfl, by decide +kernel, by decide +kernel⟩
def B__law_folded_1 : DTS :=
  (sAsg (dAdd (dIx (dVar 2) (dMod (dVar 3) (dVar 1))) (dMul (dVar 4) (dAdd (dVar 3) (dC (.int 2))))) (gIx (dVar 2) (dMod (dVar 3) (dVar 1))))
def T__law_folded_3 : DTS :=
  (sRet (dFrz (dVar 2)))
def T__law_folded_2 : DTS :=
  (sSeq (sFor (iEnum (aCons (dSl (dVar 0) (oSm (dVar 1)) (oSm (dC (.int 63)))) aNil)) (gTup 2 (gCons (gName 3) (gCons (gName 4) gNil)))
  (nS B__law_folded_1))
  (nS T__law_folded_3))
def T__law_folded : DTS :=
  (sSeq (sSet 2 (dCall kListM (aCons (dSl (dVar 0) oNo (oSm (dVar 1))) aNil)))
  (nS T__law_folded_2))
abbrev D__law_folded : DSp := fnD T__law_folded 2 3
def T__law_box_m_2 : DTS :=
  (sRet (dLstM (aCons (dMul (dCall kAbs (aCons (dVar 2) aNil)) (dCall kInt1 (aCons (dGe (dCall kAbs (aCons (dVar 2) aNil)) (dPow (dC (.int 10)) (dC (.int 18)))) aNil))) (aCons (dMod (dMul (dAdd (dAdd (dMod (dVar 2) (dC (.int 2147483629))) (dMul (dC (.int 15485863)) (dVar 1))) (dC (.int 37))) (dC (.int 48271))) (dC (.int 2147483647))) (aCons (dC (.int 0)) aNil)))))
def T__law_box_m : DTS :=
  (sSeq (sSet 2 (dIf (dTV (dLt (dVar 1) (dCall kLen (aCons (dVar 0) aNil)))) (dIx (dVar 0) (dVar 1)) (dC (.int 0))))
  (nS T__law_box_m_2))
abbrev D__law_box_m : DSp := fnD T__law_box_m 2 1
def T__law_take_6 : DTS :=
  (sRet (dMod (dDiv (dMod (dMul (dVar 5) (dAdd (dMod (dVar 5) (dC (.int 1013))) (dC (.int 3)))) (dC (.int 998244353))) (dC (.int 16))) (dVar 1)))
def T__law_take_5 : DTS :=
  (sSeq (sSet 5 (dMod (dAdd (dMul (dVar 4) (dAdd (dMod (dVar 4) (dC (.int 30011))) (dC (.int 5)))) (dIx (dVar 0) (dC (.int 2)))) (dC (.int 2147483563))))
  (nS T__law_take_6))
def T__law_take_4 : DTS :=
  (sSeq (sSet 4 (dMod (dMul (dAdd (dIx (dVar 0) (dC (.int 1))) (dMul (dC (.int 39373)) (dIx (dVar 0) (dC (.int 2))))) (dVar 3)) (dC (.int 2147483587))))
  (nS T__law_take_5))
def T__law_take_3 : DTS :=
  (sSeq (sSet 3 (dAdd (dC (.int 69621)) (dMul (dIx (dVar 0) (dC (.int 2))) (dIx (dVar 0) (dC (.int 2))))))
  (nS T__law_take_4))
def T__law_take_2 : DTS :=
  (sSeq (sAsg (dAdd (dIx (dVar 0) (dC (.int 2))) (dC (.int 1))) (gIx (dVar 0) (dC (.int 2))))
  (nS T__law_take_3))
def T__law_take : DTS :=
  (sSeq (sIf (dTV (dGt (dIx (dVar 0) (dC (.int 0))) (dC (.int 0)))) (sSeq (sAsg (dCall kDivmod (aCons (dIx (dVar 0) (dC (.int 0))) (aCons (dVar 1) aNil))) (gTup 2 (gCons (gIx (dVar 0) (dC (.int 0))) (gCons (gName 2) gNil))))
  (sRet (dVar 2))) sNext)
  (nS T__law_take_2))
abbrev D__law_take : DSp := fnD T__law_take 2 4
def C__law_plain_1 : DTE :=
  (dAdd (dC (.int 1)) (dDef D__law_take (aCons (dVar 0) (aCons (dVar 1) aNil))))
def T__law_plain : DTS :=
  (sRet (dCall kTuple (aCons (dLc (iRg1 (aCons (dDef D__law_take (aCons (dVar 0) (aCons (dAdd (dVar 2) (dC (.int 1))) aNil))) aNil)) (gName 3) tYes (nE C__law_plain_1) [3]) aNil)))
abbrev D__law_plain : DSp := fnD T__law_plain 3 1
def C__law_choices_1 : DTE :=
  (dAdd (dVar 5) (dTup (aCons (dVar 6) aNil)))
def B__law_choices_1 : DTS :=
  (sSet 4 (dAdd (dVar 4) (dLc (iRg2 (aCons (dIf (dTV (dNe (dVar 5) (dTup aNil))) (dAdd (dIx (dVar 5) (dNeg (dC (.int 1)))) (dC (.int 1))) (dC (.int 0))) (aCons (dVar 0) aNil))) (gName 6) tYes (nE C__law_choices_1) [6])))
def B__law_choices_2 : DTS :=
  (sSeq (sSet 4 (dLst aNil))
  (sSeq (sFor (iSeq (dVar 2)) (gName 5)
  (nS B__law_choices_1))
  (sSet 2 (dVar 4))))
def T__law_choices_3 : DTS :=
  (sRet (dVar 2))
def T__law_choices_2 : DTS :=
  (sSeq (sFor (iRg1 (aCons (dVar 1) aNil)) (gName 3)
  (nS B__law_choices_2))
  (nS T__law_choices_3))
def T__law_choices : DTS :=
  (sSeq (sSet 2 (dC (.lst [.tup []])))
  (nS T__law_choices_2))
abbrev D__law_choices : DSp := fnD T__law_choices 2 5
def B__law_word_of_1 : DTS :=
  (sSeq (sIf (dTV (dNe (dGet2 (dVar 5) (dVar 6) (dVar 7)) (dVar 7))) (sRet (dC .non)) sNext)
  (sPutD (dVar 5) (dVar 6) (dVar 7)))
def C__law_word_of_1 : DTE :=
  (dGetD (dVar 5) (dVar 8))
def T__law_word_of_3 : DTS :=
  (sRet (dIf (dTV (dEq (dCall kLenDK (aCons (dVar 5) aNil)) (dVar 0))) (dCall kTuple (aCons (dLc (iRg1 (aCons (dVar 0) aNil)) (gName 8) tYes (nE C__law_word_of_1) [8]) aNil)) (dC .non)))
def T__law_word_of_2 : DTS :=
  (sSeq (sFor (iSeq (dLZipM (aCons (dVar 4) (aCons (dVar 3) aNil)))) (gTup 2 (gCons (gName 6) (gCons (gName 7) gNil)))
  (nS B__law_word_of_1))
  (nS T__law_word_of_3))
def T__law_word_of : DTS :=
  (sSeq (sSet 5 (dDictPM (dLZipM (aCons (dVar 2) (aCons (dVar 1) aNil)))))
  (nS T__law_word_of_2))
abbrev D__law_word_of : DSp := fnD T__law_word_of 5 4
def B__law_due_1 : DTS :=
  (sSeq (sSet 6 (dDef D__law_word_of (aCons (dVar 3) (aCons (dVar 0) (aCons (dVar 4) (aCons (dVar 1) (aCons (dVar 5) aNil)))))))
  (sIf (dTV (dNotN (dVar 6) (dC .non))) (sPutD (dVar 2) (dVar 6) (dAdd (dGet2 (dVar 2) (dVar 6) (dC (.int 0))) (dC (.int 1)))) sNext))
def B__law_due_2 : DTS :=
  (sFor (iSeq (dDef D__law_choices (aCons (dVar 3) (aCons (dCall kLen (aCons (dVar 1) aNil)) aNil)))) (gName 5)
  (nS B__law_due_1))
def B__law_due_3 : DTS :=
  (sFor (iSeq (dDef D__law_choices (aCons (dVar 3) (aCons (dCall kLen (aCons (dVar 0) aNil)) aNil)))) (gName 4)
  (nS B__law_due_2))
def C__law_due_1 : DTE :=
  (dTup (aCons (dCall kLen (aCons (dVar 6) aNil)) (aCons (dVar 6) (aCons (dGetD (dVar 2) (dVar 6)) aNil))))
def C__law_due_2 : DTE :=
  (dTup (aCons (dVar 6) (aCons (dVar 8) aNil)))
def T__law_due_3 : DTS :=
  (sRet (dFzV 2 (dLc (iSeq (dCall kSortD (aCons (dLc (iKeysT (dVar 2)) (gName 6) tYes (nE C__law_due_1) [6]) aNil))) (gTup 3 (gCons (gName 7) (gCons (gName 6) (gCons (gName 8) gNil)))) tYes (nE C__law_due_2) [7, 6, 8])))
def T__law_due_2 : DTS :=
  (sSeq (sFor (iRg2 (aCons (dCall kMax (aCons (dCall kLen (aCons (dVar 0) aNil)) (aCons (dCall kLen (aCons (dVar 1) aNil)) aNil))) (aCons (dAdd (dAdd (dCall kLen (aCons (dVar 0) aNil)) (dCall kLen (aCons (dVar 1) aNil))) (dC (.int 1))) aNil))) (gName 3)
  (nS B__law_due_3))
  (nS T__law_due_3))
def T__law_due : DTS :=
  (sSeq (sSet 2 dNewT)
  (nS T__law_due_2))
abbrev D__law_due : DSp := fnD T__law_due 2 7
def B_add_longer_1 : DTS :=
  (sSeq (sSet 5 (dAdd (dTup (aCons (dVar 1) aNil)) (dVar 3)))
  (sPutD (dVar 0) (dVar 5) (dAdd (dGet2 (dVar 0) (dVar 5) (dC (.int 0))) (dVar 4))))
def T_add_longer : DTS :=
  (sFor (iItemsT (dVar 2)) (gTup 2 (gCons (gName 3) (gCons (gName 4) gNil)))
  (nS B_add_longer_1))
abbrev D_add_longer : DSp := fnD T_add_longer 3 3
def T_laid_counts_7 (D_laid_counts_n : DSp) : DTS :=
  (sRet (dFz 1 (dVar 2)))
def T_laid_counts_6 (D_laid_counts_n : DSp) : DTS :=
  (sSeq (sIf (dTV (dEq (dIx (dVar 0) (dC (.int 0))) (dIx (dVar 1) (dC (.int 0))))) (sExpr (dDef D_add_longer (aCons (dVar 2) (aCons (dIx (dVar 0) (dC (.int 0))) (aCons (dDef D_laid_counts_n (aCons (dSl (dVar 0) (oSm (dC (.int 1))) oNo) (aCons (dSl (dVar 1) (oSm (dC (.int 1))) oNo) aNil))) aNil))))) sNext)
  (nS (T_laid_counts_7 D_laid_counts_n)))
def T_laid_counts_5 (D_laid_counts_n : DSp) : DTS :=
  (sSeq (sExpr (dDef D_add_longer (aCons (dVar 2) (aCons (dIx (dVar 1) (dC (.int 0))) (aCons (dDef D_laid_counts_n (aCons (dVar 0) (aCons (dSl (dVar 1) (oSm (dC (.int 1))) oNo) aNil))) aNil)))))
  (nS (T_laid_counts_6 D_laid_counts_n)))
def T_laid_counts_4 (D_laid_counts_n : DSp) : DTS :=
  (sSeq (sExpr (dDef D_add_longer (aCons (dVar 2) (aCons (dIx (dVar 0) (dC (.int 0))) (aCons (dDef D_laid_counts_n (aCons (dSl (dVar 0) (oSm (dC (.int 1))) oNo) (aCons (dVar 1) aNil))) aNil)))))
  (nS (T_laid_counts_5 D_laid_counts_n)))
def T_laid_counts_3 (D_laid_counts_n : DSp) : DTS :=
  (sSeq (sSet 2 dNewT)
  (nS (T_laid_counts_4 D_laid_counts_n)))
def T_laid_counts_2 (D_laid_counts_n : DSp) : DTS :=
  (sSeq (sIf (dTV (dEq (dCall kLen (aCons (dVar 1) aNil)) (dC (.int 0)))) (sRet (dFz 1 (dDispT (dVar 0) (dC (.int 1))))) sNext)
  (nS (T_laid_counts_3 D_laid_counts_n)))
def T_laid_counts (D_laid_counts_n : DSp) : DTS :=
  (sSeq (sIf (dTV (dEq (dCall kLen (aCons (dVar 0) aNil)) (dC (.int 0)))) (sRet (dFz 1 (dDispT (dVar 1) (dC (.int 1))))) sNext)
  (nS (T_laid_counts_2 D_laid_counts_n)))
def D_laid_counts : Nat → DSp
  | 0 => fun _ _ _ => False
  | n + 1 => fnD (T_laid_counts (D_laid_counts n)) 2 1
def T_laid_together_m_2 : DTS :=
  (sRet (dSortLamM (dVar 2)))
def T_laid_together_m : DTS :=
  (sSeq (sSet 2 (dDef (D_laid_counts 12) (aCons (dCall kTuple (aCons (dVar 0) aNil)) (aCons (dCall kTuple (aCons (dVar 1) aNil)) aNil))))
  (nS T_laid_together_m_2))
abbrev D_laid_together_m : DSp := fnD T_laid_together_m 2 1
def T_laid_together_2 : DTS :=
  (sRet (dSortLam (dVar 2)))
def T_laid_together : DTS :=
  (sSeq (sSet 2 (dDef (D_laid_counts 12) (aCons (dCall kTuple (aCons (dVar 0) aNil)) (aCons (dCall kTuple (aCons (dVar 1) aNil)) aNil))))
  (nS T_laid_together_2))
abbrev D_laid_together : DSp := fnD T_laid_together 2 1
def B_law_1 : DTS :=
  (sSeq (sPar 5 6 (aCons (dIx (dLst (aCons (dC (.int 2)) (aCons (dC (.int 4)) aNil))) (dDef D__law_take (aCons (dVar 3) (aCons (dC (.int 2)) aNil)))) (aCons (dDef D__law_take (aCons (dVar 3) (aCons (dC (.int 6)) aNil))) aNil)))
  (sSeq (sSet 7 (dDef D__law_plain (aCons (dVar 3) (aCons (dVar 5) (aCons (dVar 6) aNil)))))
  (sSeq (sSet 8 (dIf (dTV (dEq (dDef D__law_take (aCons (dVar 3) (aCons (dC (.int 4)) aNil))) (dC (.int 0)))) (dSl (dVar 7) oNo (oSm (dSub (dC (.int 5)) (dCall kLen (aCons (dVar 7) aNil))))) (dDef D__law_plain (aCons (dVar 3) (aCons (dVar 5) (aCons (dSub (dC (.int 5)) (dCall kLen (aCons (dVar 7) aNil))) aNil))))))
  (sSeq (sSet 9 (dCall kStr2 (aCons (dDef D__law_due (aCons (dVar 7) (aCons (dVar 8) aNil))) aNil)))
  (sSeq (sSet 10 (dDef D_laid_together_m (aCons (dVar 7) (aCons (dCall kListF (aCons (dVar 8) aNil)) aNil))))
  (sSeq (sIf (tBor [10] (tOr (tNot (dTV (dIsI .lst (dVar 10)))) (dTV (dNeS (dCall kStr2 (aCons (dVar 10) aNil)) (dVar 9))))) (sRet (dC (.bl false))) sNext)
  (sSeq (sExpr (dMt0 kReverse (dVar 10)))
  (sIf (tOr (dTV (dNeS (dCall kStr2 (aCons (dDef D_laid_together (aCons (dCall kListF (aCons (dVar 8) aNil)) (aCons (dVar 7) aNil))) aNil)) (dVar 9))) (dTV (dNeS (dCall kStr2 (aCons (dDef D_laid_together (aCons (dVar 7) (aCons (dVar 8) aNil))) aNil)) (dVar 9)))) (sRet (dC (.bl false))) sNext))))))))
def B_law_2 : DTS :=
  (sSeq (sSet 3 (dDef D__law_box_m (aCons (dVar 1) (aCons (dVar 2) aNil))))
  (sFor (iRg1 (aCons (dAdd (dC (.int 1)) (dDef D__law_take (aCons (dVar 3) (aCons (dC (.int 4)) aNil)))) aNil)) (gName 4)
  (nS B_law_1)))
def T_law_3 : DTS :=
  (sRet (dC (.bl true)))
def T_law_2 : DTS :=
  (sSeq (sFor (iRg1 (aCons (dCall kMax (aCons (dC (.int 1)) (aCons (dCall kLen (aCons (dVar 1) aNil)) aNil))) aNil)) (gName 2)
  (nS B_law_2))
  (nS T_law_3))
def T_law : DTS :=
  (sSeq (sSet 1 (dDef D__law_folded (aCons (dVar 0) (aCons (dC (.int 6)) aNil))))
  (nS T_law_2))
abbrev D_law : DSp := fnD T_law 1 10
structure Facts (K : PySem.W.Frag) (mg : Str → Option Value) where
  f__law_folded : Addr
  fd__law_folded : FuncData
  F__law_folded : Fun K "_law_folded" "_law_folded" s__law_folded f__law_folded fd__law_folded
  b__law_folded : Binds K fd__law_folded p__law_folded []
  g__law_folded : mg "_law_folded" = some (.ref f__law_folded)
  f__law_box : Addr
  fd__law_box : FuncData
  F__law_box : Fun K "_law_box" "_law_box" s__law_box f__law_box fd__law_box
  b__law_box : Binds K fd__law_box p__law_box []
  g__law_box : mg "_law_box" = some (.ref f__law_box)
  f__law_take : Addr
  fd__law_take : FuncData
  F__law_take : Fun K "_law_take" "_law_take" s__law_take f__law_take fd__law_take
  b__law_take : Binds K fd__law_take p__law_take []
  g__law_take : mg "_law_take" = some (.ref f__law_take)
  f__law_plain : Addr
  fd__law_plain : FuncData
  F__law_plain : Fun K "_law_plain" "_law_plain" s__law_plain f__law_plain fd__law_plain
  b__law_plain : Binds K fd__law_plain p__law_plain []
  g__law_plain : mg "_law_plain" = some (.ref f__law_plain)
  f__law_choices : Addr
  fd__law_choices : FuncData
  F__law_choices : Fun K "_law_choices" "_law_choices" s__law_choices f__law_choices fd__law_choices
  b__law_choices : Binds K fd__law_choices p__law_choices []
  g__law_choices : mg "_law_choices" = some (.ref f__law_choices)
  f__law_word_of : Addr
  fd__law_word_of : FuncData
  F__law_word_of : Fun K "_law_word_of" "_law_word_of" s__law_word_of f__law_word_of fd__law_word_of
  b__law_word_of : Binds K fd__law_word_of p__law_word_of []
  g__law_word_of : mg "_law_word_of" = some (.ref f__law_word_of)
  f__law_due : Addr
  fd__law_due : FuncData
  F__law_due : Fun K "_law_due" "_law_due" s__law_due f__law_due fd__law_due
  b__law_due : Binds K fd__law_due p__law_due []
  g__law_due : mg "_law_due" = some (.ref f__law_due)
  f_add_longer : Addr
  fd_add_longer : FuncData
  F_add_longer : Fun K "add_longer" "add_longer" s_add_longer f_add_longer fd_add_longer
  b_add_longer : Binds K fd_add_longer p_add_longer []
  g_add_longer : mg "add_longer" = some (.ref f_add_longer)
  f_laid_counts : Addr
  fd_laid_counts : FuncData
  F_laid_counts : Fun K "laid_counts" "laid_counts" s_laid_counts f_laid_counts fd_laid_counts
  b_laid_counts : Binds K fd_laid_counts p_laid_counts []
  g_laid_counts : mg "laid_counts" = some (.ref f_laid_counts)
  f_laid_together : Addr
  fd_laid_together : FuncData
  F_laid_together : Fun K "laid_together" "laid_together" s_laid_together f_laid_together fd_laid_together
  b_laid_together : Binds K fd_laid_together p_laid_together []
  g_laid_together : mg "laid_together" = some (.ref f_laid_together)
  f_law : Addr
  fd_law : FuncData
  F_law : Fun K "law" "law" s_law f_law fd_law
  b_law : Binds K fd_law p_law []
  g_law : mg "law" = some (.ref f_law)
  lc : Addr
  lP : Addr
  ltab : PySem.W.tabIn K lamMaker = some (lc, lP)
  lnn : PySem.W.nsIn K mainGlobals lamMaker = some (some (.ref f_laid_together))
  m_abs : mg "abs" = none
  m_dict : mg "dict" = none
  m_divmod : mg "divmod" = none
  m_enumerate : mg "enumerate" = none
  m_int : mg "int" = none
  m_isinstance : mg "isinstance" = none
  m_len : mg "len" = none
  m_list : mg "list" = none
  m_max : mg "max" = none
  m_range : mg "range" = none
  m_sorted : mg "sorted" = none
  m_str : mg "str" = none
  m_tuple : mg "tuple" = none
  m_zip : mg "zip" = none
section
variable {P : Program} {w : World} {K : PySem.W.Frag} {mg : Str → Option Value} {base : Heap} [HasTB K mg base]
theorem ok__law_folded (T : Facts K mg) : FnG P w K mg base 1 T.f__law_folded T.fd__law_folded p__law_folded D__law_folded := by
  refine fn_ok T.F__law_folded sc__law_folded rfl fun cdv A outer s H E hr hgd => ?_
  refine dss_cons ?_ ?_
  · exact (ds_set (i := 2) sc__law_folded.nd rfl (.inl rfl) (de_callT call_list_of kListM_ok (by rfl) T.m_list (by decide +kernel) (da_cons (de_sl (de_var 0) dp_no (dp_sm (de_var 1))) da_nil)))
  refine dss_nS ?_
  refine dss_cons ?_ ?_
  · exact (ds_for (vs := [3, 4]) PassesOwn.never rfl (di_enum (by rfl) T.m_enumerate (da_cons (de_sl (de_var 0) (dp_sm (de_var 1)) (dp_sm de_int)) da_nil)) (dg_tup rfl (dgs_cons (dg_name (i := 3) sc__law_folded.nd rfl (.inl rfl) (by decide)) (dgs_cons (dg_name (i := 4) sc__law_folded.nd rfl (.inl rfl) (by decide)) dgs_nil)))
      (dss_nS (dss_one (ds_asg (vs := []) (de_add (de_ix (de_var 2) (de_mod (de_var 3) (de_var 1))) (de_mul (de_var 4) (de_add (de_var 3) de_int))) (dg_sub set_list kSetL_ok (de_var 2) (de_mod (de_var 3) (de_var 1)))))))
  refine dss_nS ?_
  refine dss_one ?_
  exact (ds_ret (de_frz (de_var 2)))
theorem ok__law_box_m (T : Facts K mg) : FnG P w K mg base 1 T.f__law_box T.fd__law_box p__law_box D__law_box_m := by
  refine fn_ok T.F__law_box sc__law_box rfl fun cdv A outer s H E hr hgd => ?_
  refine dss_cons ?_ ?_
  · exact (ds_set (i := 2) sc__law_box.nd rfl (.inl rfl) (de_if (dt_lt hr.units0 (de_var 1) (de_len (by rfl) T.m_len (de_var 0))) (de_ix (de_var 0) (de_var 1)) de_int))
  refine dss_nS ?_
  refine dss_one ?_
  exact (ds_ret (de_lstM (da_cons (de_mul (de_callB call_abs kAbs_ok (by rfl) T.m_abs (by decide +kernel) (da_cons (de_var 2) da_nil)) (de_callT call_int1 kInt1_ok (by rfl) T.m_int (by decide +kernel) (da_cons (de_ge (de_callB call_abs kAbs_ok (by rfl) T.m_abs (by decide +kernel) (da_cons (de_var 2) da_nil)) (de_pow de_int de_int)) da_nil))) (da_cons (de_mod (de_mul (de_add (de_add (de_mod (de_var 2) de_int) (de_mul de_int (de_var 1))) de_int) de_int) de_int) (da_cons de_int da_nil)))))
theorem ok__law_take (T : Facts K mg) : FnG P w K mg base 1 T.f__law_take T.fd__law_take p__law_take D__law_take := by
  refine fn_ok T.F__law_take sc__law_take rfl fun cdv A outer s H E hr hgd => ?_
  refine dss_cons ?_ ?_
  · exact (ds_if (dt_gt (de_ix (de_var 0) de_int) de_int) (dss_cons (ds_asg (vs := [2]) (de_callB call_divmod kDivmod_ok (by rfl) T.m_divmod (by decide +kernel) (da_cons (de_ix (de_var 0) de_int) (da_cons (de_var 1) da_nil))) (dg_tup rfl (dgs_cons (dg_sub set_list kSetL_ok (de_var 0) de_int) (dgs_cons (dg_name (i := 2) sc__law_take.nd rfl (.inl rfl) (by decide)) dgs_nil))))
      (dss_one (ds_ret (de_var 2)))) dss_nil)
  refine dss_nS ?_
  refine dss_cons ?_ ?_
  · exact (ds_asg (vs := []) (de_add (de_ix (de_var 0) de_int) de_int) (dg_sub set_list kSetL_ok (de_var 0) de_int))
  refine dss_nS ?_
  refine dss_cons ?_ ?_
  · exact (ds_set (i := 3) sc__law_take.nd rfl (.inl rfl) (de_add de_int (de_mul (de_ix (de_var 0) de_int) (de_ix (de_var 0) de_int))))
  refine dss_nS ?_
  refine dss_cons ?_ ?_
  · exact (ds_set (i := 4) sc__law_take.nd rfl (.inl rfl) (de_mod (de_mul (de_add (de_ix (de_var 0) de_int) (de_mul de_int (de_ix (de_var 0) de_int))) (de_var 3)) de_int))
  refine dss_nS ?_
  refine dss_cons ?_ ?_
  · exact (ds_set (i := 5) sc__law_take.nd rfl (.inl rfl) (de_mod (de_add (de_mul (de_var 4) (de_add (de_mod (de_var 4) de_int) de_int)) (de_ix (de_var 0) de_int)) de_int))
  refine dss_nS ?_
  refine dss_one ?_
  exact (ds_ret (de_mod (de_div (de_mod (de_mul (de_var 5) (de_add (de_mod (de_var 5) de_int) de_int)) de_int) de_int) (de_var 1)))
theorem ok__law_plain (T : Facts K mg) : FnG P w K mg base 2 T.f__law_plain T.fd__law_plain p__law_plain D__law_plain := by
  refine fn_ok T.F__law_plain sc__law_plain rfl fun cdv A outer s H E hr hgd => ?_
  refine dss_one ?_
  exact (ds_ret (de_callT call_tuple_of kTuple_ok (by rfl) T.m_tuple (by decide +kernel) (da_cons (de_lc (own := [("_law_k", 3)]) rfl sc__law_plain.nd (di_range1 (by rfl) T.m_range (da_cons (de_call (ok__law_take (base := base) T) (hr.mono (by decide)) hgd (by rfl) T.g__law_take T.F__law_take.kp T.b__law_take (da_cons (de_var 0) (da_cons (de_add (de_var 2) de_int) da_nil))) da_nil)) (blkOk_by (N := N__law_plain) (sc := defScope s__law_plain) (by decide +kernel)) (fun _ _ _ _ _ => (dg_name (i := 3) sc__law_plain.nd rfl (.inl rfl) (by decide))) (fun _ _ _ _ _ => dts_nil) (fun _ _ _ _ _ => (de_nE (de_add de_int (de_call (ok__law_take (base := base) T) (hr.mono (by decide)) hgd (by rfl) T.g__law_take T.F__law_take.kp T.b__law_take (da_cons (de_var 0) (da_cons (de_var 1) da_nil))))))) da_nil)))
theorem ok__law_choices (T : Facts K mg) : FnG P w K mg base 1 T.f__law_choices T.fd__law_choices p__law_choices D__law_choices := by
  refine fn_ok T.F__law_choices sc__law_choices rfl fun cdv A outer s H E hr hgd => ?_
  refine dss_cons ?_ ?_
  · exact (ds_set (i := 2) sc__law_choices.nd rfl (.inl rfl) (de_lit (d := .lst [.tup []]) 4 (by decide +kernel)))
  refine dss_nS ?_
  refine dss_cons ?_ ?_
  · exact (ds_for (vs := [3]) PassesOwn.never rfl (di_range1 (by rfl) T.m_range (da_cons (de_var 1) da_nil)) (dg_name (i := 3) sc__law_choices.nd rfl (.inl rfl) (by decide))
      (dss_nS (dss_cons (ds_set (i := 4) sc__law_choices.nd rfl (.inl rfl) (de_lst da_nil))
      (dss_cons (ds_for (vs := [5]) PassesOwn.never rfl (di_seq (de_var 2)) (dg_name (i := 5) sc__law_choices.nd rfl (.inr rfl) (by decide))
      (dss_nS (dss_one (ds_set (i := 4) sc__law_choices.nd rfl (.inl rfl) (de_add (de_var 4) (de_lc (own := [("_law_k", 6)]) rfl sc__law_choices.nd (di_range2 (by rfl) T.m_range (da_cons (de_if (dt_ne hr.units (de_var 5) (de_tup da_nil)) (de_add (de_ix (de_var 5) (de_neg de_int)) de_int) de_int) (da_cons (de_var 0) da_nil))) (blkOk_by (N := N__law_choices) (sc := defScope s__law_choices) (by decide +kernel)) (fun _ _ _ _ _ => (dg_name (i := 6) sc__law_choices.nd rfl (.inl rfl) (by decide))) (fun _ _ _ _ _ => dts_nil) (fun _ _ _ _ _ => (de_nE (de_add (de_var 5) (de_tup (da_cons (de_var 6) da_nil)))))))))))
      (dss_one (ds_set (i := 2) sc__law_choices.nd rfl (.inl rfl) (de_var 4)))))))
  refine dss_nS ?_
  refine dss_one ?_
  exact (ds_ret (de_var 2))
theorem ok__law_word_of (T : Facts K mg) : FnG P w K mg base 1 T.f__law_word_of T.fd__law_word_of p__law_word_of D__law_word_of := by
  refine fn_ok T.F__law_word_of sc__law_word_of rfl fun cdv A outer s H E hr hgd => ?_
  refine dss_cons ?_ ?_
  · exact (ds_set (i := 5) sc__law_word_of.nd rfl (.inr rfl) (de_dictPM rfl (by rfl) T.m_dict (de_listZipM rfl (da_cons (de_var 2) (da_cons (de_var 1) da_nil)) (by rfl) T.m_list (by rfl) T.m_zip)))
  refine dss_nS ?_
  refine dss_cons ?_ ?_
  · exact (ds_for (vs := [6, 7]) PassesOwn.never rfl (di_seq (de_listZipM rfl (da_cons (de_var 4) (da_cons (de_var 3) da_nil)) (by rfl) T.m_list (by rfl) T.m_zip)) (dg_tup rfl (dgs_cons (dg_name (i := 6) sc__law_word_of.nd rfl (.inl rfl) (by decide)) (dgs_cons (dg_name (i := 7) sc__law_word_of.nd rfl (.inl rfl) (by decide)) dgs_nil)))
      (dss_nS (dss_cons (ds_if (dt_ne hr.units (de_get2 hr (de_var 5) (de_var 6) (de_var 7) (by constructor <;> rfl)) (de_var 7)) (dss_one (ds_ret de_non)) dss_nil)
      (dss_one (ds_putD hr (de_var 5) (de_var 6) (de_var 7))))))
  refine dss_nS ?_
  refine dss_one ?_
  exact (ds_ret (de_if (dt_eq hr.units (de_callB cr_lenDK kLenDK_ok (by rfl) T.m_len (by decide +kernel) (da_cons (de_var 5) da_nil)) (de_var 0)) (de_callT call_tuple_of kTuple_ok (by rfl) T.m_tuple (by decide +kernel) (da_cons (de_lc (own := [("_law_k", 8)]) rfl sc__law_word_of.nd (di_range1 (by rfl) T.m_range (da_cons (de_var 0) da_nil)) (blkOk_by (N := N__law_word_of) (sc := defScope s__law_word_of) (by decide +kernel)) (fun _ _ _ _ _ => (dg_name (i := 8) sc__law_word_of.nd rfl (.inl rfl) (by decide))) (fun _ _ _ _ _ => dts_nil) (fun _ _ _ _ _ => (de_nE (de_getD hr (de_var 5) (de_var 8))))) da_nil)) de_non))
theorem ok__law_due (T : Facts K mg) : FnG P w K mg base 2 T.f__law_due T.fd__law_due p__law_due D__law_due := by
  refine fn_ok T.F__law_due sc__law_due rfl fun cdv A outer s H E hr hgd => ?_
  refine dss_cons ?_ ?_
  · exact (ds_set (i := 2) sc__law_due.nd rfl (.inr rfl) (de_newT))
  refine dss_nS ?_
  refine dss_cons ?_ ?_
  · exact (ds_for (vs := [3]) PassesOwn.never rfl (di_range2 (by rfl) T.m_range (da_cons (de_callB (call_max2 rfl) kMax_ok (by rfl) T.m_max (by decide +kernel) (da_cons (de_len (by rfl) T.m_len (de_var 0)) (da_cons (de_len (by rfl) T.m_len (de_var 1)) da_nil))) (da_cons (de_add (de_add (de_len (by rfl) T.m_len (de_var 0)) (de_len (by rfl) T.m_len (de_var 1))) de_int) da_nil))) (dg_name (i := 3) sc__law_due.nd rfl (.inl rfl) (by decide))
      (dss_nS (dss_one (ds_for (vs := [4]) PassesOwn.never rfl (di_seq (de_call (ok__law_choices (base := base) T) (hr.mono (by decide)) hgd (by rfl) T.g__law_choices T.F__law_choices.kp T.b__law_choices (da_cons (de_var 3) (da_cons (de_len (by rfl) T.m_len (de_var 0)) da_nil)))) (dg_name (i := 4) sc__law_due.nd rfl (.inl rfl) (by decide))
      (dss_nS (dss_one (ds_for (vs := [5]) PassesOwn.never rfl (di_seq (de_call (ok__law_choices (base := base) T) (hr.mono (by decide)) hgd (by rfl) T.g__law_choices T.F__law_choices.kp T.b__law_choices (da_cons (de_var 3) (da_cons (de_len (by rfl) T.m_len (de_var 1)) da_nil)))) (dg_name (i := 5) sc__law_due.nd rfl (.inl rfl) (by decide))
      (dss_nS (dss_cons (ds_set (i := 6) sc__law_due.nd rfl (.inl rfl) (de_call (ok__law_word_of (base := base) T) (hr.mono (by decide)) hgd (by rfl) T.g__law_word_of T.F__law_word_of.kp T.b__law_word_of (da_cons (de_var 3) (da_cons (de_var 0) (da_cons (de_var 4) (da_cons (de_var 1) (da_cons (de_var 5) da_nil)))))))
      (dss_one (ds_if (dt_notN (de_var 6) de_non) (dss_one (ds_putD hr (de_var 2) (de_var 6) (de_add (de_get2 hr (de_var 2) (de_var 6) de_int (by constructor <;> rfl)) de_int))) dss_nil)))))))))))
  refine dss_nS ?_
  refine dss_one ?_
  exact (ds_ret (de_fzV 2 (de_lc (own := [("_law_size", 7), ("_law_word", 6), ("_law_times", 8)]) rfl sc__law_due.nd (di_seq (de_callB (cr_sortD hr) kSortD_ok (by rfl) T.m_sorted (by decide +kernel) (da_cons (de_lc (own := [("_law_word", 6)]) rfl sc__law_due.nd (di_keysT (de_var 2)) (blkOk_by (N := N__law_due) (sc := defScope s__law_due) (by decide +kernel)) (fun _ _ _ _ _ => (dg_name (i := 6) sc__law_due.nd rfl (.inl rfl) (by decide))) (fun _ _ _ _ _ => dts_nil) (fun _ _ _ _ _ => (de_nE (de_tup (da_cons (de_len (by rfl) T.m_len (de_var 6)) (da_cons (de_var 6) (da_cons (de_getD hr (de_var 2) (de_var 6)) da_nil))))))) da_nil))) (blkOk_by (N := N__law_due) (sc := defScope s__law_due) (by decide +kernel)) (fun _ _ _ _ _ => (dg_tup rfl (dgs_cons (dg_name (i := 7) sc__law_due.nd rfl (.inl rfl) (by decide)) (dgs_cons (dg_name (i := 6) sc__law_due.nd rfl (.inl rfl) (by decide)) (dgs_cons (dg_name (i := 8) sc__law_due.nd rfl (.inl rfl) (by decide)) dgs_nil))))) (fun _ _ _ _ _ => dts_nil) (fun _ _ _ _ _ => (de_nE (de_tup (da_cons (de_var 6) (da_cons (de_var 8) da_nil))))))))
theorem ok_add_longer (T : Facts K mg) : FnG P w K mg base 1 T.f_add_longer T.fd_add_longer p_add_longer D_add_longer := by
  refine fn_ok T.F_add_longer sc_add_longer rfl fun cdv A outer s H E hr hgd => ?_
  refine dss_one ?_
  exact (ds_for (vs := [3, 4]) PassesOwn.never rfl (di_itemsT (de_var 2)) (dg_tup rfl (dgs_cons (dg_name (i := 3) sc_add_longer.nd rfl (.inl rfl) (by decide)) (dgs_cons (dg_name (i := 4) sc_add_longer.nd rfl (.inl rfl) (by decide)) dgs_nil)))
      (dss_nS (dss_cons (ds_set (i := 5) sc_add_longer.nd rfl (.inl rfl) (de_add (de_tup (da_cons (de_var 1) da_nil)) (de_var 3)))
      (dss_one (ds_putD hr (de_var 0) (de_var 5) (de_add (de_get2 hr (de_var 0) (de_var 5) de_int (by constructor <;> rfl)) (de_var 4)))))))
theorem ok_laid_counts (T : Facts K mg) : ∀ n, FnG P w K mg base (1 + n) T.f_laid_counts T.fd_laid_counts p_laid_counts (D_laid_counts n)
  | 0 => ⟨fun ds l Q h => h.elim, fun A outer s H args us vs Q E hr hg e hb r ⟨F, Fr, ds, l, Qd, a, b, c, d⟩ => c.elim⟩
  | n + 1 => by
    refine fn_ok (k := 1 + n) T.F_laid_counts sc_laid_counts rfl fun cdv A outer s H E hr hgd => ?_
    refine dss_cons ?_ ?_
    · exact (ds_if (dt_eq hr.units (de_len (by rfl) T.m_len (de_var 0)) de_int) (dss_one (ds_ret (de_fz 1 (de_dispT hr (de_var 1) de_int)))) dss_nil)
    refine dss_nS ?_
    refine dss_cons ?_ ?_
    · exact (ds_if (dt_eq hr.units (de_len (by rfl) T.m_len (de_var 1)) de_int) (dss_one (ds_ret (de_fz 1 (de_dispT hr (de_var 0) de_int)))) dss_nil)
    refine dss_nS ?_
    refine dss_cons ?_ ?_
    · exact (ds_set (i := 2) sc_laid_counts.nd rfl (.inl rfl) (de_newT))
    refine dss_nS ?_
    refine dss_cons ?_ ?_
    · exact (ds_expr (de_call (ok_add_longer (base := base) T) (hr.mono (by omega)) hgd (by rfl) T.g_add_longer T.F_add_longer.kp T.b_add_longer (da_cons (de_var 2) (da_cons (de_ix (de_var 0) de_int) (da_cons (de_call (ok_laid_counts T n) (hr.mono (by omega)) hgd (by rfl) T.g_laid_counts T.F_laid_counts.kp T.b_laid_counts (da_cons (de_sl (de_var 0) (dp_sm de_int) dp_no) (da_cons (de_var 1) da_nil))) da_nil)))))
    refine dss_nS ?_
    refine dss_cons ?_ ?_
    · exact (ds_expr (de_call (ok_add_longer (base := base) T) (hr.mono (by omega)) hgd (by rfl) T.g_add_longer T.F_add_longer.kp T.b_add_longer (da_cons (de_var 2) (da_cons (de_ix (de_var 1) de_int) (da_cons (de_call (ok_laid_counts T n) (hr.mono (by omega)) hgd (by rfl) T.g_laid_counts T.F_laid_counts.kp T.b_laid_counts (da_cons (de_var 0) (da_cons (de_sl (de_var 1) (dp_sm de_int) dp_no) da_nil))) da_nil)))))
    refine dss_nS ?_
    refine dss_cons ?_ ?_
    · exact (ds_if (dt_eq hr.units (de_ix (de_var 0) de_int) (de_ix (de_var 1) de_int)) (dss_one (ds_expr (de_call (ok_add_longer (base := base) T) (hr.mono (by omega)) hgd (by rfl) T.g_add_longer T.F_add_longer.kp T.b_add_longer (da_cons (de_var 2) (da_cons (de_ix (de_var 0) de_int) (da_cons (de_call (ok_laid_counts T n) (hr.mono (by omega)) hgd (by rfl) T.g_laid_counts T.F_laid_counts.kp T.b_laid_counts (da_cons (de_sl (de_var 0) (dp_sm de_int) dp_no) (da_cons (de_sl (de_var 1) (dp_sm de_int) dp_no) da_nil))) da_nil)))))) dss_nil)
    refine dss_nS ?_
    refine dss_one ?_
    exact (ds_ret (de_fz 1 (de_var 2)))
theorem ok_laid_together_m (T : Facts K mg) : FnG P w K mg base 14 T.f_laid_together T.fd_laid_together p_laid_together D_laid_together_m := by
  refine fn_okL T.F_laid_together T.lnn T.ltab sc_laid_together rfl fun A outer s H E hr hgd => ?_
  refine dss_cons ?_ ?_
  · exact (ds_set (i := 2) sc_laid_together.nd rfl (.inl rfl) (de_call (ok_laid_counts (base := base) T 12) (hr.mono (by decide)) hgd (by rfl) T.g_laid_counts T.F_laid_counts.kp T.b_laid_counts (da_cons (de_callT call_tuple_of kTuple_ok (by rfl) T.m_tuple (by decide +kernel) (da_cons (de_var 0) da_nil)) (da_cons (de_callT call_tuple_of kTuple_ok (by rfl) T.m_tuple (by decide +kernel) (da_cons (de_var 1) da_nil)) da_nil))))
  refine dss_nS ?_
  refine dss_one ?_
  exact (ds_ret (de_sortLamM hr rfl (by rfl) T.m_sorted T.m_len (de_var 2) (HasTB.tb (K := K) (mg := mg) (base := base) _ _ T.ltab) rfl ((tabOf_of T.ltab).trans (congrArg (fun q => [(T.lP, q)]) lam_qual)) rfl ⟨rfl, rfl, rfl, by decide +kernel, by decide +kernel, by decide +kernel⟩ (by decide) (fun _ _ _ _ _ _ => rfl)))
theorem ok_laid_together (T : Facts K mg) : FnG P w K mg base 14 T.f_laid_together T.fd_laid_together p_laid_together D_laid_together := by
  refine fn_okL T.F_laid_together T.lnn T.ltab sc_laid_together rfl fun A outer s H E hr hgd => ?_
  refine dss_cons ?_ ?_
  · exact (ds_set (i := 2) sc_laid_together.nd rfl (.inl rfl) (de_call (ok_laid_counts (base := base) T 12) (hr.mono (by decide)) hgd (by rfl) T.g_laid_counts T.F_laid_counts.kp T.b_laid_counts (da_cons (de_callT call_tuple_of kTuple_ok (by rfl) T.m_tuple (by decide +kernel) (da_cons (de_var 0) da_nil)) (da_cons (de_callT call_tuple_of kTuple_ok (by rfl) T.m_tuple (by decide +kernel) (da_cons (de_var 1) da_nil)) da_nil))))
  refine dss_nS ?_
  refine dss_one ?_
  exact (ds_ret (de_sortLam hr rfl (by rfl) T.m_sorted T.m_len (de_var 2) (HasTB.tb (K := K) (mg := mg) (base := base) _ _ T.ltab) rfl ((tabOf_of T.ltab).trans (congrArg (fun q => [(T.lP, q)]) lam_qual)) rfl ⟨rfl, rfl, rfl, by decide +kernel, by decide +kernel, by decide +kernel⟩ (by decide) (fun _ _ _ _ _ _ => rfl)))
theorem ok_law (T : Facts K mg) : FnG P w K mg base 15 T.f_law T.fd_law p_law D_law := by
  refine fn_ok T.F_law sc_law rfl fun cdv A outer s H E hr hgd => ?_
  refine dss_cons ?_ ?_
  · exact (ds_set (i := 1) sc_law.nd rfl (.inl rfl) (de_call (ok__law_folded (base := base) T) (hr.mono (by decide)) hgd (by rfl) T.g__law_folded T.F__law_folded.kp T.b__law_folded (da_cons (de_var 0) (da_cons de_int da_nil))))
  refine dss_nS ?_
  refine dss_cons ?_ ?_
  · exact (ds_for (vs := [2]) PassesOwn.never rfl (di_range1 (by rfl) T.m_range (da_cons (de_callB (call_max2 rfl) kMax_ok (by rfl) T.m_max (by decide +kernel) (da_cons de_int (da_cons (de_len (by rfl) T.m_len (de_var 1)) da_nil))) da_nil)) (dg_name (i := 2) sc_law.nd rfl (.inl rfl) (by decide))
      (dss_nS (dss_cons (ds_set (i := 3) sc_law.nd rfl (.inl rfl) (de_call (ok__law_box_m (base := base) T) (hr.mono (by decide)) hgd (by rfl) T.g__law_box T.F__law_box.kp T.b__law_box (da_cons (de_var 1) (da_cons (de_var 2) da_nil))))
      (dss_one (ds_for (vs := [4]) PassesOwn.never rfl (di_range1 (by rfl) T.m_range (da_cons (de_add de_int (de_call (ok__law_take (base := base) T) (hr.mono (by decide)) hgd (by rfl) T.g__law_take T.F__law_take.kp T.b__law_take (da_cons (de_var 3) (da_cons de_int da_nil)))) da_nil)) (dg_name (i := 4) sc_law.nd rfl (.inl rfl) (by decide))
      (dss_nS (dss_cons (ds_par (i := 5) (j := 6) rfl sc_law.nd rfl rfl (by decide) rfl rfl (da_cons (de_ix (de_lst (da_cons de_int (da_cons de_int da_nil))) (de_call (ok__law_take (base := base) T) (hr.mono (by decide)) hgd (by rfl) T.g__law_take T.F__law_take.kp T.b__law_take (da_cons (de_var 3) (da_cons de_int da_nil)))) (da_cons (de_call (ok__law_take (base := base) T) (hr.mono (by decide)) hgd (by rfl) T.g__law_take T.F__law_take.kp T.b__law_take (da_cons (de_var 3) (da_cons de_int da_nil))) da_nil)) (by rfl))
      (dss_cons (ds_set (i := 7) sc_law.nd rfl (.inl rfl) (de_call (ok__law_plain (base := base) T) (hr.mono (by decide)) hgd (by rfl) T.g__law_plain T.F__law_plain.kp T.b__law_plain (da_cons (de_var 3) (da_cons (de_var 5) (da_cons (de_var 6) da_nil)))))
      (dss_cons (ds_set (i := 8) sc_law.nd rfl (.inl rfl) (de_if (dt_eq hr.units (de_call (ok__law_take (base := base) T) (hr.mono (by decide)) hgd (by rfl) T.g__law_take T.F__law_take.kp T.b__law_take (da_cons (de_var 3) (da_cons de_int da_nil))) de_int) (de_sl (de_var 7) dp_no (dp_sm (de_sub de_int (de_len (by rfl) T.m_len (de_var 7))))) (de_call (ok__law_plain (base := base) T) (hr.mono (by decide)) hgd (by rfl) T.g__law_plain T.F__law_plain.kp T.b__law_plain (da_cons (de_var 3) (da_cons (de_var 5) (da_cons (de_sub de_int (de_len (by rfl) T.m_len (de_var 7))) da_nil))))))
      (dss_cons (ds_set (i := 9) sc_law.nd rfl (.inl rfl) (de_str2 hr hgd (by rfl) T.m_str (de_call (ok__law_due (base := base) T) (hr.mono (by decide)) hgd (by rfl) T.g__law_due T.F__law_due.kp T.b__law_due (da_cons (de_var 7) (da_cons (de_var 8) da_nil)))))
      (dss_cons (ds_set (i := 10) sc_law.nd rfl (.inl rfl) (de_call (ok_laid_together_m (base := base) T) (hr.mono (by decide)) hgd (by rfl) T.g_laid_together T.F_laid_together.kp T.b_laid_together (da_cons (de_var 7) (da_cons (de_callT call_list_of kListF_ok (by rfl) T.m_list (by decide +kernel) (da_cons (de_var 8) da_nil)) da_nil))))
      (dss_cons (ds_if (dt_bor (dw_dt (dw_or (dt_not (dt_val (de_isI .lst (hg := by rfl) (hm := T.m_isinstance) (hv := by decide +kernel) (hg2 := by rfl) (hm2 := T.m_list) (hv2 := by decide +kernel) (hn2 := by decide) (hd2 := by decide) (h := (de_var 10))))) (dw_or1 (dt_neS (de_str2 hr hgd (by rfl) T.m_str (de_var 10)) (de_var 9)))))) (dss_one (ds_ret de_bl)) dss_nil)
      (dss_cons (ds_expr (de_mt0 PySem.F.slot_list_reverse PySem.F.type_list_reverse mt_reverse kReverse_ok (de_var 10)))
      (dss_one (ds_if (dw_dt (dw_or (dt_neS (de_str2 hr hgd (by rfl) T.m_str (de_call (ok_laid_together (base := base) T) (hr.mono (by decide)) hgd (by rfl) T.g_laid_together T.F_laid_together.kp T.b_laid_together (da_cons (de_callT call_list_of kListF_ok (by rfl) T.m_list (by decide +kernel) (da_cons (de_var 8) da_nil)) (da_cons (de_var 7) da_nil)))) (de_var 9)) (dw_or1 (dt_neS (de_str2 hr hgd (by rfl) T.m_str (de_call (ok_laid_together (base := base) T) (hr.mono (by decide)) hgd (by rfl) T.g_laid_together T.F_laid_together.kp T.b_laid_together (da_cons (de_var 7) (da_cons (de_var 8) da_nil)))) (de_var 9))))) (dss_one (ds_ret de_bl)) dss_nil)))))))))))))))
  refine dss_nS ?_
  refine dss_one ?_
  exact (ds_ret de_bl)
end
theorem all_mk {l : PySem.W.OpenLaw} {w : World} {K : PySem.W.Frag} {h : Heap} {mg : Str → Option Value} {fa f0 f1 f2 f3 f4 f5 f6 f7 f8 f9 f10 lc0 lP0 : Addr} (X : K.In h) (G : h.Ns mainGlobals mg) (hfa : mg "law" = some (.ref fa))
    {od0 an0 od1 an1 od2 an2 od3 an3 od4 an4 od5 an5 od6 an6 od7 an7 od8 an8 od9 an9 od10 an10 : Option Addr} {sl0 sl1 sl2 sl3 sl4 sl5 sl6 sl7 sl8 sl9 sl10 : Array (Option Value)} {oc0 kV0 dc0 pm0 cd0 ct0 oc1 kV1 dc1 pm1 cd1 ct1 oc2 kV2 dc2 pm2 cd2 ct2 oc3 kV3 dc3 pm3 cd3 ct3 oc4 kV4 dc4 pm4 cd4 ct4 oc5 kV5 dc5 pm5 cd5 ct5 oc6 kV6 dc6 pm6 cd6 ct6 oc7 kV7 dc7 pm7 cd7 ct7 oc8 kV8 dc8 pm8 cd8 ct8 oc9 kV9 dc9 pm9 cd9 ct9 oc10 kV10 dc10 pm10 cd10 ct10 : Value}
    (a0 : PySem.W.nsIn K mainGlobals "_law_folded" = some (some (.ref f0)))
    (l0 : K.lookup f0 = some ⟨oc0, od0, .func (PySem.W.fnOf "_law_folded" "_law_folded" (defArgs s__law_folded) (defBody s__law_folded) (defScope s__law_folded) .none kV0 dc0 pm0 an0 cd0 ct0), sl0⟩)
    (c0 : PySem.W.codeIn K cd0 "_law_folded" = true)
    (k0 : PySem.W.keepIn K (.ref f0) = true)
    (a1 : PySem.W.nsIn K mainGlobals "_law_box" = some (some (.ref f1)))
    (l1 : K.lookup f1 = some ⟨oc1, od1, .func (PySem.W.fnOf "_law_box" "_law_box" (defArgs s__law_box) (defBody s__law_box) (defScope s__law_box) .none kV1 dc1 pm1 an1 cd1 ct1), sl1⟩)
    (c1 : PySem.W.codeIn K cd1 "_law_box" = true)
    (k1 : PySem.W.keepIn K (.ref f1) = true)
    (a2 : PySem.W.nsIn K mainGlobals "_law_take" = some (some (.ref f2)))
    (l2 : K.lookup f2 = some ⟨oc2, od2, .func (PySem.W.fnOf "_law_take" "_law_take" (defArgs s__law_take) (defBody s__law_take) (defScope s__law_take) .none kV2 dc2 pm2 an2 cd2 ct2), sl2⟩)
    (c2 : PySem.W.codeIn K cd2 "_law_take" = true)
    (k2 : PySem.W.keepIn K (.ref f2) = true)
    (a3 : PySem.W.nsIn K mainGlobals "_law_plain" = some (some (.ref f3)))
    (l3 : K.lookup f3 = some ⟨oc3, od3, .func (PySem.W.fnOf "_law_plain" "_law_plain" (defArgs s__law_plain) (defBody s__law_plain) (defScope s__law_plain) .none kV3 dc3 pm3 an3 cd3 ct3), sl3⟩)
    (c3 : PySem.W.codeIn K cd3 "_law_plain" = true)
    (k3 : PySem.W.keepIn K (.ref f3) = true)
    (a4 : PySem.W.nsIn K mainGlobals "_law_choices" = some (some (.ref f4)))
    (l4 : K.lookup f4 = some ⟨oc4, od4, .func (PySem.W.fnOf "_law_choices" "_law_choices" (defArgs s__law_choices) (defBody s__law_choices) (defScope s__law_choices) .none kV4 dc4 pm4 an4 cd4 ct4), sl4⟩)
    (c4 : PySem.W.codeIn K cd4 "_law_choices" = true)
    (k4 : PySem.W.keepIn K (.ref f4) = true)
    (a5 : PySem.W.nsIn K mainGlobals "_law_word_of" = some (some (.ref f5)))
    (l5 : K.lookup f5 = some ⟨oc5, od5, .func (PySem.W.fnOf "_law_word_of" "_law_word_of" (defArgs s__law_word_of) (defBody s__law_word_of) (defScope s__law_word_of) .none kV5 dc5 pm5 an5 cd5 ct5), sl5⟩)
    (c5 : PySem.W.codeIn K cd5 "_law_word_of" = true)
    (k5 : PySem.W.keepIn K (.ref f5) = true)
    (a6 : PySem.W.nsIn K mainGlobals "_law_due" = some (some (.ref f6)))
    (l6 : K.lookup f6 = some ⟨oc6, od6, .func (PySem.W.fnOf "_law_due" "_law_due" (defArgs s__law_due) (defBody s__law_due) (defScope s__law_due) .none kV6 dc6 pm6 an6 cd6 ct6), sl6⟩)
    (c6 : PySem.W.codeIn K cd6 "_law_due" = true)
    (k6 : PySem.W.keepIn K (.ref f6) = true)
    (a7 : PySem.W.nsIn K mainGlobals "add_longer" = some (some (.ref f7)))
    (l7 : K.lookup f7 = some ⟨oc7, od7, .func (PySem.W.fnOf "add_longer" "add_longer" (defArgs s_add_longer) (defBody s_add_longer) (defScope s_add_longer) .none kV7 dc7 pm7 an7 cd7 ct7), sl7⟩)
    (c7 : PySem.W.codeIn K cd7 "add_longer" = true)
    (k7 : PySem.W.keepIn K (.ref f7) = true)
    (a8 : PySem.W.nsIn K mainGlobals "laid_counts" = some (some (.ref f8)))
    (l8 : K.lookup f8 = some ⟨oc8, od8, .func (PySem.W.fnOf "laid_counts" "laid_counts" (defArgs s_laid_counts) (defBody s_laid_counts) (defScope s_laid_counts) .none kV8 dc8 pm8 an8 cd8 ct8), sl8⟩)
    (c8 : PySem.W.codeIn K cd8 "laid_counts" = true)
    (k8 : PySem.W.keepIn K (.ref f8) = true)
    (a9 : PySem.W.nsIn K mainGlobals "laid_together" = some (some (.ref f9)))
    (l9 : K.lookup f9 = some ⟨oc9, od9, .func (PySem.W.fnOf "laid_together" "laid_together" (defArgs s_laid_together) (defBody s_laid_together) (defScope s_laid_together) .none kV9 dc9 pm9 an9 cd9 ct9), sl9⟩)
    (c9 : PySem.W.codeIn K cd9 "laid_together" = true)
    (k9 : PySem.W.keepIn K (.ref f9) = true)
    (a10 : PySem.W.nsIn K mainGlobals "law" = some (some (.ref f10)))
    (l10 : K.lookup f10 = some ⟨oc10, od10, .func (PySem.W.fnOf "law" "law" (defArgs s_law) (defBody s_law) (defScope s_law) .none kV10 dc10 pm10 an10 cd10 ct10), sl10⟩)
    (c10 : PySem.W.codeIn K cd10 "law" = true)
    (k10 : PySem.W.keepIn K (.ref f10) = true)
    (z0 : PySem.W.nsIn K mainGlobals "abs" = some none)
    (z1 : PySem.W.nsIn K mainGlobals "dict" = some none)
    (z2 : PySem.W.nsIn K mainGlobals "divmod" = some none)
    (z3 : PySem.W.nsIn K mainGlobals "enumerate" = some none)
    (z4 : PySem.W.nsIn K mainGlobals "int" = some none)
    (z5 : PySem.W.nsIn K mainGlobals "isinstance" = some none)
    (z6 : PySem.W.nsIn K mainGlobals "len" = some none)
    (z7 : PySem.W.nsIn K mainGlobals "list" = some none)
    (z8 : PySem.W.nsIn K mainGlobals "max" = some none)
    (z9 : PySem.W.nsIn K mainGlobals "range" = some none)
    (z10 : PySem.W.nsIn K mainGlobals "sorted" = some none)
    (z11 : PySem.W.nsIn K mainGlobals "str" = some none)
    (z12 : PySem.W.nsIn K mainGlobals "tuple" = some none)
    (z13 : PySem.W.nsIn K mainGlobals "zip" = some none)
    (ltb : PySem.W.tabIn K lamMaker = some (lc0, lP0))
    : ∃ fd : FuncData, (∀ (s : Shared) (v : Value), BindsTo s fd ⟨[v], []⟩ [("_law_script", v)]) ∧ ∀ base : Heap, K.In base → base.Ns mainGlobals mg → HasTB K mg base → FnG l.prog w K mg base 15 fa fd ["_law_script"] D_law := by
  have e := hfa.symm.trans (PySem.W.mg_of X G a10)
  cases e
  have F0 := fun_mk (st := s__law_folded) l0 c0 k0
  have F1 := fun_mk (st := s__law_box) l1 c1 k1
  have F2 := fun_mk (st := s__law_take) l2 c2 k2
  have F3 := fun_mk (st := s__law_plain) l3 c3 k3
  have F4 := fun_mk (st := s__law_choices) l4 c4 k4
  have F5 := fun_mk (st := s__law_word_of) l5 c5 k5
  have F6 := fun_mk (st := s__law_due) l6 c6 k6
  have F7 := fun_mk (st := s_add_longer) l7 c7 k7
  have F8 := fun_mk (st := s_laid_counts) l8 c8 k8
  have F9 := fun_mk (st := s_laid_together) l9 c9 k9
  have F10 := fun_mk (st := s_law) l10 c10 k10
  have b0 := F0.binds (ps := p__law_folded) fun _ _ _ _ _ _ us hl => match us, hl with | [_, _], _ => rfl
  have b1 := F1.binds (ps := p__law_box) fun _ _ _ _ _ _ us hl => match us, hl with | [_, _], _ => rfl
  have b2 := F2.binds (ps := p__law_take) fun _ _ _ _ _ _ us hl => match us, hl with | [_, _], _ => rfl
  have b3 := F3.binds (ps := p__law_plain) fun _ _ _ _ _ _ us hl => match us, hl with | [_, _, _], _ => rfl
  have b4 := F4.binds (ps := p__law_choices) fun _ _ _ _ _ _ us hl => match us, hl with | [_, _], _ => rfl
  have b5 := F5.binds (ps := p__law_word_of) fun _ _ _ _ _ _ us hl => match us, hl with | [_, _, _, _, _], _ => rfl
  have b6 := F6.binds (ps := p__law_due) fun _ _ _ _ _ _ us hl => match us, hl with | [_, _], _ => rfl
  have b7 := F7.binds (ps := p_add_longer) fun _ _ _ _ _ _ us hl => match us, hl with | [_, _, _], _ => rfl
  have b8 := F8.binds (ps := p_laid_counts) fun _ _ _ _ _ _ us hl => match us, hl with | [_, _], _ => rfl
  have b9 := F9.binds (ps := p_laid_together) fun _ _ _ _ _ _ us hl => match us, hl with | [_, _], _ => rfl
  have b10 := F10.binds (ps := p_law) fun _ _ _ _ _ _ us hl => match us, hl with | [_], _ => rfl
  let T : Facts K mg := ⟨f0, _, F0, b0, PySem.W.mg_of X G a0, f1, _, F1, b1, PySem.W.mg_of X G a1, f2, _, F2, b2, PySem.W.mg_of X G a2, f3, _, F3, b3, PySem.W.mg_of X G a3, f4, _, F4, b4, PySem.W.mg_of X G a4, f5, _, F5, b5, PySem.W.mg_of X G a5, f6, _, F6, b6, PySem.W.mg_of X G a6, f7, _, F7, b7, PySem.W.mg_of X G a7, f8, _, F8, b8, PySem.W.mg_of X G a8, f9, _, F9, b9, PySem.W.mg_of X G a9, fa, _, F10, b10, PySem.W.mg_of X G a10, lc0, lP0, ltb, a9, PySem.W.mg_none_of X G z0, PySem.W.mg_none_of X G z1, PySem.W.mg_none_of X G z2, PySem.W.mg_none_of X G z3, PySem.W.mg_none_of X G z4, PySem.W.mg_none_of X G z5, PySem.W.mg_none_of X G z6, PySem.W.mg_none_of X G z7, PySem.W.mg_none_of X G z8, PySem.W.mg_none_of X G z9, PySem.W.mg_none_of X G z10, PySem.W.mg_none_of X G z11, PySem.W.mg_none_of X G z12, PySem.W.mg_none_of X G z13⟩
  exact ⟨_, fun s v => .of_eq rfl, fun base _ _ (_ : HasTB K mg base) => ok_law T⟩
end Law

namespace Law
open PySem PySem.Spec PyProof.Rows L2 DL
local macro_rules | `(tactic| walk_at "w") => `(tactic| conv => whnf)
local macro_rules | `(tactic| walk_at "s") => `(tactic| (refine ⟨?_⟩; conv => whnf))
local macro_rules | `(tactic| walk_at "z") => `(tactic| (refine small ?_; simp only [List.length_map, List.length_append, List.length_reverse, List.length_cons, List.length_nil]; omega))
local macro_rules | `(tactic| walk_at "q") => `(tactic| (refine ⟨(okN_tints _).ok, (okN_tints _).ok, ?_⟩; rw [eqD_tints]))
theorem c_box (cells : List Int) (k : Int) (l : LH) (Q : DK) (hk : 0 ≤ k) (hk2 : k < 1000)
    (h : ∀ a l', l a = none → Box l' a 0 → Oth l l' a → Q (.ref a) l') : callD D__law_box_m [.lst (cells.map D.int), .int k] l Q := by
  have key : ∀ c0 c1 : Int, 0 ≤ c0 → 0 ≤ c1 → c1 < 2147483647 → newL (.lst [.int c0, .int c1, .int 0]) l Q := fun c0 c1 h0 h1 h2 a ha => h a _ ha (Box.new h0 h1 h2) Oth.upd
  refine ⟨rfl, ?_⟩
  walk_at "w"
  have rest : ∀ c : Int, T__law_box_m_2 ⟨fun _ l => Q .non l, Q, fun _ _ => False, fun _ _ => False⟩ [some (.lst (cells.map D.int)), some (.int k), some (.int c)] l := by
    intro c
    walk_at "w"
    refine ⟨⟨by decide, by decide, by decide⟩, ?_⟩
    walk_at "w"
    refine ⟨mulR (Int.lt_of_lt_of_le (by decide) (b01 _).1) (Int.lt_of_le_of_lt (b01 _).2 (by decide)), ?_⟩
    walk_at "w"
    refine ⟨by decide, ?_⟩
    walk_at "w"
    refine ⟨mulL (by decide) (by decide), ?_⟩
    walk_at "w"
    refine ⟨mulR (by decide) (by decide), ?_⟩
    walk_at "w"
    refine ⟨by decide, ?_⟩
    walk_at "w"
    refine ⟨by show 3 ≤ sizeLine; decide, ?_⟩
    refine key _ _ ?_ (Int.emod_nonneg _ (by decide)) (Int.emod_lt_of_pos _ (by decide))
    refine Int.mul_nonneg ?_ ?_
    · split <;> omega
    · exact (b01 _).1
  refine ifB_dec (fun hlt => ?_) (fun _ => ?_)
  · obtain ⟨c, hc, _⟩ := atI_ints hk (by simpa using hlt)
    exact ⟨_, hc, ⟨rest c⟩⟩
  · exact ⟨rest 0⟩
theorem c_take {a : Addr} {n : Int} {k : Nat} {l : LH} {Q : DK} (hb : Box l a k) (hn : 0 < n) (hn2 : n < 1073741824) (hk : k < 2 ^ 40)
    (h : ∀ r l', 0 ≤ r → r < n → Box l' a (k + 1) → Oth l l' a → Q (.int r) l') : callD D__law_take [.ref a, .int n] l Q := by
  obtain ⟨o, ho, c0, c1, c2, rfl, h0, h1, h1', h2, h2'⟩ := hb
  refine ⟨rfl, ?_⟩
  walk_at "w"
  refine ⟨_, ho, .int c0, rfl, ?_⟩
  walk_at "w"
  refine ifB_dec (fun hlt => ?_) (fun hlt => ?_)
  · walk_at "w"
    refine ⟨_, ho, .int c0, rfl, ?_⟩
    walk_at "w"
    refine ⟨⟨hn, hn2⟩, ?_⟩
    walk_at "w"
    refine ⟨rfl, ?_⟩
    walk_at "w"
    refine ⟨_, ho, 0, rfl, ?_⟩
    walk_at "w"
    refine h _ _ (Int.emod_nonneg _ (by omega)) (Int.emod_lt_of_pos _ hn) ⟨_, uL_same, c0 / n, c1, c2, rfl, Int.ediv_nonneg h0 (by omega), h1, h1', h2, by omega⟩ Oth.upd
  · walk_at "s"
    refine ⟨_, ho, .int c2, rfl, ?_⟩
    walk_at "w"
    refine ⟨_, ho, 2, rfl, ?_⟩
    generalize hl : uL l a _ = l1
    have ho1 : l1 a = some (.lst [.int c0, .int c1, .int (c2 + 1)]) := by rw [← hl]; exact uL_same
    walk_at "s"
    refine ⟨_, ho1, .int (c2 + 1), rfl, ?_⟩
    walk_at "w"
    refine ⟨_, ho1, .int (c2 + 1), rfl, ?_⟩
    walk_at "w"
    refine ⟨mulL (by omega) (by omega), ?_⟩
    generalize hs : (c2 + 1) * (c2 + 1) = step
    walk_at "w"
    walk_at "s"
    refine ⟨_, ho1, .int c1, rfl, ?_⟩
    walk_at "w"
    refine ⟨_, ho1, .int (c2 + 1), rfl, ?_⟩
    walk_at "w"
    refine ⟨mulL (by decide) (by decide), ?_⟩
    walk_at "w"
    refine ⟨mulL (by omega) (by omega), ?_⟩
    walk_at "w"
    refine ⟨by decide, ?_⟩
    generalize he : (c1 + 39373 * (c2 + 1)) * (69621 + step) % 2147483587 = once
    have e1 : 0 ≤ once := by rw [← he]; exact Int.emod_nonneg _ (by decide)
    have e2 : once < 2147483587 := by rw [← he]; exact Int.emod_lt_of_pos _ (by decide)
    walk_at "w"
    walk_at "s"
    refine ⟨by decide, ?_⟩
    walk_at "w"
    refine ⟨mulL (by omega) (by omega), ?_⟩
    walk_at "w"
    refine ⟨_, ho1, .int (c2 + 1), rfl, ?_⟩
    walk_at "w"
    refine ⟨by decide, ?_⟩
    generalize hf : (once * (once % 30011 + 5) + (c2 + 1)) % 2147483563 = twice
    have f1 : 0 ≤ twice := by rw [← hf]; exact Int.emod_nonneg _ (by decide)
    have f2 : twice < 2147483563 := by rw [← hf]; exact Int.emod_lt_of_pos _ (by decide)
    walk_at "w"
    walk_at "s"
    refine ⟨by decide, ?_⟩
    walk_at "w"
    refine ⟨mulL (by omega) (by omega), ?_⟩
    walk_at "w"
    refine ⟨by decide, ?_⟩
    walk_at "w"
    refine ⟨⟨by decide, by decide⟩, ?_⟩
    walk_at "w"
    refine ⟨hn, ?_⟩
    refine h _ l1 (Int.emod_nonneg _ (by omega)) (Int.emod_lt_of_pos _ hn) ⟨_, ho1, c0, c1, c2 + 1, rfl, h0, h1, h1', by omega, by omega⟩ (by rw [← hl]; exact Oth.upd)
/-- the cells -/
theorem folded_loop (ns : List Int) (n : Int) (hn : 0 < n) (hn2 : n < 1000) (a : Addr) (l0 : LH) (E : DEnds)
    (hE : ∀ (cs : List Int) e3 e4, cs.length = n.toNat → E.nx [some (.scr ns), some (.int n), some (.ref a), e3, e4] (uL l0 a (.lst (cs.map D.int)))) :
    ∀ (xs : List Int) (i : Nat) (cs : List Int) e3 e4, i + xs.length < 1000 → cs.length = n.toNat →
      forL (gTup 2 (gCons (gName 3) (gCons (gName 4) gNil))) (nS B__law_folded_1) (enumD i (xs.map D.int)) E [some (.scr ns), some (.int n), some (.ref a), e3, e4] (uL l0 a (.lst (cs.map D.int)))
  | [], _, cs, e3, e4, _, hc => hE cs e3 e4 hc
  | x :: xs, i, cs, e3, e4, hi, hc => by
    have h0 : 0 ≤ (i : Int) % n := Int.emod_nonneg _ (by omega)
    have h1 : (i : Int) % n < cs.length := by
      have := Int.emod_lt_of_pos (i : Int) hn
      omega
    obtain ⟨c, hc1, _⟩ := atI_ints h0 h1
    refine ⟨rfl, ?_⟩
    walk_at "w"
    walk_at "s"
    refine ⟨hn, ?_⟩
    walk_at "w"
    refine ⟨_, uL_same, _, hc1, ?_⟩
    walk_at "w"
    rw [List.length_cons] at hi
    refine ⟨mulR (by omega) (by omega), ?_⟩
    walk_at "w"
    refine ⟨hn, ?_⟩
    walk_at "w"
    refine ⟨_, uL_same, ((i : Int) % n).toNat, ?_, ?_⟩
    · unfold ixN
      rw [List.length_map, if_pos h0, if_pos h1]
    · rw [uL_uL, ← List.map_set]
      exact folded_loop ns n hn hn2 a l0 E hE xs (i + 1) _ _ _ (by omega) (by rw [List.length_set]; exact hc)
theorem c_folded (ns : List Int) (n : Int) (hn : 0 < n) (hn2 : n < 60) (hl : ns.length ≤ 63) (l : LH) (Q : DK) (h : ∀ cs : List Int, cs.length ≤ 63 → Q (.lst (cs.map D.int)) l) : callD D__law_folded [.scr ns, .int n] l Q := by
  refine ⟨rfl, ?_⟩
  walk_at "w"
  intro a ha
  have fin : ∀ (cs : List Int) e3 e4, cs.length ≤ 63 → T__law_folded_3 ⟨fun _ l => Q .non l, Q, fun _ _ => False, fun _ _ => False⟩ [some (.scr ns), some (.int n), some (.ref a), e3, e4] (uL l a (.lst (cs.map D.int))) := by
    intro cs e3 e4 hc
    refine ⟨_, uL_same, ?_⟩
    have e : dL (uL l a (.lst (cs.map D.int))) a = l := by
      funext b
      unfold dL
      by_cases hb : b = a
      · rw [if_pos hb, hb, ha]
      · rw [if_neg hb, uL_ne hb]
    rw [e]
    exact h cs hc
  rw [cutD_head ns n (by omega)]
  walk_at "w"
  refine ⟨?_⟩
  show forL _ _ (enumD 0 (cutD (ns.map D.int) (some n) (some 63))) _ _ _
  by_cases hs : ns.length ≤ n.toNat
  · have e : cutD (ns.map D.int) (some n) (some 63) = [] := by
      obtain ⟨j, rfl⟩ := Int.eq_ofNat_of_zero_le (show 0 ≤ n by omega)
      have hj : ns.length ≤ j := by simpa using hs
      unfold DL.cutD
      rw [show (some (63 : Int)) = some ((63 : Nat) : Int) from rfl, HT.sIx_nat, HT.sIx_nat, List.length_map, List.drop_of_length_le (by rw [List.length_map]; omega), List.take_nil]
    rw [e]
    exact ⟨fin _ _ _ (by rw [List.length_take]; omega)⟩
  · have e : ∃ xs : List Int, xs.length ≤ 63 ∧ cutD (ns.map D.int) (some n) (some 63) = xs.map D.int := by
      unfold DL.cutD
      rw [List.length_map, ← List.map_drop, ← List.map_take]
      exact ⟨_, by rw [List.length_take, List.length_drop]; omega, rfl⟩
    obtain ⟨xs, hx, e⟩ := e
    rw [e]
    refine folded_loop ns n hn (by omega) a l ⟨nS T__law_folded_3 ⟨fun _ l => Q .non l, Q, fun _ _ => False, fun _ _ => False⟩, Q, fun _ _ => False, fun _ _ => False⟩ (fun cs e3 e4 hc => ⟨fin cs e3 e4 (by omega)⟩) xs 0 _ _ _ (by omega) ?_
    rw [List.length_take]
    omega
/-! the law's own texts of trees -/
theorem dL_new {l : LH} {b : Addr} {o : DO} (nb : l b = none) : dL (uL l b o) b = l := by
  funext y
  unfold dL
  by_cases h : y = b
  · rw [if_pos h, h, nb]
  · rw [if_neg h, uL_ne h]
theorem wkey_mem {w : List Int} {ws : List (List Int)} : wkey w ∈ ws.map wkey ↔ w ∈ ws := by
  rw [List.mem_map]
  constructor
  · rintro ⟨u, hu, e⟩
    rw [← wkey_inj.mp e]
    exact hu
  · exact fun h => ⟨w, h, rfl⟩
/-! rows: words with their numbers; series -/
abbrev Row := List (List Int × Int)
def rowKs (r : Row) : List (List Key) := r.map fun p => wkey p.1
def rowDs (r : Row) : List D := r.map fun p => D.int p.2
def rowD (r : Row) : D := .dT (rowKs r) (rowDs r)
def rowO (r : Row) : DO := .dT (rowKs r) (rowDs r)
def keysR (r : Row) : List (List Int) := r.map (·.1)
def getR : Row → List Int → Int
  | [], _ => 0
  | p :: r, w => if p.1 = w then p.2 else getR r w
def putR (r : Row) (w : List Int) (x : Int) : Row := if w ∈ keysR r then r.map (fun p => if p.1 = w then (p.1, x) else p) else r ++ [(w, x)]
theorem rowKs_keys (r : Row) : rowKs r = (keysR r).map wkey := by unfold rowKs keysR; rw [List.map_map]; rfl
theorem getA_row : ∀ (r : Row) (w : List Int), (getA (rowKs r) (rowDs r) (wkey w)).getD (.int 0) = .int (getR r w)
  | [], w => rfl
  | p :: r, w => by
    show (if wkey p.1 = wkey w then some (D.int p.2) else getA (rowKs r) (rowDs r) (wkey w)).getD (.int 0) = .int (if p.1 = w then p.2 else getR r w)
    by_cases e : p.1 = w
    · rw [if_pos (by rw [e]), if_pos e]; rfl
    · rw [if_neg fun q => e (wkey_inj.mp q), if_neg e]
      exact getA_row r w
theorem repA_row (w : List Int) (x : Int) : ∀ (r : Row), repA (rowKs r) (rowDs r) (wkey w) (.int x) = rowDs (r.map fun p => if p.1 = w then (p.1, x) else p)
  | [] => rfl
  | p :: r => by
    show (if wkey p.1 = wkey w then D.int x else D.int p.2) :: repA (rowKs r) (rowDs r) (wkey w) (.int x) = D.int (if p.1 = w then (p.1, x) else p).2 :: rowDs (r.map fun p => if p.1 = w then (p.1, x) else p)
    rw [repA_row w x r]
    by_cases e : p.1 = w
    · rw [if_pos (by rw [e]), if_pos e]
    · rw [if_neg fun q => e (wkey_inj.mp q), if_neg e]
theorem mem_rowKs {r : Row} {w : List Int} : wkey w ∈ rowKs r ↔ w ∈ keysR r := by rw [rowKs_keys]; exact wkey_mem
theorem keysR_rep (w : List Int) (x : Int) (r : Row) : keysR (r.map fun p => if p.1 = w then (p.1, x) else p) = keysR r := by
  unfold keysR
  rw [List.map_map]
  refine List.map_congr_left fun p _ => ?_
  show (if p.1 = w then (p.1, x) else p).1 = p.1
  split <;> rfl
theorem putKs_row (r : Row) (w : List Int) (x : Int) : putKs (rowKs r) (wkey w) = rowKs (putR r w x) := by
  unfold putKs putR
  by_cases e : w ∈ keysR r
  · rw [if_pos (mem_rowKs.mpr e), if_pos e, rowKs_keys, rowKs_keys, keysR_rep]
  · rw [if_neg fun q => e (mem_rowKs.mp q), if_neg e]
    unfold rowKs
    rw [List.map_append]
    rfl
theorem putDs_row (r : Row) (w : List Int) (x : Int) : putDs (rowKs r) (rowDs r) (wkey w) (.int x) = rowDs (putR r w x) := by
  unfold putDs putR
  by_cases e : w ∈ keysR r
  · rw [if_pos (mem_rowKs.mpr e), if_pos e, repA_row]
  · rw [if_neg fun q => e (mem_rowKs.mp q), if_neg e]
    unfold rowDs
    rw [List.map_append]
    rfl
theorem getR_out : ∀ {r : Row} {w : List Int}, w ∉ keysR r → getR r w = 0
  | [], _, _ => rfl
  | p :: r, w, h => by
    rw [getR, if_neg fun e => h (by rw [← e]; exact List.mem_cons_self)]
    exact getR_out fun q => h (List.mem_cons_of_mem _ q)
theorem keysR_put (r : Row) (w : List Int) (x : Int) : keysR (putR r w x) = if w ∈ keysR r then keysR r else keysR r ++ [w] := by
  unfold putR
  by_cases e : w ∈ keysR r
  · rw [if_pos e, if_pos e, keysR_rep]
  · rw [if_neg e, if_neg e]
    unfold keysR
    rw [List.map_append]
    rfl
theorem put_nodup {r : Row} (w : List Int) (x : Int) (h : (keysR r).Nodup) : (keysR (putR r w x)).Nodup := by
  rw [keysR_put]
  by_cases e : w ∈ keysR r
  · rw [if_pos e]; exact h
  · rw [if_neg e]
    refine List.nodup_append.mpr ⟨h, by simp, fun a ha b hb q => ?_⟩
    rw [List.mem_singleton] at hb
    exact e (by rw [← hb, ← q]; exact ha)
theorem put_keys {r : Row} {w : List Int} {x : Int} {u : List Int} (h : u ∈ keysR (putR r w x)) : u ∈ keysR r ∨ u = w := by
  rw [keysR_put] at h
  by_cases e : w ∈ keysR r
  · rw [if_pos e] at h; exact .inl h
  · rw [if_neg e] at h
    rcases List.mem_append.mp h with h | h
    · exact .inl h
    · exact .inr (List.mem_singleton.mp h)
theorem put_len (r : Row) (w : List Int) (x : Int) : (putR r w x).length ≤ r.length + 1 := by
  unfold putR
  split
  · rw [List.length_map]; omega
  · rw [List.length_append]; exact Nat.le_refl _
theorem itemsD_row : ∀ (r : Row), itemsD (rowKs r) (rowDs r) = r.map fun p => D.tup [wordD p.1, .int p.2]
  | [] => rfl
  | p :: r => by
    show D.tup [.tup ((wkey p.1).map keyV), .int p.2] :: itemsD (rowKs r) (rowDs r) = D.tup [wordD p.1, .int p.2] :: _
    rw [itemsD_row r]
    unfold wkey
    rw [List.map_map]
    rfl
/-! a letter behind -/
/-! words laid together: sums over all words that have both in them and nothing else -/
def LhA (a : Int) (u : List Int) (Lu : List Int → (List Int → Int) → Int) : List Int → (List Int → Int) → Int
  | [], f => f (a :: u)
  | b :: v, f => Lu (b :: v) (fun w => f (a :: w)) + LhA a u Lu v (fun w => f (b :: w)) + if a = b then Lu v (fun w => f (a :: w)) else 0
def Lh : List Int → List Int → (List Int → Int) → Int
  | [] => fun v f => f v
  | a :: u => LhA a u (Lh u)
theorem Lh_nl (v : List Int) (f : List Int → Int) : Lh [] v f = f v := rfl
theorem Lh_nr (u : List Int) (f : List Int → Int) : Lh u [] f = f u := by cases u <;> rfl
theorem Lh_cc (a b : Int) (u v : List Int) (f : List Int → Int) : Lh (a :: u) (b :: v) f = Lh u (b :: v) (fun w => f (a :: w)) + Lh (a :: u) v (fun w => f (b :: w)) + if a = b then Lh u v (fun w => f (a :: w)) else 0 := rfl
theorem Lh_snoc : ∀ (n : Nat) (u v : List Int) (a b : Int) (f : List Int → Int), u.length + v.length ≤ n → Lh (u ++ [a]) (v ++ [b]) f = Lh u (v ++ [b]) (fun w => f (w ++ [a])) + Lh (u ++ [a]) v (fun w => f (w ++ [b])) + if a = b then Lh u v (fun w => f (w ++ [a])) else 0
  | _, [], [], a, b, f, _ => by
    show f [a, b] + f [b, a] + (if a = b then f [a] else 0) = f [b, a] + f [a, b] + if a = b then f [a] else 0
    omega
  | 0, [], e :: v, a, b, f, h => by simp at h
  | 0, c :: u, v, a, b, f, h => by simp at h
  | n + 1, [], e :: v, a, b, f, h => by
    have ih := Lh_snoc n [] v a b (fun w => f (e :: w)) (by simp only [List.length_cons, List.length_nil] at h ⊢; omega)
    rw [List.nil_append] at ih ⊢
    rw [List.cons_append, Lh_cc, ih, Lh_cc a e [] v]
    simp only [Lh_nl, List.cons_append]
    omega
  | n + 1, c :: u, [], a, b, f, h => by
    have ih := Lh_snoc n u [] a b (fun w => f (c :: w)) (by simp only [List.length_cons, List.length_nil] at h ⊢; omega)
    rw [List.nil_append] at ih ⊢
    rw [List.cons_append, Lh_cc, ih, Lh_cc c b u []]
    simp only [Lh_nr, List.cons_append]
    omega
  | n + 1, c :: u, e :: v, a, b, f, h => by
    simp only [List.length_cons] at h
    have i1 := Lh_snoc n u (e :: v) a b (fun w => f (c :: w)) (by simp only [List.length_cons]; omega)
    have i2 := Lh_snoc n (c :: u) v a b (fun w => f (e :: w)) (by simp only [List.length_cons]; omega)
    have i3 := Lh_snoc n u v a b (fun w => f (c :: w)) (by omega)
    rw [List.cons_append] at i1 i2
    rw [List.cons_append, List.cons_append, Lh_cc, i1, i2, i3, Lh_cc c e u (v ++ [b]), Lh_cc c e (u ++ [a]) v, Lh_cc c e u v]
    simp only [List.cons_append]
    by_cases ab : a = b <;> by_cases ce : c = e <;> simp only [ab, ce, if_true, if_false] <;> omega
/-! the program's own laying together -/
def sumR : Row → (List Int → Int) → Int
  | [], _ => 0
  | p :: r, f => p.2 * f p.1 + sumR r f
theorem sumR_app (f : List Int → Int) : ∀ r s : Row, sumR (r ++ s) f = sumR r f + sumR s f
  | [], s => by rw [List.nil_append, sumR, Int.zero_add]
  | p :: r, s => by rw [List.cons_append, sumR, sumR, sumR_app f r s, Int.add_assoc]
theorem sumR_rep {w : List Int} {x : Int} {f : List Int → Int} : ∀ {r : Row}, (keysR r).Nodup → w ∈ keysR r → sumR (r.map fun p => if p.1 = w then (p.1, x) else p) f = sumR r f + (x - getR r w) * f w
  | [], _, h => by cases h
  | p :: r, nd, h => by
    have nd' := List.nodup_cons.mp (show (p.1 :: keysR r).Nodup from nd)
    rw [List.map_cons, sumR, sumR, getR]
    by_cases e : p.1 = w
    · rw [if_pos e, if_pos e]
      have hm : w ∉ keysR r := by rw [← e]; exact nd'.1
      have : (r.map fun p => if p.1 = w then (p.1, x) else p) = r := by
        conv => rhs; rw [← List.map_id r]
        refine List.map_congr_left fun z hz => ?_
        rw [if_neg fun y => hm (by rw [← y]; exact List.mem_map.mpr ⟨z, hz, rfl⟩)]
        rfl
      rw [this]
      dsimp only
      rw [e, Int.sub_mul]
      omega
    · rw [if_neg e, if_neg e]
      have hm : w ∈ keysR r := (List.mem_cons.mp (show w ∈ p.1 :: keysR r from h)).resolve_left fun z => e z.symm
      rw [sumR_rep nd'.2 hm, Int.add_assoc]
theorem sumR_put {r : Row} (nd : (keysR r).Nodup) (w : List Int) (t : Int) (f : List Int → Int) : sumR (putR r w (getR r w + t)) f = sumR r f + t * f w := by
  unfold putR
  by_cases e : w ∈ keysR r
  · rw [if_pos e, sumR_rep nd e, show getR r w + t - getR r w = t by omega]
  · rw [if_neg e, sumR_app, getR_out e]
    show sumR r f + ((0 + t) * f w + 0) = _
    rw [Int.zero_add, Int.add_zero]
def addL (a : Int) : Row → Row → Row
  | [], to => to
  | p :: ps, to => addL a ps (putR to (a :: p.1) (getR to (a :: p.1) + p.2))
theorem addL_sum (a : Int) (f : List Int → Int) : ∀ (c to : Row), (keysR to).Nodup → (keysR (addL a c to)).Nodup ∧ sumR (addL a c to) f = sumR to f + sumR c fun w => f (a :: w)
  | [], to, nd => ⟨nd, by rw [addL, sumR, Int.add_zero]⟩
  | p :: c, to, nd => by
    obtain ⟨h1, h2⟩ := addL_sum a f c _ (put_nodup (a :: p.1) (getR to (a :: p.1) + p.2) nd)
    refine ⟨h1, ?_⟩
    rw [addL, h2, sumR_put nd, sumR, Int.add_assoc]
theorem addL_keys (a : Int) : ∀ (c to : Row) {w : List Int}, w ∈ keysR (addL a c to) → w ∈ keysR to ∨ ∃ x ∈ keysR c, w = a :: x
  | [], to, w, h => .inl h
  | p :: c, to, w, h => by
    rcases addL_keys a c _ h with z | ⟨x, hx, rfl⟩
    · rcases put_keys z with z | z
      · exact .inl z
      · exact .inr ⟨p.1, List.mem_cons_self, z⟩
    · exact .inr ⟨x, List.mem_cons_of_mem _ hx, rfl⟩
theorem addL_len (a : Int) : ∀ (c to : Row), (addL a c to).length ≤ to.length + c.length
  | [], to => Nat.le_refl _
  | p :: c, to => by
    have h1 := addL_len a c (putR to (a :: p.1) (getR to (a :: p.1) + p.2))
    have h2 := put_len to (a :: p.1) (getR to (a :: p.1) + p.2)
    rw [addL, List.length_cons]
    omega
theorem getR_pos : ∀ {r : Row} (_ : ∀ p ∈ r, 0 ≤ p.2) (w : List Int), 0 ≤ getR r w
  | [], _, w => Int.le_refl 0
  | p :: r, h, w => by
    rw [getR]
    split
    · exact h p List.mem_cons_self
    · exact getR_pos (fun q hq => h q (List.mem_cons_of_mem _ hq)) w
theorem putR_pos {r : Row} (h : ∀ p ∈ r, 0 < p.2) (w : List Int) {x : Int} (hx : 0 < x) : ∀ p ∈ putR r w x, 0 < p.2 := fun p hp => by
  unfold putR at hp
  split at hp
  · obtain ⟨q, hq, rfl⟩ := List.mem_map.mp hp
    split
    · exact hx
    · exact h q hq
  · rcases List.mem_append.mp hp with z | z
    · exact h p z
    · rw [List.mem_singleton.mp z]; exact hx
theorem addL_pos (a : Int) : ∀ (c to : Row), (∀ p ∈ c, 0 < p.2) → (∀ p ∈ to, 0 < p.2) → ∀ p ∈ addL a c to, 0 < p.2
  | [], to, _, h => h
  | p :: c, to, hc, h => addL_pos a c _ (fun q hq => hc q (List.mem_cons_of_mem _ hq)) (putR_pos h _ (by have := getR_pos (fun p hp => Int.le_of_lt (h p hp)) (a :: p.1); have := hc p List.mem_cons_self; omega))
theorem Lh_pos1 : ∀ (n : Nat) (u v : List Int), u.length + v.length ≤ n → Lh u v (fun _ => 1) ≤ 3 ^ n
  | n, [], v, _ => by rw [Lh_nl]; exact Int.pow_pos (by decide)
  | n, a :: u, [], _ => by rw [Lh_nr]; exact Int.pow_pos (by decide)
  | 0, a :: u, b :: v, h => by simp at h
  | n + 1, a :: u, b :: v, h => by
    simp only [List.length_cons] at h
    have h1 := Lh_pos1 n u (b :: v) (by simp only [List.length_cons]; omega)
    have h2 := Lh_pos1 n (a :: u) v (by simp only [List.length_cons]; omega)
    have h3 := Lh_pos1 n u v (by omega)
    have h0 : (0 : Int) < 3 ^ n := Int.pow_pos (by decide)
    rw [Lh_cc, Int.pow_succ]
    split <;> omega
structure Ld (u v : List Int) (r : Row) : Prop where
  nd : (keysR r).Nodup
  sm : ∀ f, sumR r f = Lh u v f
  ln : ∀ w ∈ keysR r, w.length ≤ u.length + v.length
  lt : ∀ w ∈ keysR r, ∀ x ∈ w, x ∈ u ∨ x ∈ v
  few : r.length ≤ 3 ^ (u.length + v.length)
  pos : ∀ p ∈ r, 0 < p.2
theorem ld_one (w : List Int) (u v : List Int) (h : (u = [] ∧ w = v) ∨ (v = [] ∧ w = u)) : Ld u v [(w, 1)] := by
  refine ⟨by simp [keysR], fun f => ?_, fun x hx => ?_, fun x hx y hy => ?_, Nat.one_le_pow _ _ (by decide), fun p hp => ?_⟩
  · rcases h with ⟨rfl, rfl⟩ | ⟨rfl, rfl⟩
    · rw [Lh_nl]; show 1 * f w + 0 = f w; omega
    · rw [Lh_nr]; show 1 * f w + 0 = f w; omega
  · rw [List.mem_singleton.mp (show x ∈ [w] from hx)]
    rcases h with ⟨rfl, rfl⟩ | ⟨rfl, rfl⟩ <;> simp
  · rw [List.mem_singleton.mp (show x ∈ [w] from hx)] at hy
    rcases h with ⟨rfl, rfl⟩ | ⟨rfl, rfl⟩
    · exact .inr hy
    · exact .inl hy
  · rw [List.mem_singleton.mp hp]; exact (by decide : (0 : Int) < 1)
theorem uL_own {l : LH} {a : Addr} {o : DO} (h : l a = some o) : uL l a o = l := by
  funext z
  by_cases e : z = a
  · rw [e, uL_same, h]
  · rw [uL_ne e]
theorem Ld.few9 {u v : List Int} {r : Row} (h : Ld u v r) (n : u.length + v.length ≤ 9) : r.length ≤ 19683 := Nat.le_trans h.few (Nat.le_trans (Nat.pow_le_pow_right (by decide) n) (by decide))
theorem longer_row_loop {fa : Addr} {a : Int} {e2 : Option D} {E : DEnds} : ∀ (c : Row) {r : Row} {l : LH} {e3 e4 e5 : Option D}, r.length + c.length ≤ 100000 → (∀ w ∈ keysR c, w.length ≤ 1000) → l fa = some (rowO r) →
    (∀ e3 e4 e5, E.nx [some (.ref fa), some (.int a), e2, e3, e4, e5] (uL l fa (rowO (addL a c r)))) →
    forL (gTup 2 (gCons (gName 3) (gCons (gName 4) gNil))) (nS B_add_longer_1) (c.map fun p => D.tup [wordD p.1, .int p.2]) E [some (.ref fa), some (.int a), e2, e3, e4, e5] l
  | [], r, l, e3, e4, e5, _, _, hr, h => by
    have := h e3 e4 e5
    rw [addL, uL_own hr] at this
    exact this
  | p :: c, r, l, e3, e4, e5, hz, hw, hr, h => by
    rw [List.length_cons] at hz
    rw [List.map_cons]
    have pl := put_len r (a :: p.1) (getR r (a :: p.1) + p.2)
    walk_at "w"
    refine ⟨rfl, ⟨?_⟩⟩
    walk_at "w"
    refine ⟨show 1 ≤ sizeLine by decide, ?_⟩
    walk_at "w"
    have sz : [D.int a].length + (p.1.map D.int).length ≤ sizeLine := by
      have := hw p.1 List.mem_cons_self
      refine small ?_
      rw [List.length_map, List.length_singleton]
      omega
    refine ⟨sz, ?_⟩
    walk_at "w"
    refine ⟨_, hr, ?_⟩
    walk_at "w"
    refine ⟨_, hr, _, keyT_word (a :: p.1), ?_⟩
    dsimp only
    rw [getA_row]
    walk_at "w"
    refine ⟨_, hr, _, keyT_word (a :: p.1), ?_, ?_⟩
    · unfold rowKs
      rw [List.length_map]
      exact Nat.lt_of_lt_of_le (show r.length < 100001 by omega) (by decide)
    rw [putKs_row _ _ (getR r (a :: p.1) + p.2), putDs_row]
    refine longer_row_loop c (r := putR r (a :: p.1) (getR r (a :: p.1) + p.2)) (by omega) (fun w hw' => hw w (List.mem_cons_of_mem _ hw')) uL_same fun e3 e4 e5 => ?_
    rw [uL_uL]
    exact h e3 e4 e5
theorem c_add_longer {fa : Addr} {a : Int} (c : Row) {r : Row} {l : LH} {Q : DK} (hz : r.length + c.length ≤ 100000) (hw : ∀ w ∈ keysR c, w.length ≤ 1000) (hr : l fa = some (rowO r)) (q : Q .non (uL l fa (rowO (addL a c r)))) : callD D_add_longer [.ref fa, .int a, rowD c] l Q := by
  refine ⟨rfl, ?_⟩
  walk_at "w"
  rw [itemsD_row]
  exact longer_row_loop c hz hw hr fun e3 e4 e5 => q
theorem pow3_add {a b c : Nat} (n : Nat) (h1 : a ≤ 3 ^ n) (h2 : b ≤ 3 ^ n) (h3 : c ≤ 3 ^ n) : a + b + c ≤ 3 ^ (n + 1) := by
  rw [Nat.pow_succ]
  omega
theorem okN_pair1 (u : List Int) : okN 1 (wordD u) := by
  unfold wordD
  exact okN_tup fun d hd => by
    obtain ⟨x, _, rfl⟩ := List.mem_map.mp hd
    exact okN_int _
theorem Ld.cc {a b : Int} {u v : List Int} {r1 r2 r3 : Row} (h1 : Ld u (b :: v) r1) (h2 : Ld (a :: u) v r2) (h3 : Ld u v r3) : Ld (a :: u) (b :: v) (if a = b then addL a r3 (addL b r2 (addL a r1 [])) else addL b r2 (addL a r1 [])) := by
  have n1 := addL_sum a (fun _ => 0) r1 [] (by simp [keysR])
  have n2 := addL_sum b (fun _ => 0) r2 _ n1.1
  have n3 := addL_sum a (fun _ => 0) r3 _ n2.1
  have s1 : ∀ f, sumR (addL a r1 []) f = Lh u (b :: v) fun w => f (a :: w) := fun f => by
    rw [(addL_sum a f r1 [] (by simp [keysR])).2, h1.sm]
    show 0 + _ = _
    omega
  have s2 : ∀ f, sumR (addL b r2 (addL a r1 [])) f = Lh u (b :: v) (fun w => f (a :: w)) + Lh (a :: u) v (fun w => f (b :: w)) := fun f => by
    rw [(addL_sum b f r2 _ n1.1).2, h2.sm, s1]
  have k2 : ∀ w ∈ keysR (addL b r2 (addL a r1 [])), w.length ≤ (a :: u).length + (b :: v).length ∧ ∀ x ∈ w, x ∈ a :: u ∨ x ∈ b :: v := fun w hw => by
    rcases addL_keys b r2 _ hw with z | ⟨x, hx, rfl⟩
    · rcases addL_keys a r1 _ z with z | ⟨x, hx, rfl⟩
      · cases z
      · have := h1.ln x hx
        refine ⟨by simp only [List.length_cons] at this ⊢; omega, fun y hy => ?_⟩
        rcases List.mem_cons.mp hy with rfl | hy
        · exact .inl List.mem_cons_self
        · exact (h1.lt x hx y hy).imp (List.mem_cons_of_mem _) id
    · have := h2.ln x hx
      refine ⟨by simp only [List.length_cons] at this ⊢; omega, fun y hy => ?_⟩
      rcases List.mem_cons.mp hy with rfl | hy
      · exact .inr List.mem_cons_self
      · exact (h2.lt x hx y hy).imp id (List.mem_cons_of_mem _)
  have f1 := h1.few
  have f2 := h2.few
  have f3 := h3.few
  have l1 := addL_len a r1 []
  have l2 := addL_len b r2 (addL a r1 [])
  have l3 := addL_len a r3 (addL b r2 (addL a r1 []))
  have p3 : 3 ^ (u.length + v.length) ≤ 3 ^ (u.length + v.length + 1) := Nat.pow_le_pow_right (by decide) (by omega)
  simp only [List.length_cons, List.length_nil] at f1 f2 f3 l1
  have e1 : u.length + (v.length + 1) = u.length + v.length + 1 := by omega
  have e2 : u.length + 1 + v.length = u.length + v.length + 1 := by omega
  rw [e1] at f1
  rw [e2] at f2
  have q2 := addL_pos b r2 _ h2.pos (addL_pos a r1 [] h1.pos fun p hp => by cases hp)
  have tot := pow3_add (u.length + v.length + 1) f1 f2 (Nat.le_trans f3 p3)
  have e3 : (a :: u).length + (b :: v).length = u.length + v.length + 1 + 1 := by simp only [List.length_cons]; omega
  by_cases e : a = b
  · rw [if_pos e]
    refine ⟨n3.1, fun f => ?_, fun w hw => ?_, fun w hw => ?_, by rw [e3]; omega, addL_pos a r3 _ h3.pos q2⟩
    · rw [(addL_sum a f r3 _ n2.1).2, h3.sm, s2, Lh_cc, if_pos e]
    · rcases addL_keys a r3 _ hw with z | ⟨x, hx, rfl⟩
      · exact (k2 w z).1
      · have := h3.ln x hx
        simp only [List.length_cons] at this ⊢
        omega
    · rcases addL_keys a r3 _ hw with z | ⟨x, hx, rfl⟩
      · exact (k2 w z).2
      · intro y hy
        rcases List.mem_cons.mp hy with rfl | hy
        · exact .inl List.mem_cons_self
        · exact (h3.lt x hx y hy).imp (List.mem_cons_of_mem _) (List.mem_cons_of_mem _)
  · rw [if_neg e]
    refine ⟨n2.1, fun f => ?_, fun w hw => (k2 w hw).1, fun w hw => (k2 w hw).2, by rw [e3]; omega, q2⟩
    rw [s2, Lh_cc, if_neg e, Int.add_zero]
theorem ld_some (u v : List Int) : ∃ r, Ld u v r := by
  have go : ∀ (n : Nat) (u v : List Int), u.length + v.length ≤ n → ∃ r, Ld u v r := by
    intro n
    induction n with
    | zero =>
      intro u v h
      have hu : u = [] := List.eq_nil_of_length_eq_zero (by omega)
      exact ⟨[(v, 1)], ld_one v u v (.inl ⟨hu, rfl⟩)⟩
    | succ n ih =>
      intro u v h
      cases u with
      | nil => exact ⟨[(v, 1)], ld_one v [] v (.inl ⟨rfl, rfl⟩)⟩
      | cons a u =>
        cases v with
        | nil => exact ⟨[(a :: u, 1)], ld_one (a :: u) (a :: u) [] (.inr ⟨rfl, rfl⟩)⟩
        | cons b v =>
          simp only [List.length_cons] at h
          obtain ⟨r1, h1⟩ := ih u (b :: v) (by simp only [List.length_cons]; omega)
          obtain ⟨r2, h2⟩ := ih (a :: u) v (by simp only [List.length_cons]; omega)
          obtain ⟨r3, h3⟩ := ih u v (by omega)
          exact ⟨_, Ld.cc h1 h2 h3⟩
  exact go _ u v (Nat.le_refl _)
theorem Ld.cc2 {a b : Int} (e : ¬a = b) {u v : List Int} {r1 r2 : Row} (h1 : Ld u (b :: v) r1) (h2 : Ld (a :: u) v r2) : Ld (a :: u) (b :: v) (addL b r2 (addL a r1 [])) := by
  obtain ⟨r3, h3⟩ := ld_some u v
  have := Ld.cc h1 h2 h3
  rw [if_neg e] at this
  exact this
theorem c_laid_counts : ∀ (n : Nat) (u v : List Int) {l : LH} {Q : DK}, u.length + v.length < n → u.length + v.length ≤ 8 → (∀ r, Ld u v r → Q (rowD r) l) → callD (D_laid_counts n) [wordD u, wordD v] l Q
  | 0, u, v, l, Q, h, _, q => absurd h (by omega)
  | n + 1, u, v, l, Q, h, n9, q => by
    refine ⟨rfl, ?_⟩
    walk_at "w"
    refine ⟨(okN_int _).ok, (okN_int _).ok, ?_⟩
    rw [eqD_int, List.length_map]
    refine ifB_dec (fun e => ?_) (fun e => ?_)
    · have hu : u = [] := List.eq_nil_of_length_eq_zero (by omega)
      walk_at "w"
      refine ⟨_, keyT_word v, ?_⟩
      intro t nt
      walk_at "w"
      refine ⟨_, uL_same, ?_⟩
      rw [dL_new nt]
      exact q [(v, 1)] (ld_one v u v (.inl ⟨hu, rfl⟩))
    · walk_at "w"
      walk_at "s"
      refine ⟨(okN_int _).ok, (okN_int _).ok, ?_⟩
      rw [eqD_int, List.length_map]
      refine ifB_dec (fun e2 => ?_) (fun e2 => ?_)
      · have hv : v = [] := List.eq_nil_of_length_eq_zero (by omega)
        walk_at "w"
        refine ⟨_, keyT_word u, ?_⟩
        intro t nt
        walk_at "w"
        refine ⟨_, uL_same, ?_⟩
        rw [dL_new nt]
        exact q [(u, 1)] (ld_one u u v (.inr ⟨hv, rfl⟩))
      · obtain ⟨a, u, rfl⟩ : ∃ a u', u = a :: u' := by
          cases u with
          | nil => exact absurd rfl e
          | cons a u => exact ⟨a, u, rfl⟩
        obtain ⟨b, v, rfl⟩ : ∃ b v', v = b :: v' := by
          cases v with
          | nil => exact absurd rfl e2
          | cons b v => exact ⟨b, v, rfl⟩
        walk_at "w"
        walk_at "s"
        intro fa nfa
        walk_at "w"
        walk_at "s"
        have c1 : ∀ (x : Int) (w : List Int), DL.cutD ((x :: w).map D.int) (some 1) none = w.map D.int := fun x w => (cutD_from _ 1).trans (by rw [List.map_cons]; rfl)
        simp only [List.length_cons] at h n9
        refine ⟨_, atI_nat (j := 0) rfl, ?_⟩
        walk_at "w"
        rw [c1]
        refine c_laid_counts n u (b :: v) (by simp only [List.length_cons]; omega) (by simp only [List.length_cons]; omega) fun r1 h1 => ?_
        have l1 := addL_len a r1 []
        walk_at "w"
        have f1 := h1.few9 (by simp only [List.length_cons]; omega)
        refine c_add_longer r1 (r := []) (by simp only [List.length_nil]; omega) (fun w hw => by have := h1.ln w hw; simp only [List.length_cons] at this; omega) uL_same ?_
        rw [uL_uL]
        walk_at "w"
        walk_at "s"
        refine ⟨_, atI_nat (j := 0) rfl, ?_⟩
        walk_at "w"
        rw [c1]
        refine c_laid_counts n (a :: u) v (by simp only [List.length_cons]; omega) (by simp only [List.length_cons]; omega) fun r2 h2 => ?_
        have l2 := addL_len b r2 (addL a r1 [])
        walk_at "w"
        have f2 := h2.few9 (by simp only [List.length_cons]; omega)
        simp only [List.length_nil] at l1
        refine c_add_longer r2 (by omega) (fun w hw => by have := h2.ln w hw; simp only [List.length_cons] at this; omega) uL_same ?_
        rw [uL_uL]
        walk_at "w"
        walk_at "s"
        refine ⟨_, atI_nat (j := 0) rfl, ?_⟩
        walk_at "w"
        refine ⟨_, atI_nat (j := 0) rfl, ?_⟩
        walk_at "w"
        refine ⟨(okN_int _).ok, (okN_int _).ok, ?_⟩
        rw [eqD_int]
        refine ifB_dec (fun ab => ?_) (fun ab => ?_)
        · walk_at "w"
          refine ⟨_, atI_nat (j := 0) rfl, ?_⟩
          walk_at "w"
          rw [c1, c1]
          refine c_laid_counts n u v (by omega) (by omega) fun r3 h3 => ?_
          have f3 := h3.few9 (by omega)
          have l3 := addL_len a r3 (addL b r2 (addL a r1 []))
          walk_at "w"
          refine c_add_longer r3 (by omega) (fun w hw => by have := h3.ln w hw; omega) uL_same ?_
          rw [uL_uL]
          walk_at "w"
          walk_at "s"
          refine ⟨_, uL_same, ?_⟩
          rw [dL_new nfa]
          have := Ld.cc h1 h2 h3
          rw [if_pos ab] at this
          exact q _ this
        · walk_at "w"
          walk_at "s"
          refine ⟨_, uL_same, ?_⟩
          rw [dL_new nfa]
          exact q _ (Ld.cc2 ab h1 h2)
theorem sumR_perm {r s : Row} (h : r.Perm s) (f : List Int → Int) : sumR r f = sumR s f := by
  induction h with
  | nil => rfl
  | cons x _ ih => rw [sumR, sumR, ih]
  | swap x y l => rw [sumR, sumR, sumR, sumR]; omega
  | trans _ _ h1 h2 => exact h1.trans h2
theorem sumR_le : ∀ {r : Row} (_ : ∀ p ∈ r, 0 ≤ p.2), 0 ≤ sumR r (fun _ => 1) ∧ ∀ p ∈ r, p.2 ≤ sumR r fun _ => 1
  | [], _ => ⟨Int.le_refl 0, fun p hp => by cases hp⟩
  | q :: r, h => by
    obtain ⟨h1, h2⟩ := sumR_le (r := r) fun p hp => h p (List.mem_cons_of_mem _ hp)
    have h0 := h q List.mem_cons_self
    rw [sumR, Int.mul_one]
    refine ⟨by omega, fun p hp => ?_⟩
    rcases List.mem_cons.mp hp with rfl | hp
    · omega
    · have := h2 p hp; omega

end Law

namespace Law
open PySem PySem.Spec PyProof.Rows L2 DL
local macro_rules | `(tactic| walk_at "w") => `(tactic| conv => whnf)
local macro_rules | `(tactic| walk_at "s") => `(tactic| (refine ⟨?_⟩; conv => whnf))
local macro_rules | `(tactic| walk_at "z") => `(tactic| (refine small ?_; simp only [List.length_map, List.length_append, List.length_reverse, List.length_cons, List.length_nil]; omega))
local macro_rules | `(tactic| walk_at "q") => `(tactic| (refine ⟨(okN_tints _).ok, (okN_tints _).ok, ?_⟩; rw [eqD_tints]))
theorem Lh_comm : ∀ (n : Nat) (u v : List Int) (f : List Int → Int), u.length + v.length ≤ n → Lh u v f = Lh v u f
  | _, [], v, f, _ => (Lh_nr v f).symm
  | _, a :: u, [], f, _ => Lh_nr (a :: u) f
  | 0, a :: u, b :: v, f, h => by simp at h
  | n + 1, a :: u, b :: v, f, h => by
    simp only [List.length_cons] at h
    rw [Lh_cc, Lh_cc, Lh_comm n u (b :: v) _ (by simp only [List.length_cons]; omega), Lh_comm n (a :: u) v _ (by simp only [List.length_cons]; omega), Lh_comm n u v _ (by omega)]
    by_cases e : a = b
    · subst e; rw [if_pos rfl]; omega
    · rw [if_neg e, if_neg (Ne.symm e)]; omega
/-! lists of words with their numbers, in order: by their sizes, then rising -/
def tokW : List Int → List (Int ⊕ List Nat)
  | [] => [.inl 0]
  | x :: w => .inl 1 :: .inl x :: tokW w
theorem tokW_py : ∀ w : List Int, PySem.W.keyToksAll (w.map PySem.PyData.int) = tokW w
  | [] => rfl
  | x :: w => by
    show Sum.inl 1 :: .inl x :: PySem.W.keyToksAll (w.map PySem.PyData.int) = _
    rw [tokW_py w]
    rfl
theorem tokW_D : ∀ w : List Int, PySem.W.keyToksAll (DL.toPys (w.map D.int)) = tokW w
  | [] => rfl
  | x :: w => by
    show Sum.inl 1 :: .inl x :: PySem.W.keyToksAll (DL.toPys (w.map D.int)) = _
    rw [tokW_D w]
    rfl
def hdW (w : List Int) : List (Int ⊕ List Nat) := .inl 1 :: .inl (w.length : Nat) :: .inl 1 :: tokW w
def Cut (x y : List (Int ⊕ List Nat)) : Prop := ∃ p u v a b, x = p ++ .inl u :: a ∧ y = p ++ .inl v :: b ∧ u ≠ v
theorem Cut.cons {x y : List (Int ⊕ List Nat)} (h : Cut x y) (c : Int ⊕ List Nat) : Cut (c :: x) (c :: y) := by
  obtain ⟨p, u, v, a, b, rfl, rfl, n⟩ := h
  exact ⟨c :: p, u, v, a, b, rfl, rfl, n⟩
theorem cut_tok : ∀ {w w' : List Int}, w ≠ w' → Cut (tokW w) (tokW w')
  | [], [], h => absurd rfl h
  | [], y :: w', _ => ⟨[], 0, 1, [], .inl y :: tokW w', rfl, rfl, by decide⟩
  | x :: w, [], _ => ⟨[], 1, 0, .inl x :: tokW w, [], rfl, rfl, by decide⟩
  | x :: w, y :: w', h => by
    by_cases e : x = y
    · subst e
      exact ((cut_tok fun q => h (by rw [q])).cons (.inl x)).cons (.inl 1)
    · exact ⟨[.inl 1], x, y, tokW w, tokW w', rfl, rfl, e⟩
theorem cut_hd {w w' : List Int} (h : w ≠ w') : Cut (hdW w) (hdW w') := by
  by_cases e : w.length = w'.length
  · unfold hdW
    rw [e]
    exact (((cut_tok h).cons _).cons _).cons _
  · exact ⟨[.inl 1], _, _, _, _, rfl, rfl, by omega⟩
theorem lex_cut {u v : Int} (n : u ≠ v) (a b : List (Int ⊕ List Nat)) : ∀ p : List (Int ⊕ List Nat), PyProof.Rows.lexLt PyProof.Rows.itemOrd (p ++ .inl u :: a) (p ++ .inl v :: b) = decide (u < v)
  | [] => by
    rw [List.nil_append, List.nil_append, PyProof.Rows.lexLt.eq_4]
    show (decide (u < v) || !decide (v < u) && _) = _
    by_cases h : u < v
    · rw [decide_eq_true h]; rfl
    · rw [decide_eq_false h, decide_eq_true (show v < u by omega)]; rfl
  | c :: p => by
    rw [List.cons_append, List.cons_append, PyProof.Rows.lexLt.eq_4, PyProof.Rows.itemOrd.irrefl, lex_cut n a b p]
    rfl
/-- no later than -/
def leW (w w' : List Int) : Prop := PyProof.Rows.lexLt PyProof.Rows.itemOrd (hdW w') (hdW w) = false
theorem lex_ends {w w' : List Int} (h : w ≠ w') (a b : List (Int ⊕ List Nat)) : PyProof.Rows.lexLt PyProof.Rows.itemOrd (hdW w ++ a) (hdW w' ++ b) = PyProof.Rows.lexLt PyProof.Rows.itemOrd (hdW w) (hdW w') := by
  obtain ⟨p, u, v, x, y, e1, e2, n⟩ := cut_hd h
  rw [e1, e2, List.append_assoc, List.append_assoc, List.cons_append, List.cons_append, lex_cut n, lex_cut n]
theorem leW_anti {w w' : List Int} (h1 : leW w w') (h2 : leW w' w) : w = w' := by
  by_cases h : w = w'
  · exact h
  · obtain ⟨p, u, v, x, y, e1, e2, n⟩ := cut_hd h
    unfold leW at h1 h2
    rw [e1, e2, lex_cut (Ne.symm n)] at h1
    rw [e1, e2, lex_cut n] at h2
    have := of_decide_eq_false h1
    have := of_decide_eq_false h2
    omega
theorem enc_hd (w : List Int) : PySem.W.keyToks (DL.encW w) = hdW w ++ [Sum.inl 0] := by
  show (.inl 1 :: .inl (w.length : Nat) :: .inl 1 :: (PySem.W.keyToksAll (w.map PySem.PyData.int) ++ [.inl 0]) : List (Int ⊕ List Nat)) = _
  rw [tokW_py]
  rfl
def trD (p : List Int × Int) : D := .tup [.int (p.1.length : Nat), wordD p.1, .int p.2]
theorem tr_hd (p : List Int × Int) : PySem.W.keyToks (toPy (trD p)) = hdW p.1 ++ [Sum.inl 1, Sum.inl p.2, Sum.inl 0] := by
  show (.inl 1 :: .inl (p.1.length : Nat) :: .inl 1 :: (PySem.W.keyToksAll (DL.toPys (p.1.map D.int)) ++ [.inl 1, .inl p.2, .inl 0]) : List (Int ⊕ List Nat)) = _
  rw [tokW_D]
  rfl
theorem data_trans {β : Type} {k : β → PySem.PyData} (a b c : β) (h1 : PySem.W.dataLe false k a b = true) (h2 : PySem.W.dataLe false k b c = true) : PySem.W.dataLe false k a c = true := by
  have e : ∀ x y, PySem.W.dataLe false k x y = !PySem.W.dataLt (k y) (k x) := fun x y => rfl
  rw [e] at h1 h2 ⊢
  simp only [Bool.not_eq_true'] at h1 h2 ⊢
  cases h : PySem.W.dataLt (k c) (k a) with
  | false => rfl
  | true =>
    rcases PyProof.Rows.lex_negTrans (O := PyProof.Rows.itemOrd) (PySem.W.keyToks (k c)) (PySem.W.keyToks (k b)) (PySem.W.keyToks (k a)) h with h | h
    · exact h.symm.trans h2
    · exact h.symm.trans h1
theorem data_total {β : Type} {k : β → PySem.PyData} (a b : β) : (PySem.W.dataLe false k a b || PySem.W.dataLe false k b a) = true := by
  have e : ∀ x y, PySem.W.dataLe false k x y = !PySem.W.dataLt (k y) (k x) := fun x y => rfl
  rw [e, e]
  cases h1 : PySem.W.dataLt (k b) (k a) with
  | false => rfl
  | true =>
    cases h2 : PySem.W.dataLt (k a) (k b) with
    | false => rfl
    | true =>
      have := PyProof.Rows.lex_trans (O := PyProof.Rows.itemOrd) (PySem.W.keyToks (k b)) (PySem.W.keyToks (k a)) (PySem.W.keyToks (k b)) h1 h2
      rw [PyProof.Rows.lex_irrefl] at this
      cases this
def LeR (p q : List Int × Int) : Prop := leW p.1 q.1
theorem data_le {β : Type} {k : β → PySem.PyData} {f : β → List Int} {e : β → List (Int ⊕ List Nat)} (h : ∀ x, PySem.W.keyToks (k x) = hdW (f x) ++ e x) {x y : β} (n : f x ≠ f y) (d : PySem.W.dataLe false k x y = true) : leW (f x) (f y) := by
  have d : (!PyProof.Rows.lexLt PyProof.Rows.itemOrd (PySem.W.keyToks (k y)) (PySem.W.keyToks (k x))) = true := d
  rw [h, h, lex_ends (Ne.symm n)] at d
  unfold leW
  simpa using d
/-- what is told of both: sorted, each word once, its number above 0 -/
structure LtS (u v : List Int) (r : Row) : Prop where
  nd : (keysR r).Nodup
  sm : ∀ f, sumR r f = Lh u v f
  ln : ∀ p ∈ r, p.1.length ≤ u.length + v.length
  lt : ∀ p ∈ r, ∀ x ∈ p.1, x ∈ u ∨ x ∈ v
  few : r.length ≤ 3 ^ (u.length + v.length)
  pos : ∀ p ∈ r, 0 < p.2
  so : r.Pairwise LeR
theorem sumR_ind {r : Row} (nd : (keysR r).Nodup) (w : List Int) : sumR r (fun x => if x = w then 1 else 0) = getR r w := by
  induction r with
  | nil => rfl
  | cons p r ih =>
    obtain ⟨n1, n2⟩ := List.nodup_cons.mp (show (p.1 :: keysR r).Nodup from nd)
    rw [sumR, getR, ih n2]
    by_cases e : p.1 = w
    · rw [if_pos e, if_pos e, getR_out (by rw [← e]; exact n1)]
      omega
    · rw [if_neg e, if_neg e]
      omega
theorem getR_mem {r : Row} (nd : (keysR r).Nodup) {p : List Int × Int} (h : p ∈ r) : getR r p.1 = p.2 := by
  induction r with
  | nil => cases h
  | cons q r ih =>
    obtain ⟨n1, n2⟩ := List.nodup_cons.mp (show (q.1 :: keysR r).Nodup from nd)
    rw [getR]
    rcases List.mem_cons.mp h with rfl | h
    · rw [if_pos rfl]
    · rw [if_neg fun e => n1 (by rw [e]; exact List.mem_map.mpr ⟨p, h, rfl⟩)]
      exact ih n2 h
theorem mem_getR {r : Row} {w : List Int} (h : w ∈ keysR r) : (w, getR r w) ∈ r := by
  induction r with
  | nil => cases h
  | cons q r ih =>
    rw [getR]
    by_cases e : q.1 = w
    · rw [if_pos e, ← e]
      exact List.mem_cons_self
    · rw [if_neg e]
      exact List.mem_cons_of_mem _ (ih ((List.mem_cons.mp (show w ∈ q.1 :: keysR r from h)).resolve_left fun z => e z.symm))
theorem rows_mem {r s : Row} (nr : (keysR r).Nodup) (ns : (keysR s).Nodup) (pr : ∀ p ∈ r, 0 < p.2) (h : ∀ f, sumR r f = sumR s f) {p : List Int × Int} (hp : p ∈ r) : p ∈ s := by
  have e := h fun x => if x = p.1 then 1 else 0
  rw [sumR_ind nr, sumR_ind ns, getR_mem nr hp] at e
  have hk : p.1 ∈ keysR s := by
    by_cases q : p.1 ∈ keysR s
    · exact q
    · rw [getR_out q] at e
      have := pr p hp
      omega
  have := mem_getR hk
  rw [← e] at this
  exact this
theorem nd_of_keys {r : Row} (h : (keysR r).Nodup) : r.Nodup := (List.pairwise_map.mp h).imp fun h e => h (by rw [e])
theorem LtS.uniq {u v : List Int} {r s : Row} (hr : LtS u v r) (hs : LtS u v s) : r = s := by
  have pm : r.Perm s := (List.perm_ext_iff_of_nodup (nd_of_keys hr.nd) (nd_of_keys hs.nd)).mpr fun p => ⟨rows_mem hr.nd hs.nd hr.pos fun f => (hr.sm f).trans (hs.sm f).symm, rows_mem hs.nd hr.nd hs.pos fun f => (hs.sm f).trans (hr.sm f).symm⟩
  refine List.Perm.eq_of_pairwise (le := LeR) (fun p q hp hq h1 h2 => ?_) hr.so hs.so pm
  have e := leW_anti h1 h2
  have g1 := getR_mem hr.nd hp
  have g2 := getR_mem hr.nd (pm.mem_iff.mpr hq)
  rw [← e, g1] at g2
  exact Prod.ext e g2
theorem LtS.swap {u v : List Int} {r : Row} (h : LtS u v r) : LtS v u r := ⟨h.nd, fun f => (h.sm f).trans (Lh_comm _ u v f (Nat.le_refl _)), fun p hp => Nat.le_trans (h.ln p hp) (by omega), fun p hp x hx => (h.lt p hp x hx).symm, by rw [Nat.add_comm]; exact h.few, h.pos, h.so⟩
/-- a row sorted as it may be -/
theorem LtS.of {u v : List Int} {r r' : Row} (h : Ld u v r) (p : r'.Perm r) (so : r'.Pairwise LeR) : LtS u v r' := by
  have pk : (keysR r').Perm (keysR r) := p.map _
  exact ⟨pk.nodup_iff.mpr h.nd, fun f => (sumR_perm p f).trans (h.sm f), fun q hq => h.ln _ (List.mem_map.mpr ⟨q, p.mem_iff.mp hq, rfl⟩), fun q hq => h.lt _ (List.mem_map.mpr ⟨q, p.mem_iff.mp hq, rfl⟩), by rw [p.length_eq]; exact h.few, fun q hq => h.pos q (p.mem_iff.mp hq), so⟩
def unI : List Int × D → List Int × Int := fun x => (x.1, match x.2 with | .int i => i | _ => 0)
theorem ne_keys {β : Type} {f : β → List Int} {xs : List β} (h : (xs.map f).Nodup) {le : β → β → Prop} (s : xs.Pairwise le) : xs.Pairwise fun x y => f x ≠ f y ∧ le x y := (List.pairwise_map.mp h).imp₂ (fun _ _ a b => ⟨a, b⟩) s
theorem sort_row {u v : List Int} {r : Row} (h : Ld u v r) : ∃ r' : Row, LtS u v r' ∧ (DL.sortW (keysR r) (rowDs r)).map pairW = r'.map fun p => D.tup [wordD p.1, .int p.2] := by
  have hz : (keysR r).zip (rowDs r) = r.map fun p => (p.1, D.int p.2) := by
    unfold keysR rowDs
    rw [List.zip_map']
  have pm : (DL.sortW (keysR r) (rowDs r)).Perm (r.map fun p => (p.1, D.int p.2)) := by
    unfold DL.sortW
    rw [hz]
    exact List.mergeSort_perm _ _
  have pm2 : ((DL.sortW (keysR r) (rowDs r)).map unI).Perm r := by
    have := pm.map unI
    rw [List.map_map] at this
    refine this.trans (List.Perm.of_eq ?_)
    conv => rhs; rw [← List.map_id r]
    exact List.map_congr_left fun p _ => rfl
  have so : (DL.sortW (keysR r) (rowDs r)).Pairwise fun a b => PySem.W.dataLe false (fun p : List Int × D => DL.encW p.1) a b = true := List.pairwise_mergeSort data_trans data_total _
  have nd : ((DL.sortW (keysR r) (rowDs r)).map (·.1)).Nodup := by
    refine (pm.map (·.1)).nodup_iff.mpr ?_
    rw [List.map_map]
    exact h.nd
  refine ⟨(DL.sortW (keysR r) (rowDs r)).map unI, LtS.of h pm2 ?_, ?_⟩
  · refine List.pairwise_map.mpr ((ne_keys nd so).imp fun {a b} z => ?_)
    exact data_le (k := fun p : List Int × D => DL.encW p.1) (f := fun p : List Int × D => p.1) (fun x => enc_hd x.1) z.1 z.2
  · rw [List.map_map]
    refine List.map_congr_left fun x hx => ?_
    obtain ⟨p, _, rfl⟩ := List.mem_map.mp (pm.mem_iff.mp hx)
    rfl
theorem c_laid_together {u v : List Int} (n8 : u.length + v.length ≤ 8) {l : LH} {Q : DK} {x y : D} (hx : Hd x u) (hy : Hd y v) (q : ∀ r, LtS u v r → Q (.lst (r.map fun p => D.tup [wordD p.1, .int p.2])) l) : callD D_laid_together [x, y] l Q := by
  refine ⟨rfl, ?_⟩
  rcases hx with rfl | rfl <;> rcases hy with rfl | rfl
  all_goals
    walk_at "w"
    refine c_laid_counts 12 u v (by omega) n8 fun r hr => ?_
    walk_at "w"
    walk_at "s"
    refine ⟨keysR r, rowKs_keys r, fun w hw => by have := hr.ln w hw; omega, ?_⟩
    obtain ⟨r', hp, e⟩ := sort_row hr
    rw [e]
    exact q r' hp
theorem c_laid_together_m {u v : List Int} (n8 : u.length + v.length ≤ 8) {l : LH} {Q : DK} {x y : D} (hx : Hd x u) (hy : Hd y v) (q : ∀ r, LtS u v r → newL (.lst (r.map fun p => D.tup [wordD p.1, .int p.2])) l Q) : callD D_laid_together_m [x, y] l Q := by
  refine ⟨rfl, ?_⟩
  rcases hx with rfl | rfl <;> rcases hy with rfl | rfl
  all_goals
    walk_at "w"
    refine c_laid_counts 12 u v (by omega) n8 fun r hr => ?_
    walk_at "w"
    walk_at "s"
    refine ⟨keysR r, rowKs_keys r, fun w hw => by have := hr.ln w hw; omega, ?_⟩
    obtain ⟨r', hp, e⟩ := sort_row hr
    rw [e]
    exact q r' hp

end Law

namespace Law
open PySem PySem.Spec PyProof.Rows L2 DL
local macro_rules | `(tactic| walk_at "w") => `(tactic| conv => whnf)
local macro_rules | `(tactic| walk_at "s") => `(tactic| (refine ⟨?_⟩; conv => whnf))
local macro_rules | `(tactic| walk_at "z") => `(tactic| (refine small ?_; simp only [List.length_map, List.length_append, List.length_reverse, List.length_cons, List.length_nil]; omega))
local macro_rules | `(tactic| walk_at "q") => `(tactic| (refine ⟨(okN_tints _).ok, (okN_tints _).ok, ?_⟩; rw [eqD_tints]))
/-! choices of places, and the words that two of them spell -/
def sumL {α : Type} (F : α → Int) : List α → Int
  | [] => 0
  | x :: xs => F x + sumL F xs
theorem sumL_app {α : Type} (F : α → Int) : ∀ xs ys : List α, sumL F (xs ++ ys) = sumL F xs + sumL F ys
  | [], ys => by rw [List.nil_append, sumL, Int.zero_add]
  | x :: xs, ys => by rw [List.cons_append, sumL, sumL, sumL_app F xs ys, Int.add_assoc]
theorem sumL_map {α β : Type} (F : β → Int) (g : α → β) : ∀ xs : List α, sumL F (xs.map g) = sumL (fun x => F (g x)) xs
  | [] => rfl
  | x :: xs => by rw [List.map_cons, sumL, sumL, sumL_map F g xs]
theorem sumL_flat {α β : Type} (F : β → Int) (g : α → List β) : ∀ xs : List α, sumL F (xs.flatMap g) = sumL (fun x => sumL F (g x)) xs
  | [] => rfl
  | x :: xs => by rw [List.flatMap_cons, sumL_app, sumL, sumL_flat F g xs]
theorem sumL_congr {α : Type} {F G : α → Int} : ∀ {xs : List α}, (∀ x ∈ xs, F x = G x) → sumL F xs = sumL G xs
  | [], _ => rfl
  | x :: xs, h => by rw [sumL, sumL, h x List.mem_cons_self, sumL_congr fun y hy => h y (List.mem_cons_of_mem _ hy)]
theorem sumL_add {α : Type} (F G : α → Int) : ∀ xs : List α, sumL (fun x => F x + G x) xs = sumL F xs + sumL G xs
  | [] => rfl
  | x :: xs => by rw [sumL, sumL, sumL, sumL_add F G xs]; omega
theorem sumL_zero {α : Type} {F : α → Int} {xs : List α} (h : ∀ x ∈ xs, F x = 0) : sumL F xs = 0 := by
  induction xs with
  | nil => rfl
  | cons x xs ih => rw [sumL, h x List.mem_cons_self, ih fun y hy => h y (List.mem_cons_of_mem _ hy)]; rfl
def stA (one : List Nat) : Nat := match one.getLast? with | none => 0 | some p => p + 1
theorem stA_snoc (one : List Nat) (p : Nat) : stA (one ++ [p]) = p + 1 := by unfold stA; rw [List.getLast?_append]; rfl
def extC (m : Nat) (one : List Nat) : List (List Nat) := (List.range' (stA one) (m - stA one)).map fun k => one ++ [k]
def chs (m : Nat) : Nat → List (List Nat)
  | 0 => [[]]
  | k + 1 => (chs m k).flatMap (extC m)
structure ChOk (m k : Nat) (A : List Nat) : Prop where
  len : A.length = k
  st : stA A ≤ m
  lt : ∀ p ∈ A, p < stA A
  nd : A.Nodup
  fit : A.length ≤ stA A
theorem chs_ok : ∀ {m k : Nat} {A : List Nat}, A ∈ chs m k → ChOk m k A
  | m, 0, A, h => by
    rw [List.mem_singleton.mp (show A ∈ [[]] from h)]
    exact ⟨rfl, Nat.zero_le _, fun p hp => (by cases hp), List.nodup_nil, Nat.le_refl _⟩
  | m, k + 1, A, h => by
    obtain ⟨B, hB, hA⟩ := List.mem_flatMap.mp (show A ∈ (chs m k).flatMap (extC m) from h)
    obtain ⟨j, hj, rfl⟩ := List.mem_map.mp hA
    obtain ⟨b1, b2, b3, b4, b5⟩ := chs_ok hB
    rw [List.mem_range'_1] at hj
    refine ⟨by rw [List.length_append, b1]; rfl, by rw [stA_snoc]; omega, fun p hp => ?_, ?_, ?_⟩
    · rw [stA_snoc]
      rcases List.mem_append.mp hp with z | z
      · have := b3 p z; omega
      · rw [List.mem_singleton.mp z]; omega
    · refine List.nodup_append.mpr ⟨b4, List.pairwise_singleton _ _, fun p hp q hq e => ?_⟩
      rw [List.mem_singleton.mp hq] at e
      have := b3 p hp
      omega
    · rw [stA_snoc, List.length_append, List.length_singleton]
      omega
theorem chs_none {m k : Nat} (h : m < k) : chs m k = [] := by
  refine List.eq_nil_iff_forall_not_mem.mpr fun A hA => ?_
  have c := chs_ok hA
  have := c.len; have := c.st; have := c.fit
  omega
theorem ext_small {m : Nat} {one : List Nat} (h : stA one ≤ m) (F : List Nat → Int) : sumL F (extC (m + 1) one) = sumL F (extC m one) + F (one ++ [m]) := by
  unfold extC
  rw [show m + 1 - stA one = (m - stA one) + 1 by omega, List.range'_concat, List.map_append, sumL_app, Nat.one_mul, show stA one + (m - stA one) = m by omega]
  show _ + (F (one ++ [m]) + 0) = _
  rw [Int.add_zero]
theorem ext_full (m : Nat) (one : List Nat) : extC (m + 1) (one ++ [m]) = [] := by
  unfold extC
  rw [stA_snoc, Nat.sub_self]
  rfl
theorem chs_split (m : Nat) : ∀ (k : Nat) (F : List Nat → Int), sumL F (chs (m + 1) (k + 1)) = sumL F (chs m (k + 1)) + sumL (fun A => F (A ++ [m])) (chs m k)
  | 0, F => by
    show sumL F (extC (m + 1) [] ++ []) = sumL F (extC m [] ++ []) + sumL (fun A => F (A ++ [m])) [[]]
    rw [List.append_nil, List.append_nil, ext_small (Nat.zero_le _)]
    show _ = _ + (F ([] ++ [m]) + 0)
    rw [Int.add_zero]
  | k + 1, F => by
    show sumL F ((chs (m + 1) (k + 1)).flatMap (extC (m + 1))) = sumL F ((chs m (k + 1)).flatMap (extC m)) + _
    rw [sumL_flat, sumL_flat, chs_split m k, sumL_zero (xs := chs m k) fun A _ => by rw [ext_full]; rfl, Int.add_zero, sumL_congr fun A hA => ext_small (chs_ok hA).st F, sumL_add]
/-! a dict by places, the last one put behind -/
abbrev PL := List (Nat × Int)
def look : PL → Nat → Option Int
  | [], _ => none
  | z :: L, p => if z.1 = p then some z.2 else look L p
theorem look_app : ∀ (L M : PL) (p : Nat), look (L ++ M) p = (look L p).or (look M p)
  | [], M, p => rfl
  | z :: L, M, p => by
    rw [List.cons_append, look, look, look_app L M p]
    split <;> rfl
theorem look_none : ∀ {L : PL} {p : Nat}, (∀ z ∈ L, z.1 ≠ p) → look L p = none
  | [], _, _ => rfl
  | z :: L, p, h => by rw [look, if_neg (h z List.mem_cons_self)]; exact look_none fun y hy => h y (List.mem_cons_of_mem _ hy)
theorem look_some : ∀ {L : PL} {p : Nat}, p ∈ L.map (·.1) → ∃ x, look L p = some x ∧ (p, x) ∈ L
  | [], _, h => by cases h
  | z :: L, p, h => by
    rw [look]
    by_cases e : z.1 = p
    · rw [if_pos e]; exact ⟨_, rfl, by rw [← e]; exact List.mem_cons_self⟩
    · rw [if_neg e]
      obtain ⟨x, h1, h2⟩ := look_some ((List.mem_cons.mp (show p ∈ z.1 :: L.map (·.1) from h)).resolve_left fun q => e q.symm)
      exact ⟨x, h1, List.mem_cons_of_mem _ h2⟩
def puts : PL → PL → Option PL
  | L, [] => some L
  | L, z :: R => match look L z.1 with
    | some x => if x = z.2 then puts L R else none
    | none => puts (L ++ [z]) R
def finP (m : Nat) (L : PL) : Option (List Int) := if L.length = m then some ((List.range m).map fun k => (look L k).getD 0) else none
def wof (m : Nat) (A : List Nat) (u : List Int) (B : List Nat) (v : List Int) : Option (List Int) := (puts (A.zip u) (B.zip v)).bind (finP m)
structure PE (m : Nat) (a : Int) (L L' : PL) : Prop where
  at_ : look L m = some a
  oth : ∀ p, p ≠ m → look L p = look L' p
  len : L.length = L'.length + 1
theorem puts_pe {m : Nat} {a : Int} : ∀ {R L L' : PL}, PE m a L L' → (∀ z ∈ R, z.1 ≠ m) → (puts L R = none ∧ puts L' R = none) ∨ ∃ X X', puts L R = some X ∧ puts L' R = some X' ∧ PE m a X X'
  | [], L, L', e, _ => .inr ⟨L, L', rfl, rfl, e⟩
  | z :: R, L, L', e, h => by
    have zm := h z List.mem_cons_self
    have h' : ∀ y ∈ R, y.1 ≠ m := fun y hy => h y (List.mem_cons_of_mem _ hy)
    have el := e.oth z.1 zm
    cases q : look L' z.1 with
    | some x =>
      rw [q] at el
      show (puts L (z :: R) = none ∧ puts L' (z :: R) = none) ∨ _
      simp only [puts, el, q]
      by_cases xz : x = z.2
      · rw [if_pos xz, if_pos xz]; exact puts_pe e h'
      · rw [if_neg xz, if_neg xz]; exact .inl ⟨rfl, rfl⟩
    | none =>
      rw [q] at el
      simp only [puts, el, q]
      refine puts_pe ⟨?_, fun p pm => ?_, ?_⟩ h'
      · rw [look_app, e.at_]; rfl
      · rw [look_app, look_app, e.oth p pm]
      · rw [List.length_append, List.length_append, e.len]; omega
theorem puts_snoc : ∀ (R L : PL) (z : Nat × Int), puts L (R ++ [z]) = (puts L R).bind fun X => puts X [z]
  | [], L, z => rfl
  | y :: R, L, z => by
    rw [List.cons_append]
    simp only [puts]
    cases q : look L y.1 with
    | some x =>
      dsimp only
      by_cases e : x = y.2
      · rw [if_pos e, if_pos e]; exact puts_snoc R L z
      · rw [if_neg e, if_neg e]; rfl
    | none => exact puts_snoc R (L ++ [y]) z
structure LOk (m : Nat) (P : Int → Prop) (L : PL) : Prop where
  nd : (L.map (·.1)).Nodup
  lt : ∀ z ∈ L, z.1 < m
  vs : ∀ z ∈ L, P z.2
theorem puts_ok {m : Nat} {P : Int → Prop} : ∀ {R L X : PL}, LOk m P L → (∀ z ∈ R, z.1 < m ∧ P z.2) → puts L R = some X → LOk m P X
  | [], L, X, h, _, e => by cases e; exact h
  | z :: R, L, X, h, hR, e => by
    have hR' : ∀ y ∈ R, y.1 < m ∧ P y.2 := fun y hy => hR y (List.mem_cons_of_mem _ hy)
    simp only [puts] at e
    cases q : look L z.1 with
    | some x =>
      rw [q] at e
      dsimp only at e
      by_cases xz : x = z.2
      · rw [if_pos xz] at e; exact puts_ok h hR' e
      · rw [if_neg xz] at e; cases e
    | none =>
      rw [q] at e
      refine puts_ok (L := L ++ [z]) ⟨?_, fun y hy => ?_, fun y hy => ?_⟩ hR' e
      · rw [List.map_append]
        refine List.nodup_append.mpr ⟨h.nd, List.pairwise_singleton _ _, fun p hp r hr pr => ?_⟩
        have hr' : r = z.1 := List.mem_singleton.mp hr
        obtain ⟨x, hx, _⟩ := look_some hp
        rw [pr, hr', q] at hx
        cases hx
      · rcases List.mem_append.mp hy with y1 | y1
        · exact h.lt y y1
        · rw [List.mem_singleton.mp y1]; exact (hR z List.mem_cons_self).1
      · rcases List.mem_append.mp hy with y1 | y1
        · exact h.vs y y1
        · rw [List.mem_singleton.mp y1]; exact (hR z List.mem_cons_self).2
theorem nd_len : ∀ {m : Nat} {ks : List Nat}, ks.Nodup → (∀ k ∈ ks, k < m) → ks.length ≤ m
  | 0, [], _, _ => Nat.le_refl _
  | 0, k :: ks, _, h => absurd (h k List.mem_cons_self) (Nat.not_lt_zero _)
  | m + 1, ks, nd, h => by
    have := nd_len (m := m) (ks := ks.erase m) (nd.erase m) fun k hk => by
      have h1 := h k (List.mem_of_mem_erase hk)
      have : k ≠ m := fun e => by rw [e] at hk; exact (List.Nodup.not_mem_erase nd) hk
      omega
    have := List.length_erase (a := m) (l := ks)
    split at this <;> omega
theorem nd_all {m : Nat} {ks : List Nat} (nd : ks.Nodup) (h : ∀ k ∈ ks, k < m) (hl : ks.length = m) {k : Nat} (hk : k < m) : k ∈ ks := by
  by_cases e : k ∈ ks
  · exact e
  · have : (k :: ks).length ≤ m := nd_len (List.nodup_cons.mpr ⟨e, nd⟩) fun j hj => (List.mem_cons.mp hj).elim (fun q => q ▸ hk) (h j)
    rw [List.length_cons] at this
    omega
theorem fin_pe {m : Nat} {a : Int} {X X' : PL} (e : PE m a X X') : finP (m + 1) X = (finP m X').map (· ++ [a]) := by
  unfold finP
  rw [e.len]
  by_cases q : X'.length = m
  · rw [if_pos q, if_pos (by omega), Option.map_some, List.range_succ, List.map_append]
    congr 2
    · exact List.map_congr_left fun k hk => by rw [e.oth k (by have := List.mem_range.mp hk; omega)]
    · show [(look X m).getD 0] = [a]
      rw [e.at_]; rfl
  · rw [if_neg q, if_neg (by omega)]; rfl
theorem fin_no {m : Nat} {P : Int → Prop} {X : PL} (h : LOk m P X) : finP (m + 1) X = none := by
  unfold finP
  have := nd_len h.nd fun k hk => by
    obtain ⟨z, hz, rfl⟩ := List.mem_map.mp hk
    exact h.lt z hz
  rw [List.length_map] at this
  rw [if_neg (by omega)]
theorem zip_ok {m k : Nat} {A : List Nat} {u : List Int} (h : ChOk m k A) (hu : u.length = k) : LOk m (· ∈ u) (A.zip u) := by
  refine ⟨?_, fun z hz => ?_, fun z hz => ?_⟩
  · rw [List.map_fst_zip (by have := h.len; omega)]; exact h.nd
  · have := h.lt z.1 (List.of_mem_zip hz).1
    have := h.st
    omega
  · exact (List.of_mem_zip hz).2
theorem zip_in {m k : Nat} {A : List Nat} {u : List Int} (h : ChOk m k A) (hu : u.length = k) : ∀ z ∈ A.zip u, z.1 < m ∧ z.2 ∈ u := fun z hz => ⟨(zip_ok h hu).lt z hz, (zip_ok h hu).vs z hz⟩
section
variable {m k j : Nat} {A B : List Nat} {u v : List Int}
theorem puts_uv (hA : ChOk m k A) (hu : u.length = k) (hB : ChOk m j B) (hv : v.length = j) {X : PL} (e : puts (A.zip u) (B.zip v) = some X) : LOk m (fun x => x ∈ u ∨ x ∈ v) X :=
  puts_ok ⟨(zip_ok hA hu).nd, (zip_ok hA hu).lt, fun z hz => .inl ((zip_ok hA hu).vs z hz)⟩ (fun z hz => ⟨(zip_in hB hv z hz).1, .inr (zip_in hB hv z hz).2⟩) e
theorem wof_no (hA : ChOk m k A) (hu : u.length = k) (hB : ChOk m j B) (hv : v.length = j) : wof (m + 1) A u B v = none := by
  unfold wof
  cases e : puts (A.zip u) (B.zip v) with
  | none => rfl
  | some X => exact fin_no (puts_uv hA hu hB hv e)
theorem zip_snoc (hA : A.length = u.length) (p : Nat) (a : Int) : (A ++ [p]).zip (u ++ [a]) = A.zip u ++ [(p, a)] := by rw [List.zip_append hA]; rfl
theorem pe_snoc {L : PL} (h : ∀ z ∈ L, z.1 ≠ m) (a : Int) : PE m a (L ++ [(m, a)]) L := ⟨by rw [look_app, look_none h]; show (if m = m then some a else none) = _; rw [if_pos rfl], fun p pm => by
  rw [look_app]
  show (look L p).or (if m = p then some a else none) = _
  rw [if_neg (Ne.symm pm)]
  cases look L p <;> rfl, by rw [List.length_append]; rfl⟩
theorem wof_l (hA : ChOk m k A) (hu : u.length = k) (hB : ChOk m j B) (hv : v.length = j) (a : Int) : wof (m + 1) (A ++ [m]) (u ++ [a]) B v = (wof m A u B v).map (· ++ [a]) := by
  unfold wof
  rw [zip_snoc (by rw [hA.len, hu])]
  rcases puts_pe (pe_snoc (L := A.zip u) (fun z hz => Nat.ne_of_lt (zip_in hA hu z hz).1) a) (fun z hz => Nat.ne_of_lt (zip_in hB hv z hz).1) with ⟨e1, e2⟩ | ⟨X, X', e1, e2, e⟩
  · rw [e1, e2]; rfl
  · rw [e1, e2]; exact fin_pe e
theorem wof_r (hA : ChOk m k A) (hu : u.length = k) (hB : ChOk m j B) (hv : v.length = j) (b : Int) : wof (m + 1) A u (B ++ [m]) (v ++ [b]) = (wof m A u B v).map (· ++ [b]) := by
  unfold wof
  rw [zip_snoc (by rw [hB.len, hv]), puts_snoc]
  cases e : puts (A.zip u) (B.zip v) with
  | none => rfl
  | some X =>
    have ok := puts_uv hA hu hB hv e
    have nm : ∀ z ∈ X, z.1 ≠ m := fun z hz => Nat.ne_of_lt (ok.lt z hz)
    show (puts X [(m, b)]).bind (finP (m + 1)) = (finP m X).map _
    simp only [puts, look_none nm]
    exact fin_pe (pe_snoc nm b)
theorem wof_b (hA : ChOk m k A) (hu : u.length = k) (hB : ChOk m j B) (hv : v.length = j) (a b : Int) : wof (m + 1) (A ++ [m]) (u ++ [a]) (B ++ [m]) (v ++ [b]) = if a = b then (wof m A u B v).map (· ++ [a]) else none := by
  unfold wof
  rw [zip_snoc (by rw [hA.len, hu]), zip_snoc (by rw [hB.len, hv]), puts_snoc]
  rcases puts_pe (pe_snoc (L := A.zip u) (fun z hz => Nat.ne_of_lt (zip_in hA hu z hz).1) a) (fun z hz => Nat.ne_of_lt (zip_in hB hv z hz).1) with ⟨e1, e2⟩ | ⟨X, X', e1, e2, e⟩
  · rw [e1, e2]; split <;> rfl
  · rw [e1, e2]
    show (puts X [(m, b)]).bind (finP (m + 1)) = if a = b then (finP m X').map _ else none
    simp only [puts, e.at_]
    by_cases ab : a = b
    · rw [if_pos ab, if_pos ab]; exact fin_pe e
    · rw [if_neg ab, if_neg ab]; rfl
/-- the word's letters -/
theorem wof_in (hA : ChOk m k A) (hu : u.length = k) (hB : ChOk m j B) (hv : v.length = j) {w : List Int} (h : wof m A u B v = some w) : w.length = m ∧ ∀ x ∈ w, x ∈ u ∨ x ∈ v := by
  unfold wof at h
  cases e : puts (A.zip u) (B.zip v) with
  | none => rw [e] at h; cases h
  | some X =>
    rw [e] at h
    have h : finP m X = some w := h
    have ok := puts_uv hA hu hB hv e
    unfold finP at h
    by_cases q : X.length = m
    · rw [if_pos q] at h
      cases h
      refine ⟨by rw [List.length_map, List.length_range], fun x hx => ?_⟩
      obtain ⟨i, hi, rfl⟩ := List.mem_map.mp hx
      obtain ⟨y, h1, h2⟩ := look_some (nd_all ok.nd (fun k hk => by
        obtain ⟨z, hz, rfl⟩ := List.mem_map.mp hk
        exact ok.lt z hz) (by rw [List.length_map]; exact q) (List.mem_range.mp hi))
      rw [h1]
      exact ok.vs _ h2
    · rw [if_neg q] at h; cases h
end

end Law

namespace Law
open PySem PySem.Spec PyProof.Rows L2 DL
local macro_rules | `(tactic| walk_at "w") => `(tactic| conv => whnf)
local macro_rules | `(tactic| walk_at "s") => `(tactic| (refine ⟨?_⟩; conv => whnf))
local macro_rules | `(tactic| walk_at "z") => `(tactic| (refine small ?_; simp only [List.length_map, List.length_append, List.length_reverse, List.length_cons, List.length_nil]; omega))
local macro_rules | `(tactic| walk_at "q") => `(tactic| (refine ⟨(okN_tints _).ok, (okN_tints _).ok, ?_⟩; rw [eqD_tints]))
/-! the sum over all choices is that of the words laid together -/
def val (f : List Int → Int) : Option (List Int) → Int
  | some w => f w
  | none => 0
theorem val_map (f : List Int → Int) (a : Int) (o : Option (List Int)) : val f (o.map (· ++ [a])) = val (fun w => f (w ++ [a])) o := by cases o <;> rfl
def spT (m : Nat) (u v : List Int) (f : List Int → Int) : Int := sumL (fun A => sumL (fun B => val f (wof m A u B v)) (chs m v.length)) (chs m u.length)
theorem spT_cc (m : Nat) (u v : List Int) (a b : Int) (f : List Int → Int) : spT (m + 1) (u ++ [a]) (v ++ [b]) f = spT m u (v ++ [b]) (fun w => f (w ++ [a])) + spT m (u ++ [a]) v (fun w => f (w ++ [b])) + if a = b then spT m u v (fun w => f (w ++ [a])) else 0 := by
  have lu : (u ++ [a]).length = u.length + 1 := by rw [List.length_append]; rfl
  have lv : (v ++ [b]).length = v.length + 1 := by rw [List.length_append]; rfl
  unfold spT
  rw [lu, lv, chs_split]
  have e1 : sumL (fun A => sumL (fun B => val f (wof (m + 1) A (u ++ [a]) B (v ++ [b]))) (chs (m + 1) (v.length + 1))) (chs m (u.length + 1)) = sumL (fun A => sumL (fun B => val (fun w => f (w ++ [b])) (wof m A (u ++ [a]) B v)) (chs m v.length)) (chs m (u.length + 1)) :=
    sumL_congr fun A hA => by
      rw [chs_split, sumL_zero (xs := chs m (v.length + 1)) fun B hB => by rw [wof_no (chs_ok hA) lu (chs_ok hB) lv]; rfl, Int.zero_add]
      exact sumL_congr fun B hB => by rw [wof_r (chs_ok hA) lu (chs_ok hB) rfl, val_map]
  have e2 : sumL (fun A => sumL (fun B => val f (wof (m + 1) (A ++ [m]) (u ++ [a]) B (v ++ [b]))) (chs (m + 1) (v.length + 1))) (chs m u.length) = sumL (fun A => sumL (fun B => val (fun w => f (w ++ [a])) (wof m A u B (v ++ [b]))) (chs m (v.length + 1))) (chs m u.length) + if a = b then sumL (fun A => sumL (fun B => val (fun w => f (w ++ [a])) (wof m A u B v)) (chs m v.length)) (chs m u.length) else 0 := by
    have e3 : ∀ A ∈ chs m u.length, sumL (fun B => val f (wof (m + 1) (A ++ [m]) (u ++ [a]) B (v ++ [b]))) (chs (m + 1) (v.length + 1)) = sumL (fun B => val (fun w => f (w ++ [a])) (wof m A u B (v ++ [b]))) (chs m (v.length + 1)) + if a = b then sumL (fun B => val (fun w => f (w ++ [a])) (wof m A u B v)) (chs m v.length) else 0 := fun A hA => by
      rw [chs_split]
      congr 1
      · exact sumL_congr fun B hB => by rw [wof_l (chs_ok hA) rfl (chs_ok hB) lv, val_map]
      · by_cases ab : a = b
        · rw [if_pos ab]
          exact sumL_congr fun B hB => by rw [wof_b (chs_ok hA) rfl (chs_ok hB) rfl, if_pos ab, val_map]
        · rw [if_neg ab]
          exact sumL_zero fun B hB => by rw [wof_b (chs_ok hA) rfl (chs_ok hB) rfl, if_neg ab]; rfl
    rw [sumL_congr e3, sumL_add]
    congr 1
    by_cases ab : a = b
    · simp only [if_pos ab]
    · simp only [if_neg ab]
      exact sumL_zero fun _ _ => rfl
  rw [e1, e2]
  omega
theorem spT_cn (m : Nat) (u : List Int) (a : Int) (f : List Int → Int) : spT (m + 1) (u ++ [a]) [] f = spT m u [] (fun w => f (w ++ [a])) := by
  have lu : (u ++ [a]).length = u.length + 1 := by rw [List.length_append]; rfl
  have hn : ∀ m, ([] : List Nat) ∈ chs m 0 := fun m => List.mem_singleton.mpr rfl
  unfold spT
  rw [lu, chs_split, sumL_zero (xs := chs m (u.length + 1)) fun A hA => ?_, Int.zero_add]
  · refine sumL_congr fun A hA => ?_
    show val f (wof (m + 1) (A ++ [m]) (u ++ [a]) [] []) + 0 = val _ (wof m A u [] []) + 0
    rw [wof_l (chs_ok hA) rfl (chs_ok (hn m)) rfl, val_map]
  · show val f (wof (m + 1) A (u ++ [a]) [] []) + 0 = 0
    rw [wof_no (chs_ok hA) lu (chs_ok (hn m)) rfl]
    rfl
theorem spT_nc (m : Nat) (v : List Int) (b : Int) (f : List Int → Int) : spT (m + 1) [] (v ++ [b]) f = spT m [] v (fun w => f (w ++ [b])) := by
  have lv : (v ++ [b]).length = v.length + 1 := by rw [List.length_append]; rfl
  have hn : ∀ m, ([] : List Nat) ∈ chs m 0 := fun m => List.mem_singleton.mpr rfl
  unfold spT
  rw [lv]
  show sumL (fun B => val f (wof (m + 1) [] [] B (v ++ [b]))) (chs (m + 1) (v.length + 1)) + 0 = sumL (fun B => val (fun w => f (w ++ [b])) (wof m [] [] B v)) (chs m v.length) + 0
  rw [chs_split, sumL_zero (xs := chs m (v.length + 1)) fun B hB => by rw [wof_no (chs_ok (hn m)) rfl (chs_ok hB) lv]; rfl, Int.zero_add]
  congr 1
  exact sumL_congr fun B hB => by rw [wof_r (chs_ok (hn m)) rfl (chs_ok hB) rfl, val_map]
theorem spT_nn (m : Nat) (f : List Int → Int) : spT (m + 1) [] [] f = 0 := by
  have hn : ∀ m, ([] : List Nat) ∈ chs m 0 := fun m => List.mem_singleton.mpr rfl
  show val f (wof (m + 1) [] [] [] []) + 0 + 0 = 0
  rw [wof_no (chs_ok (hn m)) rfl (chs_ok (hn m)) rfl]
  rfl
theorem spT_low {m : Nat} {u v : List Int} (f : List Int → Int) (h : m < u.length ∨ m < v.length) : spT m u v f = 0 := by
  unfold spT
  rcases h with h | h
  · rw [chs_none h]; rfl
  · rw [chs_none h]; exact sumL_zero fun _ _ => rfl
theorem snoc_or (w : List Int) : w = [] ∨ ∃ u x, w = u ++ [x] := by
  cases w with
  | nil => exact .inl rfl
  | cons a w => exact .inr ⟨(a :: w).dropLast, (a :: w).getLast (by simp), (List.dropLast_concat_getLast (by simp)).symm⟩
theorem spT_all : ∀ (N : Nat) (u v : List Int) (f : List Int → Int), u.length + v.length ≤ N → sumL (fun m => spT m u v f) (List.range (N + 1)) = Lh u v f
  | 0, u, v, f, h => by
    have hu : u = [] := List.eq_nil_of_length_eq_zero (by omega)
    have hv : v = [] := List.eq_nil_of_length_eq_zero (by omega)
    subst hu hv
    show f [] + 0 + 0 + 0 = f []
    omega
  | N + 1, u, v, f, h => by
    rw [List.range_succ_eq_map, sumL, sumL_map]
    rcases snoc_or u with rfl | ⟨u, a, rfl⟩
    · rcases snoc_or v with rfl | ⟨v, b, rfl⟩
      · rw [sumL_zero fun m _ => spT_nn m f]
        show f [] + 0 + 0 + 0 = f []
        omega
      · rw [spT_low f (.inr (by rw [List.length_append]; show 0 < v.length + 1; omega)), Int.zero_add, sumL_congr fun m _ => spT_nc m v b f, spT_all N [] v _ (by rw [List.length_append, List.length_singleton] at h; simp only [List.length_nil] at h ⊢; omega)]
        rfl
    · rw [List.length_append, List.length_singleton] at h
      rw [spT_low f (.inl (by rw [List.length_append]; show 0 < u.length + 1; omega)), Int.zero_add]
      rcases snoc_or v with rfl | ⟨v, b, rfl⟩
      · rw [sumL_congr fun m _ => spT_cn m u a f, spT_all N u [] _ (by simp only [List.length_nil] at h ⊢; omega), Lh_nr, Lh_nr]
      · rw [List.length_append, List.length_singleton] at h
        rw [sumL_congr fun m _ => spT_cc m u v a b f, sumL_add, sumL_add, spT_all N u (v ++ [b]) _ (by rw [List.length_append, List.length_singleton]; omega), spT_all N (u ++ [a]) v _ (by rw [List.length_append, List.length_singleton]; omega), Lh_snoc _ u v a b f (Nat.le_refl _)]
        congr 1
        by_cases ab : a = b
        · simp only [if_pos ab]
          exact spT_all N u v _ (by omega)
        · simp only [if_neg ab]
          exact sumL_zero fun _ _ => rfl
theorem spT_due (u v : List Int) (f : List Int → Int) : sumL (fun m => spT m u v f) (List.range' (max u.length v.length) (u.length + v.length + 1 - max u.length v.length)) = Lh u v f := by
  rw [← spT_all (u.length + v.length) u v f (Nat.le_refl _)]
  have e : List.range (u.length + v.length + 1) = List.range (max u.length v.length) ++ List.range' (max u.length v.length) (u.length + v.length + 1 - max u.length v.length) := by
    have := List.range'_append_1 (s := 0) (m := max u.length v.length) (n := u.length + v.length + 1 - max u.length v.length)
    rw [List.range_eq_range', List.range_eq_range', show u.length + v.length + 1 = max u.length v.length + (u.length + v.length + 1 - max u.length v.length) by omega, ← this, Nat.zero_add]
    congr 2
    omega
  rw [e, sumL_app, sumL_zero (xs := List.range _) fun m hm => spT_low f (by have := List.mem_range.mp hm; omega), Int.zero_add]

end Law

namespace Law
open PySem PySem.Spec PyProof.Rows L2 DL
local macro_rules | `(tactic| walk_at "w") => `(tactic| conv => whnf)
local macro_rules | `(tactic| walk_at "s") => `(tactic| (refine ⟨?_⟩; conv => whnf))
local macro_rules | `(tactic| walk_at "z") => `(tactic| (refine small ?_; simp only [List.length_map, List.length_append, List.length_reverse, List.length_cons, List.length_nil]; omega))
local macro_rules | `(tactic| walk_at "q") => `(tactic| (refine ⟨(okN_tints _).ok, (okN_tints _).ok, ?_⟩; rw [eqD_tints]))
/-! the program's choices -/
theorem rgD_succ (lo : Int) (n : Nat) : rgD lo (n + 1) = .int lo :: rgD (lo + 1) n := by
  unfold rgD
  rw [List.range_succ_eq_map, List.map_cons, List.map_map]
  congr 1
  · simp
  · refine List.map_congr_left fun k _ => ?_
    show D.int (lo + ((k + 1 : Nat) : Int)) = D.int (lo + 1 + (k : Nat))
    congr 1
    omega
theorem ixN_last (n : Nat) : ixN (n + 1) (-1) = some n := by
  unfold ixN
  rw [if_neg (by decide), if_pos (by omega)]
  congr 1
  omega
theorem atI_last (xs : List D) (d : D) : atI (xs ++ [d]) (-1) = some d := by
  unfold atI
  rw [List.length_append, List.length_singleton, ixN_last]
  show (xs ++ [d])[xs.length]? = some d
  rw [List.getElem?_append_right (Nat.le_refl _), Nat.sub_self]
  rfl
def plD (A : List Nat) : D := .tup (A.map fun p => .int (p : Nat))
theorem ext_len (m : Nat) (A : List Nat) : (extC m A).length ≤ m := by unfold extC; rw [List.length_map, List.length_range']; omega
theorem flat_len {α β : Type} {g : α → List β} {n : Nat} (h : ∀ x, (g x).length ≤ n) : ∀ xs : List α, (xs.flatMap g).length ≤ xs.length * n
  | [] => by rw [List.flatMap_nil]; exact Nat.zero_le _
  | x :: xs => by
    rw [List.flatMap_cons, List.length_append, List.length_cons, Nat.add_mul, Nat.one_mul]
    have := flat_len h xs
    have := h x
    omega
theorem chs_len (m : Nat) : ∀ k, (chs m k).length ≤ m ^ k
  | 0 => Nat.le_refl _
  | k + 1 => by
    have h1 := flat_len (ext_len m) (chs m k)
    have h2 := Nat.mul_le_mul_right m (chs_len m k)
    rw [Nat.pow_succ]
    exact Nat.le_trans h1 h2
theorem snocN (w : List Nat) : w = [] ∨ ∃ u x, w = u ++ [x] := by
  cases w with
  | nil => exact .inl rfl
  | cons a w => exact .inr ⟨(a :: w).dropLast, (a :: w).getLast (by simp), (List.dropLast_concat_getLast (by simp)).symm⟩
theorem okN_pl (A : List Nat) : okN 1 (plD A) := okN_tup fun d hd => by
  obtain ⟨x, _, rfl⟩ := List.mem_map.mp hd
  exact okN_int _
theorem ext_comp {A : List Nat} (hA : A.length ≤ 100) {e0 e1 e2 e3 e4 : Option D} : ∀ (n s : Nat) {e6 : Option D} {l : LH} {Q : List D → LH → Prop}, Q (((List.range' s n).map fun k => A ++ [k]).map plD) l →
    compL (gName 6) tYes (nE C__law_choices_1) [6] (rgD (s : Nat) n) [e0, e1, e2, e3, e4, some (plD A), e6] l Q
  | 0, s, e6, l, Q, q => q
  | n + 1, s, e6, l, Q, q => by
    rw [rgD_succ]
    walk_at "w"
    refine ifB_true ⟨?_⟩
    walk_at "w"
    refine ⟨show 1 ≤ sizeLine by decide, ?_⟩
    refine ⟨small (by rw [List.length_map, List.length_singleton]; omega), ?_⟩
    rw [show ((s : Int) + 1) = ((s + 1 : Nat) : Int) by omega]
    refine ext_comp hA n (s + 1) ?_
    rw [List.range'_succ, List.map_cons, List.map_cons] at q
    have e : plD (A ++ [s]) = .tup ((A.map fun p => D.int (p : Nat)) ++ [D.int (s : Nat)]) := by unfold plD; rw [List.map_append]; rfl
    rw [e] at q
    exact q
theorem ch_inner {m : Nat} (m5 : m ≤ 100) {E : DEnds} {e1 e2 e3 : Option D} : ∀ (ones acc : List (List Nat)) {l : LH} {e5 e6 : Option D}, (∀ A ∈ ones, stA A ≤ m ∧ A.length ≤ 100) → acc.length + ones.length * m ≤ 100000 →
    (∀ e5 e6, E.nx [some (.int (m : Nat)), e1, e2, e3, some (.lst ((acc ++ ones.flatMap (extC m)).map plD)), e5, e6] l) →
    forL (gName 5) (nS B__law_choices_1) (ones.map plD) E [some (.int (m : Nat)), e1, e2, e3, some (.lst (acc.map plD)), e5, e6] l
  | [], acc, l, e5, e6, _, _, h => by
    have := h e5 e6
    rw [List.flatMap_nil, List.append_nil] at this
    exact this
  | A :: ones, acc, l, e5, e6, ho, hz, h => by
    obtain ⟨st, al⟩ := ho A List.mem_cons_self
    rw [List.length_cons, Nat.add_mul, Nat.one_mul] at hz
    have el := ext_len m A
    have nx : compL (gName 6) tYes (nE C__law_choices_1) [6] (rgD (stA A : Nat) (m - stA A)) [some (.int (m : Nat)), e1, e2, e3, some (.lst (acc.map plD)), some (plD A), e6] l fun rs l2 => kAdd (.lst (acc.map plD)) (.lst rs) l2 fun d l3 => forL (gName 5) (nS B__law_choices_1) (ones.map plD) E [some (.int (m : Nat)), e1, e2, e3, some d, some (plD A), e6] l3 := by
      refine ext_comp al _ _ ?_
      refine ⟨small (by rw [List.length_map, List.length_map, List.length_map, List.length_range']; omega), ?_⟩
      have e : acc.map plD ++ ((List.range' (stA A) (m - stA A)).map fun k => A ++ [k]).map plD = (acc ++ extC m A).map plD := by rw [List.map_append]; rfl
      rw [e]
      refine ch_inner m5 ones (acc ++ extC m A) (fun B hB => ho B (List.mem_cons_of_mem _ hB)) (by rw [List.length_append]; omega) fun e5 e6 => ?_
      have := h e5 e6
      rw [List.flatMap_cons, ← List.append_assoc] at this
      exact this
    rw [List.map_cons]
    refine ⟨?_⟩
    walk_at "w"
    refine ⟨Nat.zero_le _, ?_⟩
    refine ⟨(okN_pl A).ok, (okN_pl []).ok, ?_⟩
    have fin : ∀ z : Int, z = (stA A : Nat) → (-2 ^ 62 ≤ z ∧ z < 2 ^ 62 ∧ -2 ^ 62 ≤ ((m : Nat) : Int) ∧ ((m : Nat) : Int) < 2 ^ 62) ∧ (rgD z (((m : Nat) : Int) - z).toNat).length ≤ sizeLine ∧ compL (gName 6) tYes (nE C__law_choices_1) [6] (rgD z (((m : Nat) : Int) - z).toNat) [some (.int (m : Nat)), e1, e2, e3, some (.lst (acc.map plD)), some (plD A), e6] l fun rs l2 => kAdd (.lst (acc.map plD)) (.lst rs) l2 fun d l3 => forL (gName 5) (nS B__law_choices_1) (ones.map plD) E [some (.int (m : Nat)), e1, e2, e3, some d, some (plD A), e6] l3 := fun z hz => by
      subst hz
      rw [show (((m : Nat) : Int) - ((stA A : Nat) : Int)).toNat = m - stA A by omega]
      exact ⟨⟨by omega, by omega, by omega, by omega⟩, small (by unfold rgD; rw [List.length_map, List.length_range]; omega), nx⟩
    rcases snocN A with rfl | ⟨B, p, rfl⟩
    · rw [show eqD (plD []) (.tup []) = true from rfl]
      refine ifB_false ?_
      walk_at "w"
      exact fin 0 rfl
    · rw [show eqD (plD (B ++ [p])) (.tup []) = false by unfold plD; rw [List.map_append]; cases B <;> rfl]
      refine ifB_true ?_
      walk_at "w"
      have pe : (B ++ [p]).map (fun p => D.int (p : Nat)) = B.map (fun p => D.int (p : Nat)) ++ [D.int (p : Nat)] := by rw [List.map_append]; rfl
      refine ⟨D.int (p : Nat), by rw [pe]; exact atI_last _ _, ?_⟩
      walk_at "w"
      exact fin ((p : Nat) + 1) (by rw [stA_snoc]; omega)
theorem ch_outer {m : Nat} (m5 : m ≤ 5) {E : DEnds} {e1 : Option D} : ∀ (n i : Nat) {lo : Int} {l : LH} {e3 e4 e5 e6 : Option D}, i + n ≤ 5 →
    (∀ e3 e4 e5 e6, E.nx [some (.int (m : Nat)), e1, some (.lst ((chs m (i + n)).map plD)), e3, e4, e5, e6] l) →
    forL (gName 3) (nS B__law_choices_2) (rgD lo n) E [some (.int (m : Nat)), e1, some (.lst ((chs m i).map plD)), e3, e4, e5, e6] l
  | 0, i, lo, l, e3, e4, e5, e6, _, h => h _ _ _ _
  | n + 1, i, lo, l, e3, e4, e5, e6, hi, h => by
    rw [rgD_succ]
    refine ⟨?_⟩
    walk_at "w"
    refine ⟨Nat.zero_le _, ?_⟩
    have cl : (chs m i).length ≤ 3125 := Nat.le_trans (chs_len m i) (Nat.le_trans (Nat.pow_le_pow_left m5 i) (Nat.le_trans (Nat.pow_le_pow_right (by decide) (show i ≤ 5 by omega)) (by decide)))
    have cm : (chs m i).length * m ≤ 3125 * 5 := Nat.mul_le_mul cl m5
    refine ch_inner (by omega) (chs m i) [] (fun A hA => ⟨(chs_ok hA).st, by rw [(chs_ok hA).len]; omega⟩) (by simp only [List.length_nil]; omega) fun e5 e6 => ?_
    walk_at "w"
    have := ch_outer m5 (E := E) (e1 := e1) n (i + 1) (lo := lo + 1) (l := l) (e3 := some (.int lo)) (e4 := some (.lst ((chs m (i + 1)).map plD))) (e5 := e5) (e6 := e6) (by omega) fun e3 e4 e5 e6 => by
      rw [show i + 1 + n = i + (n + 1) by omega]
      exact h e3 e4 e5 e6
    exact this
theorem c_choices {m k : Nat} (m5 : m ≤ 5) (k5 : k ≤ 5) {l : LH} {Q : DK} (q : Q (.lst ((chs m k).map plD)) l) : callD D__law_choices [.int (m : Nat), .int (k : Nat)] l Q := by
  refine ⟨rfl, ?_⟩
  walk_at "w"
  refine ⟨?_⟩
  walk_at "w"
  refine ⟨⟨by omega, by omega⟩, ?_⟩
  rw [show ((k : Nat) : Int).toNat = k by omega]
  refine ch_outer m5 k 0 (by omega) fun e3 e4 e5 e6 => ?_
  rw [Nat.zero_add]
  refine ⟨?_⟩
  walk_at "w"
  exact q

end Law

namespace Law
open PySem PySem.Spec PyProof.Rows L2 DL
local macro_rules | `(tactic| walk_at "w") => `(tactic| conv => whnf)
local macro_rules | `(tactic| walk_at "s") => `(tactic| (refine ⟨?_⟩; conv => whnf))
local macro_rules | `(tactic| walk_at "z") => `(tactic| (refine small ?_; simp only [List.length_map, List.length_append, List.length_reverse, List.length_cons, List.length_nil]; omega))
local macro_rules | `(tactic| walk_at "q") => `(tactic| (refine ⟨(okN_tints _).ok, (okN_tints _).ok, ?_⟩; rw [eqD_tints]))
/-! the word that both choices spell -/
def zD (z : Nat × Int) : D := .tup [.int (z.1 : Nat), .int z.2]
def ksP (L : PL) : List Key := L.map fun z => .inl (z.1 : Nat)
def dsP (L : PL) : List D := L.map fun z => .int z.2
theorem zip_D : ∀ (A : List Nat) (u : List Int), zipD (A.map fun p => D.int (p : Nat)) (u.map D.int) = (A.zip u).map zD
  | [], u => by cases u <;> rfl
  | p :: A, [] => rfl
  | p :: A, x :: u => by
    show D.tup [.int (p : Nat), .int x] :: zipD (A.map fun p => D.int (p : Nat)) (u.map D.int) = _
    rw [zip_D A u]
    rfl
theorem pairs_P : ∀ L : PL, pairsD (L.map zD) = some (ksP L, dsP L)
  | [] => rfl
  | z :: L => by
    rw [List.map_cons]
    unfold pairsD
    simp only [zD]
    rw [pairs_P L]
    rfl
theorem getA_P : ∀ (L : PL) (p : Nat), getA (ksP L) (dsP L) (.inl (p : Nat) : Key) = (look L p).map D.int
  | [], p => rfl
  | z :: L, p => by
    show (if (Sum.inl (z.1 : Int) : Key) = .inl (p : Int) then some (D.int z.2) else getA (ksP L) (dsP L) (.inl (p : Nat) : Key)) = _
    rw [look]
    by_cases e : z.1 = p
    · rw [if_pos (by rw [e]), if_pos e]; rfl
    · rw [if_neg fun q => e (by injection q with q; omega), if_neg e]
      exact getA_P L p
theorem keys_nd {L : PL} (h : (L.map (·.1)).Nodup) : (ksP L).Nodup := List.pairwise_map.mpr ((List.pairwise_map.mp h).imp fun n e => n (by injection e with e; omega))
theorem repA_same : ∀ {L : PL} {p : Nat} {x : Int}, (L.map (·.1)).Nodup → look L p = some x → repA (ksP L) (dsP L) (.inl (p : Nat) : Key) (.int x) = dsP L
  | [], _, _, _, _ => rfl
  | z :: L, p, x, nd, h => by
    obtain ⟨n1, n2⟩ := List.nodup_cons.mp (show (z.1 :: L.map (·.1)).Nodup from nd)
    rw [look] at h
    show (if (Sum.inl (z.1 : Int) : Key) = .inl (p : Int) then D.int x else D.int z.2) :: repA (ksP L) (dsP L) (.inl (p : Nat) : Key) (.int x) = D.int z.2 :: dsP L
    by_cases e : z.1 = p
    · rw [if_pos e] at h
      cases h
      have go : ∀ {M : PL}, p ∉ M.map (·.1) → repA (ksP M) (dsP M) (.inl (p : Nat) : Key) (.int z.2) = dsP M := by
        intro M
        induction M with
        | nil => intro _; rfl
        | cons y M ih =>
          intro hm
          show (if (Sum.inl (y.1 : Int) : Key) = .inl (p : Int) then D.int z.2 else D.int y.2) :: repA (ksP M) (dsP M) (.inl (p : Nat) : Key) (.int z.2) = D.int y.2 :: dsP M
          rw [if_neg fun q => hm (by injection q with q; rw [show p = y.1 by omega]; exact List.mem_cons_self), ih fun q => hm (List.mem_cons_of_mem _ q)]
      rw [if_pos (by rw [e]), go (by rw [← e]; exact n1)]
    · rw [if_neg e] at h
      rw [if_neg fun q => e (by injection q with q; omega), repA_same n2 h]
theorem mem_ksP {L : PL} {p : Nat} : (.inl (p : Nat) : Key) ∈ ksP L ↔ p ∈ L.map (·.1) := by
  unfold ksP
  rw [List.mem_map, List.mem_map]
  exact ⟨fun ⟨z, h, e⟩ => ⟨z, h, by injection e with e; omega⟩, fun ⟨z, h, e⟩ => ⟨z, h, by rw [e]⟩⟩
theorem look_in {L : PL} {p : Nat} {x : Int} (h : look L p = some x) : p ∈ L.map (·.1) := by
  by_cases e : p ∈ L.map (·.1)
  · exact e
  · rw [look_none fun z hz q => e (by rw [← q]; exact List.mem_map.mpr ⟨z, hz, rfl⟩)] at h
    cases h
theorem wo_loop {m : Nat} {P : Int → Prop} {t : Addr} {e0 e1 e2 e3 e4 e8 : Option D} {E : DEnds} : ∀ (R : PL) {L : PL} {l : LH} {e6 e7 : Option D}, LOk m P L → (∀ z ∈ R, z.1 < m ∧ P z.2) → m ≤ 100 → l t = some (.dK (ksP L) (dsP L)) →
    (∀ X l' e6 e7, puts L R = some X → LOk m P X → l' t = some (.dK (ksP X) (dsP X)) → (∀ y, y ≠ t → l' y = l y) → E.nx [e0, e1, e2, e3, e4, some (.ref t), e6, e7, e8] l') →
    (∀ l', puts L R = none → (∀ y, y ≠ t → l' y = l y) → E.rt .non l') →
    forL (gTup 2 (gCons (gName 6) (gCons (gName 7) gNil))) (nS B__law_word_of_1) (R.map zD) E [e0, e1, e2, e3, e4, some (.ref t), e6, e7, e8] l
  | [], L, l, e6, e7, hL, hR, m1, ht, h1, h2 => h1 L l _ _ rfl hL ht fun y _ => rfl
  | z :: R, L, l, e6, e7, hL, hR, m1, ht, h1, h2 => by
    have hR' : ∀ y ∈ R, y.1 < m ∧ P y.2 := fun y hy => hR y (List.mem_cons_of_mem _ hy)
    have zl := nd_len hL.nd fun k hk => by
      obtain ⟨z, hz, rfl⟩ := List.mem_map.mp hk
      exact hL.lt z hz
    rw [List.length_map] at zl
    rw [List.map_cons]
    refine ⟨rfl, ⟨?_⟩⟩
    walk_at "w"
    refine ⟨_, ht, ?_⟩
    walk_at "w"
    refine ⟨_, ht, _, rfl, ?_⟩
    dsimp only
    rw [getA_P, show ((look L z.1).map D.int).getD (D.int z.2) = .int ((look L z.1).getD z.2) by cases look L z.1 <;> rfl]
    walk_at "w"
    refine ⟨(okN_int _).ok, (okN_int _).ok, ?_⟩
    rw [eqD_int]
    cases q : look L z.1 with
    | some x =>
      have pe : puts L (z :: R) = if x = z.2 then puts L R else none := by simp only [puts, q]
      rw [pe] at h1 h2
      by_cases e : x = z.2
      · rw [show decide ((some x).getD z.2 = z.2) = true from decide_eq_true e]
        rw [if_pos e] at h1 h2
        refine ifB_false ?_
        walk_at "w"
        refine ⟨_, ht, _, rfl, small (by unfold ksP; rw [List.length_map]; omega), ?_⟩
        have k1 : putKs (ksP L) (.inl (z.1 : Nat) : Key) = ksP L := if_pos (mem_ksP.mpr (look_in q))
        have k2 : putDs (ksP L) (dsP L) (.inl (z.1 : Nat) : Key) (.int z.2) = dsP L := (if_pos (mem_ksP.mpr (look_in q))).trans (by rw [← e]; exact repA_same hL.nd q)
        rw [k1, k2]
        exact wo_loop R hL hR' m1 uL_same (fun X l' e6 e7 a1 a2 a3 a4 => h1 X l' e6 e7 a1 a2 a3 fun y yt => (a4 y yt).trans (uL_ne yt)) fun l' a1 a2 => h2 l' a1 fun y yt => (a2 y yt).trans (uL_ne yt)
      · rw [show decide ((some x).getD z.2 = z.2) = false from decide_eq_false e]
        rw [if_neg e] at h2
        refine ifB_true ?_
        walk_at "w"
        exact h2 l rfl fun y _ => rfl
    | none =>
      have pe : puts L (z :: R) = puts (L ++ [z]) R := by simp only [puts, q]
      rw [pe] at h1 h2
      rw [show decide ((none : Option Int).getD z.2 = z.2) = true from decide_eq_true rfl]
      refine ifB_false ?_
      walk_at "w"
      have nk : (.inl (z.1 : Nat) : Key) ∉ ksP L := fun h => by
        obtain ⟨x, hx, _⟩ := look_some (mem_ksP.mp h)
        rw [q] at hx
        cases hx
      refine ⟨_, ht, _, rfl, small (by unfold ksP; rw [List.length_map]; omega), ?_⟩
      have k1 : putKs (ksP L) (.inl (z.1 : Nat) : Key) = ksP (L ++ [z]) := (if_neg nk).trans (by unfold ksP; rw [List.map_append]; rfl)
      have k2 : putDs (ksP L) (dsP L) (.inl (z.1 : Nat) : Key) (.int z.2) = dsP (L ++ [z]) := (if_neg nk).trans (by unfold dsP; rw [List.map_append]; rfl)
      rw [k1, k2]
      have hL2 : LOk m P (L ++ [z]) := puts_ok (R := [z]) hL (fun y hy => by rw [List.mem_singleton.mp hy]; exact hR z List.mem_cons_self) (by simp only [puts, q])
      exact wo_loop R hL2 hR' m1 uL_same (fun X l' e6 e7 a1 a2 a3 a4 => h1 X l' e6 e7 a1 a2 a3 fun y yt => (a4 y yt).trans (uL_ne yt)) fun l' a1 a2 => h2 l' a1 fun y yt => (a2 y yt).trans (uL_ne yt)
theorem wo_comp {m : Nat} {P : Int → Prop} {X : PL} (hX : LOk m P X) (hl : X.length = m) {t : Addr} {e0 e1 e2 e3 e4 e6 e7 : Option D} : ∀ (n s : Nat) {l : LH} {e8 : Option D} {Q : List D → LH → Prop}, s + n ≤ m → l t = some (.dK (ksP X) (dsP X)) → Q (((List.range' s n).map fun k => (look X k).getD 0).map D.int) l →
    compL (gName 8) tYes (nE C__law_word_of_1) [8] (rgD (s : Nat) n) [e0, e1, e2, e3, e4, some (.ref t), e6, e7, e8] l Q
  | 0, s, l, e8, Q, _, _, q => q
  | n + 1, s, l, e8, Q, hs, ht, q => by
    obtain ⟨x, hx, _⟩ := look_some (nd_all hX.nd (fun k hk => by
      obtain ⟨z, hz, rfl⟩ := List.mem_map.mp hk
      exact hX.lt z hz) (by rw [List.length_map]; exact hl) (show s < m by omega))
    rw [rgD_succ]
    walk_at "w"
    refine ifB_true ⟨?_⟩
    walk_at "w"
    refine ⟨_, ht, _, rfl, ?_⟩
    dsimp only
    rw [getA_P, hx]
    show compL _ _ _ _ _ _ _ _
    rw [show ((s : Int) + 1) = ((s + 1 : Nat) : Int) by omega]
    refine wo_comp hX hl n (s + 1) (by omega) ht ?_
    rw [List.range'_succ, List.map_cons, List.map_cons, hx] at q
    exact q
def woD : Option (List Int) → D
  | some w => wordD w
  | none => .non
theorem c_word_of {m k j : Nat} (m5 : m ≤ 5) {A B : List Nat} {u v : List Int} (hA : ChOk m k A) (hu : u.length = k) (hB : ChOk m j B) (hv : v.length = j) {l : LH} {Q : DK} (q : ∀ l', (∀ y o, l y = some o → l' y = some o) → Q (woD (wof m A u B v)) l') : callD D__law_word_of [.int (m : Nat), wordD u, plD A, wordD v, plD B] l Q := by
  have ok := zip_ok hA hu
  refine ⟨rfl, ?_⟩
  walk_at "w"
  have a5 : A.length ≤ 5 := by have := hA.fit; have := hA.st; omega
  have b5 : B.length ≤ 5 := by have := hB.fit; have := hB.st; omega
  refine ⟨.inl (small (by rw [List.length_map]; omega)), ?_⟩
  rw [zip_D]
  refine ⟨_, pairs_P _, keys_nd ok.nd, ?_⟩
  intro t nt
  walk_at "w"
  refine ⟨?_⟩
  walk_at "w"
  refine ⟨.inl (small (by rw [List.length_map]; omega)), ?_⟩
  rw [zip_D]
  walk_at "w"
  refine wo_loop (m := m) (P := fun x => x ∈ u ∨ x ∈ v) (B.zip v) ⟨ok.nd, ok.lt, fun z hz => .inl (ok.vs z hz)⟩ (fun z hz => ⟨(zip_in hB hv z hz).1, .inr (zip_in hB hv z hz).2⟩) (by omega) uL_same (fun X l' e6 e7 a1 a2 a3 a4 => ?_) fun l' a1 a2 => ?_
  · have sub : ∀ y o, l y = some o → l' y = some o := fun y o hy => by
      have yt : y ≠ t := fun e => by rw [e, nt] at hy; cases hy
      rw [a4 y yt, uL_ne yt]
      exact hy
    refine ⟨?_⟩
    walk_at "w"
    refine ⟨_, a3, ?_⟩
    walk_at "w"
    refine ⟨(okN_int _).ok, (okN_int _).ok, ?_⟩
    have kl : (ksP X).length = X.length := by unfold ksP; rw [List.length_map]
    have := q l' sub
    unfold wof at this
    rw [a1] at this
    have this : Q (woD (finP m X)) l' := this
    unfold finP at this
    rw [eqD_int, kl]
    refine ifB_dec (fun e => ?_) (fun e => ?_)
    · have e : X.length = m := by omega
      rw [if_pos e] at this
      walk_at "w"
      refine ⟨⟨by omega, by omega⟩, ?_⟩
      rw [show ((m : Nat) : Int).toNat = m by omega]
      refine ⟨small (by unfold rgD; rw [List.length_map, List.length_range]; omega), ?_⟩
      refine wo_comp a2 e m 0 (by omega) a3 ?_
      walk_at "w"
      rw [← List.range_eq_range']
      exact this
    · have e : ¬X.length = m := by omega
      rw [if_neg e] at this
      exact this
  · have sub : ∀ y o, l y = some o → l' y = some o := fun y o hy => by
      have yt : y ≠ t := fun e => by rw [e, nt] at hy; cases hy
      rw [a2 y yt, uL_ne yt]
      exact hy
    have := q l' sub
    unfold wof at this
    rw [a1] at this
    exact this

end Law

namespace Law
open PySem PySem.Spec PyProof.Rows L2 DL
local macro_rules | `(tactic| walk_at "w") => `(tactic| conv => whnf)
local macro_rules | `(tactic| walk_at "s") => `(tactic| (refine ⟨?_⟩; conv => whnf))
local macro_rules | `(tactic| walk_at "z") => `(tactic| (refine small ?_; simp only [List.length_map, List.length_append, List.length_reverse, List.length_cons, List.length_nil]; omega))
local macro_rules | `(tactic| walk_at "q") => `(tactic| (refine ⟨(okN_tints _).ok, (okN_tints _).ok, ?_⟩; rw [eqD_tints]))
/-! all that both choices spell, counted -/
theorem sortOk_of {α : Type} {f : α → D} {n : Nat} (hn : n ≤ 8) (ok : ∀ x, okN n (f x)) (al : ∀ x y, PySem.W.alike (toPy (f x)) (toPy (f y)) = true) (tu : ∀ x, ∃ y r, toPy (f x) = .tuple (y :: r)) (xs : List α) : sortOk (xs.map f) := by
  have h := okN_all (n := n) (ds := xs.map f) fun d hd => by
    obtain ⟨x, _, rfl⟩ := List.mem_map.mp hd
    exact ok x
  refine ⟨h.1, fun d hd d' hd' => ?_, .inl fun d hd => ?_, Nat.le_trans h.2 hn⟩
  · rw [toPys_map, List.map_map] at hd hd'
    obtain ⟨x, _, rfl⟩ := List.mem_map.mp hd
    obtain ⟨y, _, rfl⟩ := List.mem_map.mp hd'
    exact al x y
  · rw [toPys_map, List.map_map] at hd
    obtain ⟨x, _, rfl⟩ := List.mem_map.mp hd
    exact tu x
def cntR (r : Row) : Option (List Int) → Row
  | some w => putR r w (getR r w + 1)
  | none => r
structure CntOk (u v : List Int) (S : (List Int → Int) → Int) (n : Nat) (r : Row) : Prop where
  nd : (keysR r).Nodup
  sm : ∀ f, sumR r f = S f
  ln : ∀ w ∈ keysR r, w.length ≤ u.length + v.length
  lt : ∀ w ∈ keysR r, ∀ x ∈ w, x ∈ u ∨ x ∈ v
  pos : ∀ p ∈ r, 0 < p.2
  few : r.length ≤ n
theorem CntOk.step {u v : List Int} {S : (List Int → Int) → Int} {n : Nat} {r : Row} (h : CntOk u v S n r) {o : Option (List Int)} (ho : ∀ w, o = some w → w.length ≤ u.length + v.length ∧ ∀ x ∈ w, x ∈ u ∨ x ∈ v) : CntOk u v (fun f => S f + val f o) (n + 1) (cntR r o) := by
  cases o with
  | none => exact ⟨h.nd, fun f => (h.sm f).trans (Int.add_zero _).symm, h.ln, h.lt, h.pos, Nat.le_succ_of_le h.few⟩
  | some w =>
    obtain ⟨w1, w2⟩ := ho w rfl
    refine ⟨put_nodup w (getR r w + 1) h.nd, fun f => ?_, fun x hx => ?_, fun x hx => ?_, putR_pos h.pos w (by have := getR_pos (fun p hp => Int.le_of_lt (h.pos p hp)) w; omega), ?_⟩
    · show sumR (putR r w (getR r w + 1)) f = S f + f w
      rw [sumR_put h.nd, h.sm, Int.one_mul]
    · rcases put_keys hx with z | z
      · exact h.ln x z
      · rw [z]; exact w1
    · rcases put_keys hx with z | z
      · exact h.lt x z
      · rw [z]; exact w2
    · have := put_len r w (getR r w + 1)
      have := h.few
      show (putR r w (getR r w + 1)).length ≤ n + 1
      omega
theorem CntOk.cast {u v : List Int} {S S' : (List Int → Int) → Int} {n m : Nat} {r : Row} (h : CntOk u v S n r) (e : ∀ f, S f = S' f) (hn : n ≤ m) : CntOk u v S' m r := ⟨h.nd, fun f => (h.sm f).trans (e f), h.ln, h.lt, h.pos, Nat.le_trans h.few hn⟩
def OthT (l l' : LH) (t : Addr) : Prop := ∀ y o, y ≠ t → l y = some o → l' y = some o
section
variable {u v : List Int} {m : Nat} {t : Addr} {E : DEnds}
theorem due_in (m5 : m ≤ 5) (mn : m ≤ u.length + v.length) {A : List Nat} (hA : ChOk m u.length A) {e7 e8 : Option D} : ∀ (Bs : List (List Nat)) {S : (List Int → Int) → Int} {n : Nat} {r : Row} {l : LH} {e5 e6 : Option D}, (∀ B ∈ Bs, ChOk m v.length B) → CntOk u v S n r → n + Bs.length ≤ 100000 → l t = some (rowO r) →
    (∀ r' l' e5 e6, CntOk u v (fun f => S f + sumL (fun B => val f (wof m A u B v)) Bs) (n + Bs.length) r' → l' t = some (rowO r') → OthT l l' t → E.nx [some (wordD u), some (wordD v), some (.ref t), some (.int (m : Nat)), some (plD A), e5, e6, e7, e8] l') →
    forL (gName 5) (nS B__law_due_1) (Bs.map plD) E [some (wordD u), some (wordD v), some (.ref t), some (.int (m : Nat)), some (plD A), e5, e6, e7, e8] l
  | [], S, n, r, l, e5, e6, _, c, _, ht, h => h r l _ _ (c.cast (fun f => (Int.add_zero _).symm) (Nat.le_refl _)) ht fun y o _ hy => hy
  | B :: Bs, S, n, r, l, e5, e6, hB, c, hn, ht, h => by
    have hb := hB B List.mem_cons_self
    rw [List.length_cons] at hn
    rw [List.map_cons]
    refine ⟨?_⟩
    walk_at "w"
    refine c_word_of m5 hA rfl hb rfl fun l1 s1 => ?_
    have c1 := c.step (o := wof m A u B v) fun w hw => ⟨by have := (wof_in hA rfl hb rfl hw).1; omega, (wof_in hA rfl hb rfl hw).2⟩
    have ht1 := s1 t _ ht
    have nx : ∀ l2 e6, l2 t = some (rowO (cntR r (wof m A u B v))) → OthT l l2 t → forL (gName 5) (nS B__law_due_1) (Bs.map plD) E [some (wordD u), some (wordD v), some (.ref t), some (.int (m : Nat)), some (plD A), some (plD B), e6, e7, e8] l2 := fun l2 e6 ht2 o2 =>
      due_in m5 mn hA Bs (fun B hB' => hB B (List.mem_cons_of_mem _ hB')) c1 (by omega) ht2 fun r' l' e5 e6 h1 h2 h3 => h r' l' e5 e6 (h1.cast (fun f => by rw [sumL]; omega) (by rw [List.length_cons]; omega)) h2 fun y o yt hy => h3 y o yt (o2 y o yt hy)
    cases q : wof m A u B v with
    | none =>
      rw [q] at nx
      walk_at "w"
      refine ifB_false ?_
      exact nx l1 _ ht1 fun y o _ hy => s1 y o hy
    | some w =>
      rw [q] at nx
      walk_at "w"
      refine ifB_true ?_
      walk_at "w"
      refine ⟨_, ht1, ?_⟩
      walk_at "w"
      refine ⟨_, ht1, _, keyT_word w, ?_⟩
      dsimp only
      rw [getA_row]
      walk_at "w"
      have fw := c.few
      refine ⟨_, ht1, _, keyT_word w, ?_, ?_⟩
      · unfold rowKs
        rw [List.length_map]
        exact Nat.lt_of_lt_of_le (show r.length < 100001 by omega) (by decide)
      rw [putKs_row _ _ (getR r w + 1), putDs_row]
      exact nx _ _ uL_same fun y o yt hy => (uL_ne yt).trans (s1 y o hy)
theorem due_mid (m5 : m ≤ 5) (mn : m ≤ u.length + v.length) (u5 : u.length ≤ 5) (v5 : v.length ≤ 5) {e6 e7 e8 : Option D} (bl : (chs m v.length).length ≤ 10) : ∀ (As : List (List Nat)) {S : (List Int → Int) → Int} {n : Nat} {r : Row} {l : LH} {e4 e5 e6 : Option D}, (∀ A ∈ As, ChOk m u.length A) → CntOk u v S n r → n + 10 * As.length ≤ 100000 → l t = some (rowO r) →
    (∀ r' l' e4 e5 e6, CntOk u v (fun f => S f + sumL (fun A => sumL (fun B => val f (wof m A u B v)) (chs m v.length)) As) (n + 10 * As.length) r' → l' t = some (rowO r') → OthT l l' t → E.nx [some (wordD u), some (wordD v), some (.ref t), some (.int (m : Nat)), e4, e5, e6, e7, e8] l') →
    forL (gName 4) (nS B__law_due_2) (As.map plD) E [some (wordD u), some (wordD v), some (.ref t), some (.int (m : Nat)), e4, e5, e6, e7, e8] l
  | [], S, n, r, l, e4, e5, e6, _, c, _, ht, h => h r l _ _ _ (c.cast (fun f => (Int.add_zero _).symm) (Nat.le_refl _)) ht fun y o _ hy => hy
  | A :: As, S, n, r, l, e4, e5, e6, hA, c, hn, ht, h => by
    have ha := hA A List.mem_cons_self
    rw [List.length_cons] at hn
    rw [List.map_cons]
    refine ⟨?_⟩
    walk_at "w"
    rw [List.length_map]
    refine c_choices m5 v5 ?_
    walk_at "w"
    refine due_in m5 mn ha (chs m v.length) (fun B hB => chs_ok hB) c (by omega) ht fun r1 l1 e5 e6 h1 h2 h3 => ?_
    refine due_mid m5 mn u5 v5 bl (e6 := e6) As (fun A hA' => hA A (List.mem_cons_of_mem _ hA')) (h1.cast (fun _ => rfl) (show n + (chs m v.length).length ≤ n + 10 by omega)) (by omega) h2 fun r2 l2 e4 e5 e6 k1 k2 k3 => h r2 l2 _ _ _ (k1.cast (fun f => by rw [sumL]; omega) (by rw [List.length_cons]; omega)) k2 fun y o yt hy => k3 y o yt (h3 y o yt hy)
theorem ch10 : (List.range 6).all (fun m => (List.range 6).all fun k => decide ((chs m k).length ≤ 10)) = true := by decide +kernel
theorem ch_few {m k : Nat} (hm : m ≤ 5) (hk : k ≤ 5) : (chs m k).length ≤ 10 := of_decide_eq_true (List.all_eq_true.mp (List.all_eq_true.mp ch10 m (List.mem_range.mpr (by omega))) k (List.mem_range.mpr (by omega)))
theorem due_out (uv : u.length + v.length ≤ 5) : ∀ (n m : Nat) {S : (List Int → Int) → Int} {c0 : Nat} {r : Row} {l : LH} {e3 e4 e5 e6 e7 e8 : Option D}, m + n ≤ u.length + v.length + 1 → CntOk u v S c0 r → c0 + 100 * n ≤ 10000 → l t = some (rowO r) →
    (∀ r' l' e3 e4 e5 e6 e7 e8, CntOk u v (fun f => S f + sumL (fun m => spT m u v f) (List.range' m n)) (c0 + 100 * n) r' → l' t = some (rowO r') → OthT l l' t → E.nx [some (wordD u), some (wordD v), some (.ref t), e3, e4, e5, e6, e7, e8] l') →
    forL (gName 3) (nS B__law_due_3) (rgD (m : Nat) n) E [some (wordD u), some (wordD v), some (.ref t), e3, e4, e5, e6, e7, e8] l
  | 0, m, S, c0, r, l, e3, e4, e5, e6, e7, e8, _, c, _, ht, h => h r l _ _ _ _ _ _ (c.cast (fun f => (Int.add_zero _).symm) (Nat.le_refl _)) ht fun y o _ hy => hy
  | n + 1, m, S, c0, r, l, e3, e4, e5, e6, e7, e8, hm, c, hn, ht, h => by
    have m5 : m ≤ 5 := by omega
    have lu := ch_few m5 (show u.length ≤ 5 by omega)
    rw [rgD_succ]
    refine ⟨?_⟩
    walk_at "w"
    rw [List.length_map]
    refine c_choices m5 (by omega) ?_
    walk_at "w"
    refine due_mid m5 (by omega) (by omega) (by omega) (e6 := e6) (ch_few m5 (by omega)) (chs m u.length) (fun A hA => chs_ok hA) c (by omega) ht fun r1 l1 e4 e5 e6 h1 h2 h3 => ?_
    rw [show ((m : Int) + 1) = ((m + 1 : Nat) : Int) by omega]
    refine due_out uv n (m + 1) (by omega) (h1.cast (S' := fun f => S f + spT m u v f) (fun _ => rfl) (show c0 + 10 * (chs m u.length).length ≤ c0 + 100 by omega)) (by omega) h2 fun r2 l2 e3 e4 e5 e6 e7 e8 k1 k2 k3 => h r2 l2 _ _ _ _ _ _ (k1.cast (fun f => by rw [List.range'_succ, sumL]; omega) (by omega)) k2 fun y o yt hy => k3 y o yt (h3 y o yt hy)
theorem keysT_row (r : Row) : keysT (rowKs r) = (keysR r).map wordD := by
  unfold keysT rowKs keysR
  rw [List.map_map, List.map_map]
  refine List.map_congr_left fun p _ => ?_
  show D.tup ((wkey p.1).map keyV) = wordD p.1
  unfold wkey wordD
  rw [List.map_map]
  rfl
theorem getA_some : ∀ {r : Row} {p : List Int × Int}, (keysR r).Nodup → p ∈ r → getA (rowKs r) (rowDs r) (wkey p.1) = some (.int p.2)
  | [], p, _, h => by cases h
  | q :: r, p, nd, h => by
    obtain ⟨n1, n2⟩ := List.nodup_cons.mp (show (q.1 :: keysR r).Nodup from nd)
    show (if wkey q.1 = wkey p.1 then some (D.int q.2) else getA (rowKs r) (rowDs r) (wkey p.1)) = _
    rcases List.mem_cons.mp h with rfl | h
    · rw [if_pos rfl]
    · rw [if_neg fun e => n1 (by rw [wkey_inj.mp e]; exact List.mem_map.mpr ⟨p, h, rfl⟩)]
      exact getA_some n2 h
theorem tr_comp {r : Row} (nd : (keysR r).Nodup) {e0 e1 e3 e4 e5 e7 e8 : Option D} : ∀ (ps : Row) {e6 : Option D} {l : LH} {Q : List D → LH → Prop}, (∀ p ∈ ps, p ∈ r ∧ p.1.length ≤ 100) → Q (ps.map trD) l →
    compL (gName 6) tYes (nE C__law_due_1) [6] ((keysR ps).map wordD) [e0, e1, some (rowD r), e3, e4, e5, e6, e7, e8] l Q
  | [], e6, l, Q, _, q => q
  | p :: ps, e6, l, Q, hp, q => by
    obtain ⟨h1, h2⟩ := hp p List.mem_cons_self
    show compL _ _ _ _ (wordD p.1 :: (keysR ps).map wordD) _ _ _
    walk_at "w"
    refine ifB_true ⟨?_⟩
    walk_at "w"
    refine ⟨_, keyT_word p.1, ?_⟩
    dsimp only
    rw [getA_some nd h1]
    walk_at "w"
    refine ⟨show 3 ≤ sizeLine by decide, ?_⟩
    rw [List.length_map]
    exact tr_comp nd ps (fun x hx => hp x (List.mem_cons_of_mem _ hx)) q
theorem un_comp {e0 e1 e2 e3 e4 e5 : Option D} : ∀ (ps : Row) {e6 e7 e8 : Option D} {l : LH} {Q : List D → LH → Prop}, Q (ps.map fun p => D.tup [wordD p.1, .int p.2]) l →
    compL (gTup 3 (gCons (gName 7) (gCons (gName 6) (gCons (gName 8) gNil)))) tYes (nE C__law_due_2) [7, 6, 8] (ps.map trD) [e0, e1, e2, e3, e4, e5, e6, e7, e8] l Q
  | [], e6, e7, e8, l, Q, q => q
  | p :: ps, e6, e7, e8, l, Q, q => by
    rw [List.map_cons]
    walk_at "w"
    refine ⟨rfl, ?_⟩
    walk_at "w"
    refine ifB_true ⟨?_⟩
    walk_at "w"
    refine ⟨show 2 ≤ sizeLine by decide, ?_⟩
    exact un_comp ps q
theorem okN_tr (p : List Int × Int) : okN 2 (trD p) := okN_tup fun d hd => by
  simp only [List.mem_cons, List.not_mem_nil, or_false] at hd
  rcases hd with rfl | rfl | rfl
  · exact (okN_int _).mono (by decide)
  · exact okN_pair1 p.1
  · exact (okN_int _).mono (by decide)
theorem alike_ints : ∀ (xs ys : List Int), PySem.W.alikeAll (toPys (xs.map D.int)) (toPys (ys.map D.int)) = true
  | [], [] => rfl
  | [], _ :: _ => rfl
  | _ :: _, [] => rfl
  | x :: xs, y :: ys => by
    show (PySem.W.alike (.int x) (.int y) && PySem.W.alikeAll (toPys (xs.map D.int)) (toPys (ys.map D.int))) = true
    rw [alike_ints xs ys]
    rfl
theorem alike_tr (p q : List Int × Int) : PySem.W.alike (toPy (trD p)) (toPy (trD q)) = true := by
  have := alike_ints p.1 q.1
  simp [toPy, toPys, PySem.W.alike, PySem.W.alikeAll, trD, wordD, this]
theorem sort_tr (r : Row) : (r.map trD).mergeSort leD = (r.mergeSort fun p q => leD (trD p) (trD q)).map trD := (List.map_mergeSort (r := fun x y => leD (trD x) (trD y)) (s := leD) (f := trD) fun x _ y _ => rfl).symm
theorem c_due (uv : u.length + v.length ≤ 5) {l : LH} {Q : DK} (q : ∀ r l', LtS u v r → (∀ y o, l y = some o → l' y = some o) → Q (.lst (r.map fun p => D.tup [wordD p.1, .int p.2])) l') : callD D__law_due [wordD u, wordD v] l Q := by
  refine ⟨rfl, ?_⟩
  walk_at "w"
  intro t nt
  walk_at "w"
  refine ⟨?_⟩
  walk_at "w"
  have em : (if (((v.map D.int).length : Nat) : Int) > (((u.map D.int).length : Nat) : Int) then (((v.map D.int).length : Nat) : Int) else (((u.map D.int).length : Nat) : Int)) = ((max u.length v.length : Nat) : Int) := by
    rw [List.length_map, List.length_map]
    split <;> omega
  rw [em, List.length_map, List.length_map]
  refine ⟨⟨by omega, by omega, by omega, by omega⟩, ?_⟩
  rw [show (((u.length : Nat) : Int) + ((v.length : Nat) : Int) + 1 - ((max u.length v.length : Nat) : Int)).toNat = u.length + v.length + 1 - max u.length v.length by omega]
  have c0 : CntOk u v (fun _ => 0) 0 [] := ⟨List.nodup_nil, fun _ => rfl, fun w hw => (by cases hw), fun w hw => (by cases hw), fun p hp => (by cases hp), Nat.le_refl _⟩
  refine due_out uv _ _ (by omega) c0 (by omega) uL_same fun r l1 e3 e4 e5 e6 e7 e8 h1 h2 h3 => ?_
  have ld : Ld u v r := by
    have sm : ∀ f, sumR r f = Lh u v f := fun f => (h1.sm f).trans ((Int.zero_add _).trans (spT_due u v f))
    refine ⟨h1.nd, sm, h1.ln, h1.lt, ?_, h1.pos⟩
    have z := sm fun _ => 1
    have z2 := Lh_pos1 _ u v (Nat.le_refl _)
    have z3 : ∀ {r : Row}, (∀ p ∈ r, 0 < p.2) → (r.length : Int) ≤ sumR r fun _ => 1 := by
      intro r
      induction r with
      | nil => intro _; exact Int.le_refl 0
      | cons p r ih =>
        intro hp
        have := ih fun q hq => hp q (List.mem_cons_of_mem _ hq)
        have := hp p List.mem_cons_self
        rw [sumR, List.length_cons]
        omega
    have z4 := z3 h1.pos
    have z5 : ((r.length : Nat) : Int) ≤ ((3 ^ (u.length + v.length) : Nat) : Int) := by
      rw [z] at z4
      exact Int.le_trans z4 (by exact_mod_cast z2)
    exact Int.ofNat_le.mp z5
  have sub : ∀ y o, l y = some o → dL l1 t y = some o := fun y o hy => by
    have yt : y ≠ t := fun e => by rw [e, nt] at hy; cases hy
    show (if y = t then none else l1 y) = some o
    rw [if_neg yt]
    exact h3 y o yt ((uL_ne yt).trans hy)
  have few := h1.few
  refine ⟨?_⟩
  walk_at "w"
  refine ⟨t, rowKs r, rowDs r, rfl, h2, ?_⟩
  walk_at "w"
  rw [keysT_row]
  have kl : (keysR r).length = r.length := by unfold keysR; rw [List.length_map]
  refine ⟨small (by rw [List.length_map, kl]; omega), ?_⟩
  show compL _ _ _ _ _ [some (wordD u), some (wordD v), some (rowD r), e3, e4, e5, e6, e7, e8] _ _
  refine tr_comp h1.nd r (fun p hp => ⟨hp, by have := h1.ln p.1 (List.mem_map.mpr ⟨p, hp, rfl⟩); omega⟩) ?_
  have pm : (r.mergeSort fun p q => leD (trD p) (trD q)).Perm r := List.mergeSort_perm _ _
  have so : (r.mergeSort fun p q => leD (trD p) (trD q)).Pairwise fun p q => leD (trD p) (trD q) = true := List.pairwise_mergeSort (le := fun p q => leD (trD p) (trD q)) (fun a b c => data_trans (k := toPy) (trD a) (trD b) (trD c)) (fun a b => data_total (k := toPy) (trD a) (trD b)) _
  have nd : ((r.mergeSort fun p q => leD (trD p) (trD q)).map (·.1)).Nodup := (pm.map fun p : List Int × Int => p.1).nodup_iff.mpr h1.nd
  have lt := LtS.of ld pm ((ne_keys nd so).imp fun {a b} z => data_le (k := fun p => toPy (trD p)) (f := fun p : List Int × Int => p.1) tr_hd z.1 z.2)
  walk_at "w"
  refine ⟨sortOk_of (n := 2) (by decide) okN_tr alike_tr (fun p => ⟨_, _, rfl⟩) r, ?_⟩
  rw [sort_tr]
  generalize (r.mergeSort fun p q => leD (trD p) (trD q)) = r2 at pm lt
  walk_at "w"
  refine ⟨small (by rw [List.length_map, pm.length_eq]; omega), ?_⟩
  refine un_comp r2 ?_
  exact q r2 _ lt sub
end

end Law

namespace Law
open PySem PySem.Spec PyProof.Rows L2 DL
local macro_rules | `(tactic| walk_at "w") => `(tactic| conv => whnf)
local macro_rules | `(tactic| walk_at "s") => `(tactic| (refine ⟨?_⟩; conv => whnf))
local macro_rules | `(tactic| walk_at "z") => `(tactic| (refine small ?_; simp only [List.length_map, List.length_append, List.length_reverse, List.length_cons, List.length_nil]; omega))
local macro_rules | `(tactic| walk_at "q") => `(tactic| (refine ⟨(okN_tints _).ok, (okN_tints _).ok, ?_⟩; rw [eqD_tints]))
/-! the law -/
theorem Box.of_same {l l' : LH} {b : Addr} {k : Nat} (h : l' b = l b) : Box l b k → Box l' b k
  | ⟨o, e, q⟩ => ⟨o, h.trans e, q⟩
def told (r : Row) : D := .lst (r.map fun p => D.tup [wordD p.1, .int p.2])
structure PlW (w : List Int) (n : Nat) : Prop where
  ln : w.length ≤ n
  vs : ∀ x ∈ w, 1 ≤ x ∧ x ≤ 4
theorem told_str {u v : List Int} {r : Row} (h : LtS u v r) (uv : u.length + v.length ≤ 5) (hu : ∀ x ∈ u, 1 ≤ x ∧ x ≤ 4) (hv : ∀ x ∈ v, 1 ≤ x ∧ x ≤ 4) : strOk (told r) := by
  have few : r.length ≤ 243 := Nat.le_trans h.few (Nat.le_trans (Nat.pow_le_pow_right (by decide) uv) (by decide))
  have big : ∀ p ∈ r, p.2.natAbs < 10 ^ 12 := fun p hp => by
    have h1 := h.sm fun _ => 1
    have h2 := Lh_pos1 _ u v (Nat.le_refl _)
    have h3 := (sumR_le fun p hp => Int.le_of_lt (h.pos p hp)).2 p hp
    have h4 : (3 : Int) ^ (u.length + v.length) ≤ 243 := by
      rcases (show u.length + v.length = 0 ∨ u.length + v.length = 1 ∨ u.length + v.length = 2 ∨ u.length + v.length = 3 ∨ u.length + v.length = 4 ∨ u.length + v.length = 5 by omega) with e | e | e | e | e | e <;> rw [e] <;> decide
    have := h.pos p hp
    omega
  have ws : ∀ p ∈ r, p.1.length ≤ 5 ∧ ∀ n ∈ p.1, n.natAbs < 10 ^ 12 := fun p hp => ⟨Nat.le_trans (h.ln p hp) uv, fun n hn => by
    rcases h.lt p hp n hn with z | z
    · have := hu n z; omega
    · have := hv n z; omega⟩
  have ok1 : ∀ d ∈ r.map (fun p => D.tup [wordD p.1, .int p.2]), okN 2 d := fun d hd => by
    obtain ⟨p, _, rfl⟩ := List.mem_map.mp hd
    refine okN_tup fun e he => ?_
    simp only [List.mem_cons, List.not_mem_nil, or_false] at he
    rcases he with rfl | rfl
    · exact okN_pair1 p.1
    · exact (okN_int _).mono (by decide)
  refine .mk' (m := ((41 * 5 + 1) * 2 + 1) * 243) ((okN_lst (n := 2) ok1).mono (by decide)) ?_ (by decide) (by unfold told; rw [toPy]; rfl)
  unfold told
  rw [toPy]
  refine shwN_lst (fun d hd => ?_) (by rw [toPys_map, List.length_map, List.length_map]; exact few)
  rw [toPys_map, List.map_map] at hd
  obtain ⟨p, hp, rfl⟩ := List.mem_map.mp hd
  show shwN _ (toPy (.tup [wordD p.1, .int p.2]))
  rw [toPy]
  refine shwN_tup (k := 2) (fun e he => ?_) (Nat.le_refl _)
  have he : e = toPy (wordD p.1) ∨ e = toPy (.int p.2) := by simpa [toPys] using he
  rcases he with rfl | rfl
  · exact shw_word (ws p hp).2 (ws p hp).1
  · rw [toPy]
    have := shwN_int (big p hp)
    exact ⟨this.sh, this.st, Nat.le_trans this.wt (by decide)⟩
theorem plain_comp {a : Addr} {letters : Int} (h0 : 0 < letters) (h1 : letters ≤ 4) {e2 : Option D} : ∀ (n : Nat) {lo : Int} {e3 : Option D} {k : Nat} {l : LH} {Q : List D → LH → Prop}, Box l a k → k + n < 2 ^ 40 →
    (∀ (ws : List Int) l', ws.length = n → (∀ x ∈ ws, 1 ≤ x ∧ x ≤ 4) → Box l' a (k + n) → Oth l l' a → Q (ws.map D.int) l') →
    compL (gName 3) tYes (nE C__law_plain_1) [3] (rgD lo n) [some (.ref a), some (.int letters), e2, e3] l Q
  | 0, lo, e3, k, l, Q, hb, hk, hq => hq [] l rfl (fun w hw => by simp at hw) hb Oth.refl
  | n + 1, lo, e3, k, l, Q, hb, hk, hq => by
    rw [rgD_succ]
    walk_at "w"
    refine ifB_true ⟨?_⟩
    walk_at "w"
    refine c_take hb h0 (by omega) (by omega) fun r l1 r0 r1 hb1 o1 => ?_
    walk_at "w"
    refine plain_comp h0 h1 n hb1 (by omega) fun ws l3 hl hw hb3 o3 => ?_
    refine hq ((1 + r) :: ws) l3 (by rw [List.length_cons, hl]) ?_ (hb3.le (by omega)) (o1.trans o3)
    intro w hw'
    rcases List.mem_cons.mp hw' with e | e
    · subst e; omega
    · exact hw w e
theorem c_plain {a : Addr} {letters : Int} (h0 : 0 < letters) (h1 : letters ≤ 4) {most : Nat} (m5 : most ≤ 5) {k : Nat} {l : LH} {Q : DK} (hb : Box l a k) (hk : k < 2 ^ 39)
    (h : ∀ (ws : List Int) l', PlW ws most → Box l' a (k + 6) → Oth l l' a → Q (wordD ws) l') : callD D__law_plain [.ref a, .int letters, .int (most : Nat)] l Q := by
  refine ⟨rfl, ?_⟩
  walk_at "w"
  refine c_take hb (by omega) (by omega) (by omega) fun r l1 r0 r1 hb1 o1 => ?_
  obtain ⟨n, rfl⟩ := Int.eq_ofNat_of_zero_le r0
  walk_at "w"
  refine ⟨⟨by omega, by omega⟩, ?_⟩
  rw [show Int.toNat (n : Int) = n by omega]
  refine ⟨small (by unfold rgD; rw [List.length_map, List.length_range]; omega), ?_⟩
  refine plain_comp h0 h1 n hb1 (by omega) fun ws l2 hl hw hb2 o2 => ?_
  walk_at "w"
  exact h ws l2 ⟨by omega, hw⟩ (hb2.le (by omega)) (o1.trans o2)
theorem turn_ok {x : Addr} {k : Nat} {l : LH} (hb : Box l x k) (hk : k < 1000000) {E : DEnds} {e0 e1 e2 e4 e5 e6 e7 e8 e9 e10 : Option D}
    (h : ∀ l' e5 e6 e7 e8 e9 e10, Box l' x (k + 20) → E.nx [e0, e1, e2, some (.ref x), e4, e5, e6, e7, e8, e9, e10] l') :
    nS B_law_1 E [e0, e1, e2, some (.ref x), e4, e5, e6, e7, e8, e9, e10] l := by
  refine ⟨?_⟩
  walk_at "w"
  refine ⟨show 2 ≤ sizeLine by decide, ?_⟩
  refine c_take hb (by decide) (by decide) (by omega) fun a l1 a0 a1 hb1 o1 => ?_
  obtain ⟨L, L0, L4, hL⟩ : ∃ L : Int, 0 < L ∧ L ≤ 4 ∧ atI [D.int 2, .int 4] a = some (.int L) := by
    rcases (show a = 0 ∨ a = 1 by omega) with rfl | rfl
    · exact ⟨2, by decide, by decide, rfl⟩
    · exact ⟨4, by decide, by decide, rfl⟩
  refine ⟨_, hL, ?_⟩
  walk_at "w"
  refine c_take hb1 (by decide) (by decide) (by omega) fun n l2 n0 n1 hb2 o2 => ?_
  obtain ⟨n, rfl⟩ := Int.eq_ofNat_of_zero_le n0
  walk_at "w"
  refine c_plain L0 L4 (show n ≤ 5 by omega) hb2 (by omega) fun u l3 hu hb3 o3 => ?_
  have u5 := hu.ln
  have go : ∀ (v : List Int) (l4 : LH) (k4 : Nat), PlW v (5 - u.length) → Box l4 x k4 → k4 ≤ k + 20 → (sSeq (sSet 9 (dCall kStr2 (aCons (dDef D__law_due (aCons (dVar 7) (aCons (dVar 8) aNil))) aNil)))
  (sSeq (sSet 10 (dDef D_laid_together_m (aCons (dVar 7) (aCons (dCall kListF (aCons (dVar 8) aNil)) aNil))))
  (sSeq (sIf (tBor [10] (tOr (tNot (dTV (dIsI .lst (dVar 10)))) (dTV (dNeS (dCall kStr2 (aCons (dVar 10) aNil)) (dVar 9))))) (sRet (dC (.bl false))) sNext)
  (sSeq (sExpr (dMt0 kReverse (dVar 10)))
  (sIf (tOr (dTV (dNeS (dCall kStr2 (aCons (dDef D_laid_together (aCons (dCall kListF (aCons (dVar 8) aNil)) (aCons (dVar 7) aNil))) aNil)) (dVar 9))) (dTV (dNeS (dCall kStr2 (aCons (dDef D_laid_together (aCons (dVar 7) (aCons (dVar 8) aNil))) aNil)) (dVar 9)))) (sRet (dC (.bl false))) sNext))))) E [e0, e1, e2, some (.ref x), e4, some (.int L), some (.int (n : Nat)), some (wordD u), some (wordD v), e9, e10] l4 := by
    intro v l4 k4 hv hb4 hk4
    have uv : u.length + v.length ≤ 5 := by have := hv.ln; omega
    walk_at "w"
    refine c_due uv fun r l5 hr s5 => ?_
    walk_at "w"
    refine ⟨told_str hr uv hu.vs hv.vs, ?_⟩
    walk_at "w"
    refine c_laid_together_m (by omega) (Hd.t _) (Hd.l _) fun r2 hr2 => ?_
    have e := hr.uniq hr2
    subst e
    intro t nt
    walk_at "w"
    have hx : ∀ y o, l4 y = some o → y ≠ t := fun y o hy e => by
      have := s5 y o hy
      rw [e, nt] at this
      cases this
    refine ⟨_, uL_same, ?_⟩
    walk_at "w"
    refine ifB_false ?_
    walk_at "w"
    have so := told_str hr uv hu.vs hv.vs
    refine ⟨so, ?_⟩
    walk_at "w"
    rw [decide_eq_true rfl]
    refine ifB_false ?_
    walk_at "w"
    refine ⟨_, uL_same, ?_⟩
    walk_at "w"
    refine ⟨_, uL_same, ?_⟩
    walk_at "w"
    rw [uL_uL]
    refine c_laid_together (by omega) (Hd.l _) (Hd.t _) fun r2 hr2 => ?_
    have e := hr.uniq hr2.swap
    subst e
    walk_at "w"
    refine ⟨so, ?_⟩
    walk_at "w"
    rw [decide_eq_true rfl]
    refine ifB_false ?_
    walk_at "w"
    refine c_laid_together (by omega) (Hd.t _) (Hd.t _) fun r3 hr3 => ?_
    have e := hr.uniq hr3
    subst e
    walk_at "w"
    refine ⟨so, ?_⟩
    walk_at "w"
    rw [decide_eq_true rfl]
    refine ifB_false ?_
    walk_at "w"
    refine h _ _ _ _ _ _ _ ?_
    have b5 : Box l5 x k4 := by
      obtain ⟨o, ho, _⟩ := id hb4
      exact Box.of_same ((s5 x _ ho).trans ho.symm) hb4
    have xt : x ≠ t := by
      obtain ⟨o, ho, _⟩ := id hb4
      exact hx x _ ho
    exact (Box.of_same (uL_ne xt) b5).le hk4
  walk_at "w"
  refine c_take hb3 (by decide) (by decide) (by omega) fun q l4 q0 q1 hb4 o4 => ?_
  walk_at "w"
  refine ⟨(okN_int _).ok, (okN_int _).ok, ?_⟩
  rw [eqD_int]
  refine ifB_dec (fun _ => ?_) fun _ => ?_
  · walk_at "w"
    rw [List.length_map, show (5 - ((u.length : Nat) : Int)) = ((5 - u.length : Nat) : Int) by omega, cutD_to, ← List.map_take]
    exact go (u.take (5 - u.length)) l4 _ ⟨by rw [List.length_take]; omega, fun x hx => hu.vs x (List.mem_of_mem_take hx)⟩ hb4 (by omega)
  · walk_at "w"
    rw [List.length_map, show (5 - ((u.length : Nat) : Int)) = ((5 - u.length : Nat) : Int) by omega]
    refine c_plain L0 L4 (show 5 - u.length ≤ 5 by omega) hb4 (by omega) fun v l5 hv hb5 o5 => ?_
    exact go v l5 _ hv hb5 (by omega)
theorem turn_loop {x : Addr} {E : DEnds} {e0 e1 e2 : Option D} : ∀ (n : Nat) {lo : Int} {k : Nat} {l : LH} {e4 e5 e6 e7 e8 e9 e10 : Option D}, Box l x k → k + 20 * n < 1000000 →
    (∀ l' e4 e5 e6 e7 e8 e9 e10, E.nx [e0, e1, e2, some (.ref x), e4, e5, e6, e7, e8, e9, e10] l') →
    forL (gName 4) (nS B_law_1) (rgD lo n) E [e0, e1, e2, some (.ref x), e4, e5, e6, e7, e8, e9, e10] l
  | 0, lo, k, l, e4, e5, e6, e7, e8, e9, e10, hb, hk, h => h _ _ _ _ _ _ _ _
  | n + 1, lo, k, l, e4, e5, e6, e7, e8, e9, e10, hb, hk, h => by
    rw [rgD_succ]
    refine turn_ok hb (by omega) fun l' e5 e6 e7 e8 e9 e10 hb' => ?_
    exact turn_loop n hb' (by omega) h
theorem law_loop {cells : List Int} {E : DEnds} {e0 : Option D} : ∀ (n : Nat) {i : Int} {l : LH} {e2 e3 e4 e5 e6 e7 e8 e9 e10 : Option D}, 0 ≤ i → i + n < 1000 →
    (∀ l' e2 e3 e4 e5 e6 e7 e8 e9 e10, E.nx [e0, some (.lst (cells.map D.int)), e2, e3, e4, e5, e6, e7, e8, e9, e10] l') →
    forL (gName 2) (nS B_law_2) (rgD i n) E [e0, some (.lst (cells.map D.int)), e2, e3, e4, e5, e6, e7, e8, e9, e10] l
  | 0, i, l, e2, e3, e4, e5, e6, e7, e8, e9, e10, i0, i1, h => h _ _ _ _ _ _ _ _ _ _
  | n + 1, i, l, e2, e3, e4, e5, e6, e7, e8, e9, e10, i0, i1, h => by
    rw [rgD_succ]
    refine ⟨?_⟩
    walk_at "w"
    refine c_box cells i l _ i0 (by omega) fun a l1 _ hb _ => ?_
    walk_at "w"
    refine c_take hb (by decide) (by decide) (by omega) fun r l2 r0 r1 hb2 o2 => ?_
    walk_at "w"
    refine ⟨⟨by omega, by omega⟩, ?_⟩
    refine turn_loop _ hb2 (by omega) fun l' e4 e5 e6 e7 e8 e9 e10 => ?_
    exact law_loop n (by omega) (by omega) h
theorem law_true (ns : List Int) (hl : ns.length ≤ 63) : D_law [.scr ns] (fun _ => none) fun d _ => d = .bl true := by
  refine ⟨rfl, ?_⟩
  walk_at "w"
  refine c_folded ns 6 (by decide) (by decide) hl _ _ fun cs hc => ?_
  walk_at "w"
  refine ⟨?_⟩
  walk_at "w"
  have hm : ∀ m : Int, 0 ≤ m → m ≤ 63 → ((-(2 ^ 62) ≤ m ∧ m < 2 ^ 62) ∧ forL (gName 2) (nS B_law_2) (rgD 0 m.toNat) ⟨nS T_law_3 ⟨fun _ _ => D.non = .bl true, fun d _ => d = .bl true, fun _ _ => False, fun _ _ => False⟩, fun d _ => d = .bl true, fun _ _ => False, fun _ _ => False⟩ [some (.scr ns), some (.lst (cs.map D.int)), none, none, none, none, none, none, none, none, none] (fun _ => none)) := by
    intro m m0 m1
    refine ⟨⟨by omega, by omega⟩, law_loop _ (by omega) (by omega) fun l' e2 e3 e4 e5 e6 e7 e8 e9 e10 => ?_⟩
    refine ⟨?_⟩
    walk_at "w"
  exact hm _ (by split <;> omega) (by rw [List.length_map]; split <;> omega)

end Law

open PySem PySem.W PyProof.Rows
namespace Law
abbrev hR : OpenRow := OpenLaw.row PySem.Challenge.rw_bracketwords_k21_laid_together
abbrev hQ : Program := PySem.W.view hR.prog [12]
def hL0 : List PySem.Str := ["add_longer", "laid_counts", "laid_together", "_law_box", "_law_take", "_law_folded", "_law_plain", "_law_choices", "_law_word_of", "_law_due"]
def hL : List PySem.Str := hL0
theorem map3 {α β γ δ : Type} {x : Option α} {f : α → β} {g : α → γ} {h : α → δ} {a : β} {b : γ} {c : δ} (h1 : x.map f = some a) (h2 : x.map g = some b) (h3 : x.map h = some c) : x.map (fun s => (f s, g s, h s)) = some (a, b, c) := by
  cases x with
  | none => cases h1
  | some v => cases h1; cases h2; cases h3; rfl
theorem runA (w : World) (os : OsState) : (HeadRun.endF (HeadRun.stepQ (HeadRun.denQ HeadRun.tabQ) hR.prog w) 20000 hR.prog w os).map (fun s => HeadRun.looksF hR.prog (boot_heap w.params) s.abs) = some true := by kernel_rfl
theorem runB (w : World) (os : OsState) : (HeadRun.endF (HeadRun.stepQ (HeadRun.denQ HeadRun.tabQ) hR.prog w) 20000 hR.prog w os).map (fun s => HeadRun.seenQ hQ hL (importedModules hR.prog.main.body) (fun s => xlAt hQ [] s && recOk hR.toRowW.records s) s.abs) = some (openGood hQ hL) := by kernel_rfl
open HeadRun in
theorem left_tab {p q : Program} {loose : List PySem.Str} {Xt : Shared → Bool} {K : Params → Frag} {as ts : List Addr} {ek : ∀ P, as = (K P).map (·.1)} {N M : Nat} (h1 : opening p = plainProg p.main.scope.names) (h2 : Nat.ble 600 N = true) (h3 : ∀ s, fenceModules? p s = some s) (h4 : Nat.ble M N = true)
    (go : ∀ (w : World) (os : OsState), (endF (stepQ (denQ tabQ) p w) M p w os).map (fun s => (looksF p (boot_heap w.params) s.abs, seenQ q loose (importedModules p.main.body) Xt s.abs, (as.map (getT s), ts.map (getT s)))) = some (true, openGood q loose, ((K w.params).map (fun x => some x.2), ts.map fun _ => some (tabObj #[])))) :
    LeftO p q loose Xt (Hook.obs (kmHook K as ek ts)) (Hook.val (kmHook K as ek ts)) N true := by
  refine left_one (M := M) h1 h2 h3 h4 fun w os => ?_
  have ob : ∀ s : SharedT, (as.map (getT s), ts.map (getT s)) = Hook.obs (kmHook K as ek ts) s.abs := fun s => Prod.ext (List.map_congr_left fun a _ => getT_eq s a) (List.map_congr_left fun a _ => getT_eq s a)
  have z := go w os
  simp only [ob] at z
  simp only [endQ_eq, seenQ_eq]
  exact z
end Law
local macro_rules
  | `(tactic| o_headL ($h $k $a $e)) => `(tactic| (refine PySem.W.holds_open (r := Law.hR) (q := Law.hQ) (loose := Law.hL) (Xt := fun s => xlAt Law.hQ [] s && recOk Law.hR.toRowW.records s) (XP := XL Law.hQ []) (Yf := Hook.obs (PySem.W.kmHook $k $a $e [30])) (Ya := Hook.val (PySem.W.kmHook $k $a $e [30])) (YP := Hook.says (PySem.W.kmHook $k $a $e [30])) (N := 20700) ?_ (Hook.of (PySem.W.kmHook $k $a $e [30])) (Hook.keeps (PySem.W.kmHook $k $a $e [30])) (fun s e => xl_of s (Bool.and_eq_true_iff.mp e).1) XL.keeps (by rfl) (by rfl) (by rfl) (fun s e => recFacts_of (Bool.and_eq_true_iff.mp e).2) (by rfl) (by first | assumption | decide +kernel) (by decide +kernel) ⟨rfl, rfl, rfl, rfl, rfl, by decide +kernel⟩ ?_ ?_))
set_option maxHeartbeats 0 in
theorem PySem.Challenge.cw_bracketwords_k21_laid_together_holds : PySem.Challenge.rw_bracketwords_k21_laid_together.Holds := by
  w_on; o_law; k_headL
  · refine Law.left_tab (M := 20000) (by kernel_rfl) (by rfl) (fun s => by kernel_rfl) (by rfl) ?_
    intro w os
    refine Law.map3 (Law.runA w os) (Law.runB w os) ?_
    kernel_rfl
  · w_witness2
  k_fill
  refine DL.walk_ofT (c := 34) (P0 := 30) (l := PySem.Challenge.rw_bracketwords_k21_laid_together) (n := 63) (k := 15) (x := "_law_script") (dsp := Law.D_law) rfl (by decide) rfl ⟨rfl, by decide, by decide⟩ (fun P => by kernel_rfl) (fun P => by kernel_rfl) (fun P => by kernel_rfl) ?F (fun ns hl => Law.law_true ns hl)
  case F =>
    as_aux_lemma =>
    intro w mg fa h KX G hmg
    refine' Law.all_mk (lc0 := 34) (lP0 := 30) KX G hmg ?a0 ?l0 ?c0 ?k0 ?a1 ?l1 ?c1 ?k1 ?a2 ?l2 ?c2 ?k2 ?a3 ?l3 ?c3 ?k3 ?a4 ?l4 ?c4 ?k4 ?a5 ?l5 ?c5 ?k5 ?a6 ?l6 ?c6 ?k6 ?a7 ?l7 ?c7 ?k7 ?a8 ?l8 ?c8 ?k8 ?a9 ?l9 ?c9 ?k9 ?a10 ?l10 ?c10 ?k10 ?z0 ?z1 ?z2 ?z3 ?z4 ?z5 ?z6 ?z7 ?z8 ?z9 ?z10 ?z11 ?z12 ?z13 ?ltb
    (case a0 => k_is); (case l0 => k_is); (case c0 => k_is); (case k0 => k_is); (case a1 => k_is); (case l1 => k_is); (case c1 => k_is); (case k1 => k_is); (case a2 => k_is); (case l2 => k_is); (case c2 => k_is); (case k2 => k_is); (case a3 => k_is); (case l3 => k_is); (case c3 => k_is); (case k3 => k_is); (case a4 => k_is); (case l4 => k_is); (case c4 => k_is); (case k4 => k_is); (case a5 => k_is); (case l5 => k_is); (case c5 => k_is); (case k5 => k_is); (case a6 => k_is); (case l6 => k_is); (case c6 => k_is); (case k6 => k_is); (case a7 => k_is); (case l7 => k_is); (case c7 => k_is); (case k7 => k_is); (case a8 => k_is); (case l8 => k_is); (case c8 => k_is); (case k8 => k_is); (case a9 => k_is); (case l9 => k_is); (case c9 => k_is); (case k9 => k_is); (case a10 => k_is); (case l10 => k_is); (case c10 => k_is); (case k10 => k_is); (case z0 => k_is); (case z1 => k_is); (case z2 => k_is); (case z3 => k_is); (case z4 => k_is); (case z5 => k_is); (case z6 => k_is); (case z7 => k_is); (case z8 => k_is); (case z9 => k_is); (case z10 => k_is); (case z11 => k_is); (case z12 => k_is); (case z13 => k_is); (case ltb => kernel_rfl)
