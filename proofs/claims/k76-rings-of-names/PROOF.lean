import PyProof.Rows.All
import Wide.All
import OpenK.AllK
import Wide.FinOn
import KE.OsRunLaw
import HandS.ForMost
import HandS.Rev
import HandS.Zip
import HandS.IsInst
import HandS.Wide
import HandS.WideBits
import HandS.TupAny
import HandS.TupMul
import HandS.Conv
import HandS.NoneIn
import KE.KeyNested
import KE.DataMinMax
import KE.SortData
import HandS.SortKw
import HandS.TupSets
import HandS.Deep
import HandS.DictTup
import HandS.TupLen
import KE.KDictCopyH
import KE.KDictKeyed
import KE.DataCmp
import HandS.DictEq
import KE.GoesEnum
import KE.KDictZip
import KE.GoesMore
import HandS.ListItems
import KE.KTurns
import HandS.Style
import KE.DataAny
import HandS.Zip0
import PyProof.ZipIter
import HandS.Exc
import HandS.ExcOwn
import HandS.WordsExc
import HandS.TryElse
import KE.KExcIs
import KE.RegKTryMore
import KE.RegKIsAll
import KE.KDictDisplayH
import HandS.StrMore
import HandS.ClsMeth
import HandS.ExcInit
import KE.IntTextLaws
import HandS.Text
import PyProof.Rows.StrStep
import PyProof.Rows.EnumRows
import HandS.SetTxt0
import HandS.Set
import HandS.SetFor
import PyProof.Rows.SortStr
import KE.KDictWalk
import PySem.Challenge.RW_bracketwords_k76_rings_of_names
set_option Elab.async false
set_option linter.all false
set_option maxRecDepth 100000
set_option maxHeartbeats 4000000
/-! DL: a data layer over HandS. Values as trees, the mutable objects apart, readings that compute. -/
namespace DL
open PySem PySem.Spec PyProof.Rows L2

/-- data: what is never written is a tree, what may be written is an address -/
inductive D where
  | non | bl (b : Bool) | int (i : Int) | str (x : Str)
  | tup (ds : List D) | lst (ds : List D)
  | dT (ks : List (List Key)) (ds : List D) | dK (ks : List Key) (ds : List D)
  | scr (ns : List Int)
  | ref (a : Addr)
  | exc (k : Nat) | exc1 (k : Nat) (d : D)
  | kt (ds : List D)

/-- objects that may be written -/
structure Cl where
  name : Str
  fs : List Str
inductive DO where
  | lst (ds : List D) | dT (ks : List (List Key)) (ds : List D) | dK (ks : List Key) (ds : List D) | ins (c : Cl) (ds : List D)
  | dN (o : Obj) (ks ds : List D)
  | fz (d : D)
def isFz : DO → Bool
  | .fz _ => true
  | _ => false

abbrev LH := Addr → Option DO
def uL (l : LH) (a : Addr) (o : DO) : LH := fun b => if b = a then some o else l b
theorem uL_same {l : LH} {a : Addr} {o : DO} : uL l a o a = some o := by unfold uL; rw [if_pos rfl]
theorem uL_ne {l : LH} {a b : Addr} {o : DO} (h : b ≠ a) : uL l a o b = l b := by unfold uL; rw [if_neg h]
theorem uL_uL {l : LH} {a : Addr} {o u : DO} : uL (uL l a o) a u = uL l a u := by
  funext b; unfold uL; split <;> rfl
def dL (l : LH) (a : Addr) : LH := fun b => if b = a then none else l b

/-- the program's own exceptions, numbered, and the field of each -/
def exNames : List Str := ["BracketError", "NoGround", "NoPlace", "TooLong", "NoRules", "NoPut", "BadText", "NoLetter", "NoName", "TooGreat", "BadName", "Ring", "BadRow"]
def exN (k : Nat) : Str := exNames.getD k "BracketError"
def exF (k : Nat) : Str := ["", "", "", "", "", "", "at", "letter", "name", "", "", "ring", "line"].getD k ""
/-- a caught exception of the class cls, its dict at d -/
def ExH (cls : Value) (d : Option Addr) (a : Addr) : HO := .ext fun h => ∃ (oe : Obj) (vs : Array Value), h.get? a = some oe ∧ oe.cls = cls ∧ oe.dict = d ∧ oe.data = .fields vs
mutual
inductive RelD (K : PySem.W.Frag) (F : Hp) : D → V → Prop
  | non : RelD K F .non .non
  | bl (b : Bool) : RelD K F (.bl b) (.bl b)
  | int (i : Int) : RelD K F (.int i) (.int i)
  | str (x : Str) : RelD K F (.str x) (.str x)
  | ref (a : Addr) : RelD K F (.ref a) (.ref a)
  | tup {p : Addr} {vs : List V} {ds : List D} : F p = some (.tup vs) → RelDs K F ds vs → RelD K F (.tup ds) (.ref p)
  | scr {p : Addr} {ns : List Int} : SqL K F p (ns.map V.int) → RelD K F (.scr ns) (.ref p)
  | lst {p : Addr} {vs : List V} {ds : List D} : F p = some (.lst vs) → RelDs K F ds vs → RelD K F (.lst ds) (.ref p)
  | dT {p : Addr} {od : Obj} {vs : List V} {ks : List (List Key)} {ds : List D} : F p = some (.frz od (.dT (ks.zip vs))) → ks.length = vs.length → RelDs K F ds vs → RelD K F (.dT ks ds) (.ref p)
  | dK {p : Addr} {od : Obj} {vs : List V} {ks : List Key} {ds : List D} : F p = some (.frz od (.dK (ks.zip vs))) → ks.length = vs.length → RelDs K F ds vs → RelD K F (.dK ks ds) (.ref p)
  | exc {p C : Addr} {k : Nat} : PySem.W.nsIn K mainGlobals (exN k) = some (some (.ref C)) → F p = some (ExH (.ref C) none p) → RelD K F (.exc k) (.ref p)
  | exc1 {p C dx : Addr} {k : Nat} {d : D} {v : V} : PySem.W.nsIn K mainGlobals (exN k) = some (some (.ref C)) → F p = some (ExH (.ref C) (some dx) p) → F dx = some (.xd [(exF k, v)]) → RelD K F d v → RelD K F (.exc1 k d) (.ref p)
  | kt {p : Addr} {od : Obj} {vs : List V} {ds : List D} : F p = some (.frz od (.tup vs)) → od.cls = .type "tuple" → od.dict = none → RelDs K F ds vs → RelD K F (.kt ds) (.ref p)
inductive RelDs (K : PySem.W.Frag) (F : Hp) : List D → List V → Prop
  | nil : RelDs K F [] []
  | cons {d : D} {ds : List D} {v : V} {vs : List V} : RelD K F d v → RelDs K F ds vs → RelDs K F (d :: ds) (v :: vs)
end

section
variable {K : PySem.W.Frag} {F F' F1 F2 H : Hp}
theorem rd_mono (h : Same F F') {a : Addr} {u : HO} : Rd F a u → Rd F' a u
  | .inl e => .inl (h _ _ e)
  | .inr ⟨o, e⟩ => .inr ⟨o, h _ _ e⟩
theorem sqT_mono (h : Same F F') {a : Addr} {xs : List V} : SqT K F a xs → SqT K F' a xs
  | .inl e => .inl (rd_mono h e)
  | .inr e => .inr e
theorem sqL_mono (h : Same F F') {a : Addr} {xs : List V} : SqL K F a xs → SqL K F' a xs
  | .inl e => .inl (rd_mono h e)
  | .inr e => .inr e
mutual
theorem RelD.mono (h : Same F F') : ∀ {d : D} {v : V}, RelD K F d v → RelD K F' d v
  | _, _, .non => .non
  | _, _, .bl b => .bl b
  | _, _, .int b => .int b
  | _, _, .str b => .str b
  | _, _, .ref b => .ref b
  | _, _, .tup a b => .tup (h _ _ a) (RelDs.mono h b)
  | _, _, .scr a => .scr (sqL_mono h a)
  | _, _, .lst a b => .lst (h _ _ a) (RelDs.mono h b)
  | _, _, .dT a e b => .dT (h _ _ a) e (RelDs.mono h b)
  | _, _, .dK a e b => .dK (h _ _ a) e (RelDs.mono h b)
  | _, _, .exc a e => .exc a (h _ _ e)
  | _, _, .exc1 a e f r => .exc1 a (h _ _ e) (h _ _ f) (RelD.mono h r)
  | _, _, .kt a e f r => .kt (h _ _ a) e f (RelDs.mono h r)
theorem RelDs.mono (h : Same F F') : ∀ {ds : List D} {vs : List V}, RelDs K F ds vs → RelDs K F' ds vs
  | _, _, .nil => .nil
  | _, _, .cons a b => .cons (RelD.mono h a) (RelDs.mono h b)
end
theorem RelDs.length : ∀ {ds : List D} {vs : List V}, RelDs K F ds vs → ds.length = vs.length
  | _, _, .nil => rfl
  | _, _, .cons _ b => by rw [List.length_cons, List.length_cons, b.length]
theorem RelDs.get : ∀ {ds : List D} {vs : List V} {i : Nat} {d : D}, RelDs K F ds vs → ds[i]? = some d → ∃ v, vs[i]? = some v ∧ RelD K F d v
  | _, _, _, _, .nil, e => by simp at e
  | _, _, 0, _, .cons r _, e => by simp at e; subst e; exact ⟨_, rfl, r⟩
  | _, _, i + 1, _, .cons _ t, e => by
    obtain ⟨u, h1, h2⟩ := RelDs.get (i := i) t (by simpa using e)
    exact ⟨u, by simpa using h1, h2⟩
theorem RelDs.append : ∀ {ds es : List D} {vs ws : List V}, RelDs K F ds vs → RelDs K F es ws → RelDs K F (ds ++ es) (vs ++ ws)
  | _, _, _, _, .nil, s => s
  | _, _, _, _, .cons r t, s => .cons r (RelDs.append t s)
theorem RelDs.take : ∀ {ds : List D} {vs : List V} (n : Nat), RelDs K F ds vs → RelDs K F (ds.take n) (vs.take n)
  | _, _, 0, _ => .nil
  | _, _, _ + 1, .nil => .nil
  | _, _, n + 1, .cons r t => .cons r (RelDs.take n t)
theorem RelDs.drop : ∀ {ds : List D} {vs : List V} (n : Nat), RelDs K F ds vs → RelDs K F (ds.drop n) (vs.drop n)
  | _, _, 0, r => r
  | _, _, _ + 1, .nil => .nil
  | _, _, n + 1, .cons _ t => RelDs.drop n t
theorem RelDs.set {d : D} {v : V} (r : RelD K F d v) : ∀ {ds : List D} {vs : List V} (i : Nat), RelDs K F ds vs → RelDs K F (ds.set i d) (vs.set i v)
  | _, _, _, .nil => .nil
  | _, _, 0, .cons _ t => .cons r t
  | _, _, i + 1, .cons q t => .cons q (RelDs.set r i t)
theorem RelDs.reverse : ∀ {ds : List D} {vs : List V}, RelDs K F ds vs → RelDs K F ds.reverse vs.reverse
  | _, _, .nil => .nil
  | _, _, .cons r t => by
    rw [List.reverse_cons, List.reverse_cons]
    exact (RelDs.reverse t).append (.cons r .nil)
theorem RelDs.one {d : D} {vs : List V} (h : RelDs K F [d] vs) : ∃ v, vs = [v] ∧ RelD K F d v := by
  cases h with
  | cons a b => cases b; exact ⟨_, rfl, a⟩
theorem RelDs.two {d e : D} {vs : List V} (h : RelDs K F [d, e] vs) : ∃ v u, vs = [v, u] ∧ RelD K F d v ∧ RelD K F e u := by
  cases h with
  | cons a b =>
    obtain ⟨u, rfl, r⟩ := b.one
    exact ⟨_, u, rfl, a, r⟩
theorem RelDs.ints : ∀ {ns : List Int} {vs : List V}, RelDs K F (ns.map D.int) vs → vs = ns.map V.int
  | [], _, .nil => rfl
  | n :: ns, _, .cons a b => by cases a; rw [RelDs.ints b]; rfl
theorem relDs_ints : ∀ (ns : List Int), RelDs K F (ns.map D.int) (ns.map V.int)
  | [] => .nil
  | n :: ns => .cons (.int n) (relDs_ints ns)
theorem RelDs.bls : ∀ {ns : List Bool} {vs : List V}, RelDs K F (ns.map D.bl) vs → vs = ns.map V.bl
  | [], _, .nil => rfl
  | n :: ns, _, .cons a b => by cases a; rw [RelDs.bls b]; rfl
end

/-! ### dicts whose keys are tuples of any depth: numbers, truth values, None -/
mutual
def nkD : D → NestedKey
  | .bl b => .num (if b = true then 1 else 0)
  | .int i => .num i
  | .tup ds => .tup (nksD ds)
  | _ => .none
def nksD : List D → List NestedKey
  | [] => []
  | d :: ds => nkD d :: nksD ds
end
mutual
def nkOk : D → Bool
  | .non => true
  | .bl _ => true
  | .int _ => true
  | .tup ds => nksOk ds
  | _ => false
def nksOk : List D → Bool
  | [] => true
  | d :: ds => nkOk d && nksOk ds
end
/-- a key: a tuple -/
def nkT : D → Bool
  | .tup ds => nksOk ds && decide ((nkD (.tup ds)).depth ≤ 8)
  | _ => false
/-- the object at a is just o -/
def EO (a : Addr) (o : Obj) : HO := .ext fun h => h.get? a = some o
structure NdF (o : Obj) (a : Addr) (ks : List D) (as : List Addr) (vs : List V) : Prop where
  sys : (a == sysModules) = false
  few : ks.length ≤ sizeLine
  len1 : as.length = ks.length
  len2 : vs.length = ks.length
  ok : ∀ k ∈ ks, nkT k = true
  one : (ks.map nkD).Nodup
  dict : o.ExactDict
  es : ∃ (es : Array DictEntry) (ep : Nat) (us : List Value), o.data = .dict es ep ∧ Vals vs us ∧ ∀ (P : Program) (w : World), es.toList = ((ks.map nkD).zip (as.zip us)).map (entryOfKey (nestedKind P w))
theorem tq {K : PySem.W.Frag} {H : Hp} {p : Addr} {vs : List V} (e : H p = some (.tup vs)) : SqT K H p vs := .inl (.inl e)
/-! ### what is held: F never changes, Fr is kept by what runs, l may be written -/
def DOk (K : PySem.W.Frag) (F H : Hp) (a : Addr) : DO → Prop
  | .lst ds => ∃ vs, RelDs K F ds vs ∧ H a = some (.lst vs)
  | .dT ks ds => ∃ vs, RelDs K F ds vs ∧ ks.length = vs.length ∧ H a = some (.dT (ks.zip vs))
  | .dK ks ds => ∃ vs, RelDs K F ds vs ∧ ks.length = vs.length ∧ H a = some (.dK (ks.zip vs))
  | .ins c ds => ∃ C dx vs, RelDs K F ds vs ∧ PySem.W.nsIn K mainGlobals c.name = some (some (.ref C)) ∧ vs.length ≤ c.fs.length ∧ H a = some (.ins C dx (c.fs.zip vs))
  | .dN o ks ds => ∃ (as : List Addr) (vs : List V), RelDs K F ks (as.map V.ref) ∧ RelDs K F ds vs ∧ NdF o a ks as vs ∧ H a = some (EO a o)
  | .fz d => RelD K F d (.ref a) ∧ ∃ u, F a = some u
theorem DOk.mono {K : PySem.W.Frag} {F F' H H' : Hp} {a : Addr} {o : DO} (h : Same F F') (e : H' a = H a) (x : DOk K F H a o) : DOk K F' H' a o := by
  cases o with
  | lst ds => obtain ⟨vs, r, q⟩ := x; exact ⟨vs, r.mono h, e.trans q⟩
  | dT ks ds => obtain ⟨vs, r, n, q⟩ := x; exact ⟨vs, r.mono h, n, e.trans q⟩
  | dK ks ds => obtain ⟨vs, r, n, q⟩ := x; exact ⟨vs, r.mono h, n, e.trans q⟩
  | ins c ds => obtain ⟨C, dx, vs, r, z, n, q⟩ := x; exact ⟨C, dx, vs, r.mono h, z, n, e.trans q⟩
  | dN o ks ds => obtain ⟨as, vs, r, r2, f, q⟩ := x; exact ⟨as, vs, r.mono h, r2.mono h, f, e.trans q⟩
  | fz d => obtain ⟨r, u, q⟩ := x; exact ⟨r.mono h, u, h _ _ q⟩
theorem DOk.there {K : PySem.W.Frag} {F H : Hp} {a : Addr} {o : DO} (s : Same F H) (x : DOk K F H a o) : ∃ u, H a = some u := by
  cases o with
  | lst ds => obtain ⟨vs, r, q⟩ := x; exact ⟨_, q⟩
  | dT ks ds => obtain ⟨vs, r, n, q⟩ := x; exact ⟨_, q⟩
  | dK ks ds => obtain ⟨vs, r, n, q⟩ := x; exact ⟨_, q⟩
  | ins c ds => obtain ⟨C, dx, vs, r, z, n, q⟩ := x; exact ⟨_, q⟩
  | dN o ks ds => obtain ⟨as, vs, r, r2, f, q⟩ := x; exact ⟨_, q⟩
  | fz d => obtain ⟨r, u, q⟩ := x; exact ⟨_, s _ _ q⟩

def isTupO : HO → Bool
  | .tup _ => true
  | _ => false
structure Rep (K : PySem.W.Frag) (F Fr : Hp) (l : LH) (H : Hp) : Prop where
  fz : Same F H
  fr : Same Fr H
  fd : ∀ a o, Fr a = some o → F a = none ∧ l a = none
  lv : ∀ a o, l a = some o → (isFz o = false → F a = none) ∧ DOk K F H a o
  ft : ∀ a vs, Fr a ≠ some (.tup vs)

section
variable {K : PySem.W.Frag} {F F' F1 F2 Fr H : Hp} {l : LH} {p : Addr}
theorem Rep.F_none (r : Rep K F Fr l H) (n : H p = none) : F p = none := r.fz.free n
theorem Rep.Fr_none (r : Rep K F Fr l H) (n : H p = none) : Fr p = none := r.fr.free n
theorem Rep.l_none (r : Rep K F Fr l H) (n : H p = none) : l p = none := by
  cases q : l p with
  | none => rfl
  | some o =>
    obtain ⟨u, e⟩ := (r.lv p o q).2.there r.fz
    rw [n] at e; cases e
theorem same_upd {H : Hp} {p : Addr} {o : HO} (h : H p = none) : Same H (upd H p o) := fun b x e => by
  rw [upd_ne (ne_of_none e h)]
  exact e
theorem same_upd2 {F H : Hp} {p : Addr} {o : HO} (h : Same F H) : Same (upd F p o) (upd H p o) := fun b x e => by
  by_cases hb : b = p
  · subst hb; rw [upd_same] at e ⊢; exact e
  · rw [upd_ne hb] at e ⊢; exact h b x e
/-- a new object that stays as it is -/
theorem Rep.laid (r : Rep K F Fr l H) (n : H p = none) (o : HO) : Rep K (upd F p o) Fr l (upd H p o) where
  fz := same_upd2 r.fz
  fr := fun b x e => by
    rw [upd_ne (fun z => by subst z; rw [r.Fr_none n] at e; cases e)]
    exact r.fr b x e
  fd := fun b x e => by
    have hb : b ≠ p := fun z => by subst z; rw [r.Fr_none n] at e; cases e
    rw [upd_ne hb]
    exact r.fd b x e
  lv := fun b x e => by
    have hb : b ≠ p := fun z => by subst z; rw [r.l_none n] at e; cases e
    obtain ⟨h1, h2⟩ := r.lv b x e
    rw [upd_ne hb]
    exact ⟨h1, h2.mono (same_upd (r.F_none n)) (upd_ne hb)⟩
  ft := r.ft
/-- a new object that may be written -/
theorem Rep.made (r : Rep K F Fr l H) (n : H p = none) {o : HO} {d : DO} (ok : DOk K F (upd H p o) p d) : Rep K F Fr (uL l p d) (upd H p o) where
  fz := fun b x e => by
    rw [upd_ne (fun z => by subst z; rw [r.F_none n] at e; cases e)]
    exact r.fz b x e
  fr := fun b x e => by
    rw [upd_ne (fun z => by subst z; rw [r.Fr_none n] at e; cases e)]
    exact r.fr b x e
  fd := fun b x e => by
    have hb : b ≠ p := fun z => by subst z; rw [r.Fr_none n] at e; cases e
    rw [uL_ne hb]
    exact r.fd b x e
  lv := fun b x e => by
    by_cases hb : b = p
    · subst hb; rw [uL_same] at e; cases e; exact ⟨fun _ => r.F_none n, ok⟩
    · rw [uL_ne hb] at e
      obtain ⟨h1, h2⟩ := r.lv b x e
      exact ⟨h1, h2.mono (fun _ _ q => q) (upd_ne hb)⟩
  ft := r.ft
/-- an object that may be written is -/
theorem Rep.write (r : Rep K F Fr l H) {a : Addr} {o : DO} (h : l a = some o) (nf : isFz o = false) {u : HO} {d : DO} (ok : DOk K F (upd H a u) a d) : Rep K F Fr (uL l a d) (upd H a u) where
  fz := fun b x e => by
    rw [upd_ne (fun z => by subst z; rw [(r.lv b o h).1 nf] at e; cases e)]
    exact r.fz b x e
  fr := fun b x e => by
    rw [upd_ne (fun z => by subst z; rw [(r.fd b x e).2] at h; cases h)]
    exact r.fr b x e
  fd := fun b x e => by
    have hb : b ≠ a := fun z => by subst z; rw [(r.fd b x e).2] at h; cases h
    rw [uL_ne hb]
    exact r.fd b x e
  lv := fun b x e => by
    by_cases hb : b = a
    · subst hb; rw [uL_same] at e; cases e; exact ⟨fun _ => (r.lv b o h).1 nf, ok⟩
    · rw [uL_ne hb] at e
      obtain ⟨h1, h2⟩ := r.lv b x e
      exact ⟨h1, h2.mono (fun _ _ q => q) (upd_ne hb)⟩
  ft := r.ft
theorem DOk.up {F : Hp} {ds : List D} {vs : List V} (r : RelDs K F ds vs) : DOk K F (upd H p (.lst vs)) p (.lst ds) := ⟨vs, r, upd_same⟩
/-- an own object that is kept by what runs: taken up -/
theorem Rep.take (r : Rep K F Fr l H) (n : H p = none) (o : HO) (ho : isTupO o = false := by rfl) : Rep K F (upd Fr p o) l (upd H p o) where
  fz := fun b x e => by
    rw [upd_ne (fun z => by subst z; rw [r.F_none n] at e; cases e)]
    exact r.fz b x e
  fr := same_upd2 r.fr
  fd := fun b x e => by
    by_cases hb : b = p
    · subst hb; exact ⟨r.F_none n, r.l_none n⟩
    · rw [upd_ne hb] at e; exact r.fd b x e
  lv := fun b x e => by
    have hb : b ≠ p := fun z => by subst z; rw [r.l_none n] at e; cases e
    obtain ⟨h1, h2⟩ := r.lv b x e
    exact ⟨h1, h2.mono (fun _ _ q => q) (upd_ne hb)⟩
  ft := fun b vs e => by
    by_cases hb : b = p
    · subst hb; rw [upd_same] at e; cases e; cases ho
    · rw [upd_ne hb] at e; exact r.ft b vs e
theorem Rep.turn (r : Rep K F (upd Fr p o) l H) (o' : HO) (ho : isTupO o' = false := by rfl) : Rep K F (upd Fr p o') l (upd H p o') where
  fz := fun b x e => by
    rw [upd_ne (fun z => by subst z; rw [(r.fd b o upd_same).1] at e; cases e)]
    exact r.fz b x e
  fr := fun b x e => by
    by_cases hb : b = p
    · subst hb; rw [upd_same] at e ⊢; exact e
    · rw [upd_ne hb] at e ⊢
      exact r.fr b x (by rw [upd_ne hb]; exact e)
  fd := fun b x e => by
    by_cases hb : b = p
    · subst hb; exact r.fd b o upd_same
    · rw [upd_ne hb] at e; exact r.fd b x (by rw [upd_ne hb]; exact e)
  lv := fun b x e => by
    have hb : b ≠ p := fun z => by subst z; rw [(r.fd b o upd_same).2] at e; cases e
    obtain ⟨h1, h2⟩ := r.lv b x e
    exact ⟨h1, h2.mono (fun _ _ q => q) (upd_ne hb)⟩
  ft := fun b vs e => by
    by_cases hb : b = p
    · subst hb; rw [upd_same] at e; cases e; cases ho
    · rw [upd_ne hb] at e; exact r.ft b vs (by rw [upd_ne hb]; exact e)
/-- given out as what never changes -/
theorem Rep.give (r : Rep K F (upd Fr p o) l H) (n : Fr p = none) : Rep K (upd F p o) Fr l H where
  fz := fun b x e => by
    by_cases hb : b = p
    · subst hb; rw [upd_same] at e; exact r.fr b x (by rw [upd_same]; exact e)
    · rw [upd_ne hb] at e; exact r.fz b x e
  fr := fun b x e => by
    have hb : b ≠ p := fun z => by subst z; rw [n] at e; cases e
    exact r.fr b x (by rw [upd_ne hb]; exact e)
  fd := fun b x e => by
    have hb : b ≠ p := fun z => by subst z; rw [n] at e; cases e
    rw [upd_ne hb]
    exact r.fd b x (by rw [upd_ne hb]; exact e)
  lv := fun b x e => by
    have hb : b ≠ p := fun z => by subst z; rw [(r.fd b o upd_same).2] at e; cases e
    obtain ⟨h1, h2⟩ := r.lv b x e
    rw [upd_ne hb]
    exact ⟨h1, h2.mono (same_upd (r.fd p o upd_same).1) rfl⟩
  ft := fun b vs e => by
    have hb : b ≠ p := fun z => by subst z; rw [n] at e; cases e
    exact r.ft b vs (by rw [upd_ne hb]; exact e)
/-- given out as what may be written -/
theorem Rep.giveL (r : Rep K F (upd Fr p o) l H) (n : Fr p = none) {d : DO} (ok : DOk K F H p d) : Rep K F Fr (uL l p d) H where
  fz := r.fz
  fr := fun b x e => by
    have hb : b ≠ p := fun z => by subst z; rw [n] at e; cases e
    exact r.fr b x (by rw [upd_ne hb]; exact e)
  fd := fun b x e => by
    have hb : b ≠ p := fun z => by subst z; rw [n] at e; cases e
    rw [uL_ne hb]
    exact r.fd b x (by rw [upd_ne hb]; exact e)
  lv := fun b x e => by
    by_cases hb : b = p
    · subst hb; rw [uL_same] at e; cases e; exact ⟨fun _ => (r.fd b o upd_same).1, ok⟩
    · rw [uL_ne hb] at e; exact r.lv b x e
  ft := fun b vs e => by
    have hb : b ≠ p := fun z => by subst z; rw [n] at e; cases e
    exact r.ft b vs (by rw [upd_ne hb]; exact e)
/-- what may be written is from now on never written -/
theorem Rep.freeze (r : Rep K F Fr l H) {a : Addr} {o : DO} (h : l a = some o) (nf : isFz o = false) {u : HO} (e : H a = some u) : Rep K (upd F a u) Fr (dL l a) H where
  fz := fun b x q => by
    by_cases hb : b = a
    · subst hb; rw [upd_same] at q; cases q; exact e
    · rw [upd_ne hb] at q; exact r.fz b x q
  fr := r.fr
  fd := fun b x q => by
    have hb : b ≠ a := fun z => by subst z; rw [(r.fd b x q).2] at h; cases h
    unfold dL
    rw [upd_ne hb, if_neg hb]
    exact r.fd b x q
  lv := fun b x q => by
    unfold dL at q
    by_cases hb : b = a
    · rw [if_pos hb] at q; cases q
    · rw [if_neg hb] at q
      obtain ⟨h1, h2⟩ := r.lv b x q
      exact ⟨fun z => by rw [upd_ne hb]; exact h1 z, h2.mono (same_upd ((r.lv a o h).1 nf)) rfl⟩
  ft := r.ft
end
end DL

namespace DL
open PySem PySem.Spec PyProof.Rows L2

abbrev St := L2.St
/-! ### slots -/
abbrev DSt := List (Option D)
def RepE (K : PySem.W.Frag) (F : Hp) : DSt → St → Prop
  | [], [] => True
  | some d :: e, some v :: σ => RelD K F d v ∧ RepE K F e σ
  | none :: e, _ :: σ => RepE K F e σ
  | _, _ => False
def nthE : DSt → Nat → Option D
  | [], _ => none
  | x :: _, 0 => x
  | _ :: r, n + 1 => nthE r n
def setK : DSt → Nat → D → (DSt → Prop) → Prop
  | [], _, _, k => k []
  | _ :: r, 0, d, k => k (some d :: r)
  | x :: r, n + 1, d, k => setK r n d (fun r' => k (x :: r'))
def clrK : DSt → Nat → (DSt → Prop) → Prop
  | [], _, k => k []
  | _ :: r, 0, k => k (none :: r)
  | x :: r, n + 1, k => clrK r n (fun r' => k (x :: r'))
def wipeK : List Nat → DSt → (DSt → Prop) → Prop
  | [], e, k => k e
  | v :: vs, e, k => wipeK vs e (fun e' => clrK e' v k)
theorem setK_eq : ∀ (e : DSt) (i : Nat) (d : D) (k : DSt → Prop), setK e i d k = k (e.set i (some d))
  | [], _, _, _ => rfl
  | _ :: _, 0, _, _ => rfl
  | x :: r, n + 1, d, k => setK_eq r n d _
theorem clrK_eq : ∀ (e : DSt) (i : Nat) (k : DSt → Prop), clrK e i k = k (e.set i none)
  | [], _, _ => rfl
  | _ :: _, 0, _ => rfl
  | x :: r, n + 1, k => clrK_eq r n _
def wipeE (e : DSt) : List Nat → DSt
  | [] => e
  | v :: vs => (wipeE e vs).set v none
theorem wipeK_eq : ∀ (vs : List Nat) (e : DSt) (k : DSt → Prop), wipeK vs e k = k (wipeE e vs)
  | [], _, _ => rfl
  | v :: vs, e, k => by unfold wipeK; rw [wipeK_eq vs e]; exact clrK_eq _ _ _
section
variable {K : PySem.W.Frag} {F F' : Hp}
theorem RepE.mono (h : Same F F') : ∀ {e : DSt} {σ : St}, RepE K F e σ → RepE K F' e σ
  | [], [], _ => trivial
  | some d :: e, some v :: σ, ⟨a, b⟩ => ⟨a.mono h, RepE.mono h b⟩
  | none :: e, _ :: σ, b => RepE.mono h (e := e) (σ := σ) b
  | some _ :: _, none :: _, z => z.elim
  | [], _ :: _, z => z.elim
  | some _ :: _, [], z => z.elim
  | none :: _, [], z => z.elim
theorem RepE.get : ∀ {e : DSt} {σ : St} {i : Nat} {d : D}, RepE K F e σ → nthE e i = some d → ∃ v, σ[i]? = some (some v) ∧ RelD K F d v
  | [], _, _, _, _, q => by cases q
  | some d :: e, some v :: σ, 0, _, ⟨a, b⟩, q => by cases q; exact ⟨v, rfl, a⟩
  | none :: e, _ :: σ, 0, _, b, q => by cases q
  | some d :: e, some v :: σ, i + 1, _, ⟨a, b⟩, q => by
    obtain ⟨u, h1, h2⟩ := RepE.get (i := i) b q
    exact ⟨u, by simpa using h1, h2⟩
  | none :: e, _ :: σ, i + 1, _, b, q => by
    obtain ⟨u, h1, h2⟩ := RepE.get (e := e) (σ := σ) (i := i) b q
    exact ⟨u, by simpa using h1, h2⟩
  | some _ :: _, none :: _, _, _, z, _ => z.elim
  | some _ :: _, [], _, _, z, _ => z.elim
  | none :: _, [], _, _, z, _ => z.elim
theorem RepE.set {d : D} {v : V} (r : RelD K F d v) : ∀ {e : DSt} {σ : St} (i : Nat), RepE K F e σ → RepE K F (e.set i (some d)) (σ.set i (some v))
  | [], [], _, _ => trivial
  | some d :: e, some v :: σ, 0, ⟨a, b⟩ => ⟨r, b⟩
  | none :: e, _ :: σ, 0, b => ⟨r, b⟩
  | some d :: e, some v :: σ, i + 1, ⟨a, b⟩ => ⟨a, RepE.set r i b⟩
  | none :: e, _ :: σ, i + 1, b => RepE.set r (e := e) (σ := σ) i b
  | some _ :: _, none :: _, _, z => z.elim
  | [], _ :: _, _, z => z.elim
  | some _ :: _, [], _, z => z.elim
  | none :: _, [], _, z => z.elim
theorem RepE.clr : ∀ {e : DSt} {σ : St} (i : Nat) (x : Option V), RepE K F e σ → RepE K F (e.set i none) (σ.set i x)
  | [], [], _, _, _ => trivial
  | some d :: e, some v :: σ, 0, _, ⟨a, b⟩ => b
  | none :: e, _ :: σ, 0, _, b => b
  | some d :: e, some v :: σ, i + 1, x, ⟨a, b⟩ => ⟨a, RepE.clr i x b⟩
  | none :: e, _ :: σ, i + 1, x, b => RepE.clr (e := e) (σ := σ) i x b
  | some _ :: _, none :: _, _, _, z => z.elim
  | [], _ :: _, _, _, z => z.elim
  | some _ :: _, [], _, _, z => z.elim
  | none :: _, [], _, _, z => z.elim
theorem RepE.wipe {e : DSt} {σ : St} (r : RepE K F e σ) : ∀ vs : List Nat, RepE K F (wipeE e vs) (L2.wipe σ vs)
  | [] => r
  | v :: vs => RepE.clr v none (RepE.wipe r vs)
theorem RepE.start {ds : List D} {vs : List V} (r : RelDs K F ds vs) (n : Nat) : RepE K F (ds.map some ++ List.replicate n none) (vs.map some ++ List.replicate n none) := by
  induction r using RelDs.rec (motive_1 := fun _ _ _ => True) with
  | nil => 
    show RepE K F (List.replicate n none) (List.replicate n none)
    induction n with
    | zero => trivial
    | succ n ih => exact ih
  | cons a b _ ih => exact ⟨a, ih⟩
  | _ => trivial
end

/-! ### what is wanted -/
abbrev DK := D → LH → Prop
abbrev DTE := DSt → LH → DK → Prop
abbrev DTA := DSt → LH → (List D → LH → Prop) → Prop
abbrev DTT := DSt → LH → (Bool → LH → Prop) → Prop
abbrev DTG := D → DSt → LH → (DSt → LH → Prop) → Prop
abbrev DTI := DSt → LH → (List D → LH → Prop) → Prop
structure DEnds where
  nx : DSt → LH → Prop
  rt : DK
  bk : DSt → LH → Prop
  ct : DSt → LH → Prop
abbrev DTS := DEnds → DSt → LH → Prop

section
variable (K : PySem.W.Frag) (F Fr : Hp)
def LK (Q : DK) : VK := fun v H => ∃ F' d l, Same F F' ∧ RelD K F' d v ∧ Rep K F' Fr l H ∧ Q d l
def LA (Q : List D → LH → Prop) : List V → Hp → Prop := fun vs H => ∃ F' ds l, Same F F' ∧ RelDs K F' ds vs ∧ Rep K F' Fr l H ∧ Q ds l
def LB (Q : Bool → LH → Prop) : Bool → Hp → Prop := fun b H => ∃ F' l, Same F F' ∧ Rep K F' Fr l H ∧ Q b l
def LS (Q : DSt → LH → Prop) : St → Hp → Prop := fun σ H => ∃ F' e l, Same F F' ∧ RepE K F' e σ ∧ Rep K F' Fr l H ∧ Q e l
def LH' (Q : LH → Prop) : Hp → Prop := fun H => ∃ F' l, Same F F' ∧ Rep K F' Fr l H ∧ Q l
def LE (E : DEnds) : Ends := { nx := LS K F Fr E.nx, rt := LK K F Fr E.rt, bk := LS K F Fr E.bk, ct := LS K F Fr E.ct }
end
section
variable {K : PySem.W.Frag} {F F1 Fr : Hp}
theorem LK.weak (h : Same F F1) {Q : DK} {v : V} {H : Hp} : LK K F1 Fr Q v H → LK K F Fr Q v H
  | ⟨F', d, l, a, b⟩ => ⟨F', d, l, h.trans a, b⟩
theorem LA.weak (h : Same F F1) {Q : List D → LH → Prop} {v : List V} {H : Hp} : LA K F1 Fr Q v H → LA K F Fr Q v H
  | ⟨F', d, l, a, b⟩ => ⟨F', d, l, h.trans a, b⟩
theorem LB.weak (h : Same F F1) {Q : Bool → LH → Prop} {v : Bool} {H : Hp} : LB K F1 Fr Q v H → LB K F Fr Q v H
  | ⟨F', l, a, b⟩ => ⟨F', l, h.trans a, b⟩
theorem LS.weak (h : Same F F1) {Q : DSt → LH → Prop} {v : St} {H : Hp} : LS K F1 Fr Q v H → LS K F Fr Q v H
  | ⟨F', d, l, a, b⟩ => ⟨F', d, l, h.trans a, b⟩
theorem LK.mk {Q : DK} {v : V} {H : Hp} {d : D} {l : LH} (r : RelD K F d v) (p : Rep K F Fr l H) (q : Q d l) : LK K F Fr Q v H := ⟨F, d, l, Same.refl F, r, p, q⟩
theorem LK.new {Q : DK} {H : Hp} {d : D} {l : LH} {p : Addr} {o : HO} (n : H p = none) (R : Rep K F Fr l H) (r : RelD K (upd F p o) d (.ref p)) (q : Q d l) : LK K F Fr Q (.ref p) (upd H p o) :=
  ⟨upd F p o, d, l, same_upd (R.F_none n), r, R.laid n o, q⟩
theorem relTup {p : Addr} {vs : List V} {ds : List D} (n : F p = none) (r : RelDs K F ds vs) : RelD K (upd F p (.tup vs)) (.tup ds) (.ref p) := .tup upd_same (r.mono (same_upd n))
theorem relLst {p : Addr} {vs : List V} {ds : List D} (n : F p = none) (r : RelDs K F ds vs) : RelD K (upd F p (.lst vs)) (.lst ds) (.ref p) := .lst upd_same (r.mono (same_upd n))
theorem LK.tup {Q : DK} {H : Hp} {vs : List V} {ds : List D} {l : LH} {p : Addr} (n : H p = none) (R : Rep K F Fr l H) (r : RelDs K F ds vs) (q : Q (.tup ds) l) : LK K F Fr Q (.ref p) (upd H p (.tup vs)) :=
  LK.new n R (relTup (R.F_none n) r) q
theorem LK.lst {Q : DK} {H : Hp} {vs : List V} {ds : List D} {l : LH} {p : Addr} (n : H p = none) (R : Rep K F Fr l H) (r : RelDs K F ds vs) (q : Q (.lst ds) l) : LK K F Fr Q (.ref p) (upd H p (.lst vs)) :=
  LK.new n R (relLst (R.F_none n) r) q
/-- a new list that may be written -/
def newL (o : DO) (l : LH) (Q : DK) : Prop := ∀ a, l a = none → Q (.ref a) (uL l a o)
theorem LK.mut {Q : DK} {H : Hp} {vs : List V} {ds : List D} {l : LH} {p : Addr} (n : H p = none) (R : Rep K F Fr l H) (r : RelDs K F ds vs) (q : newL (.lst ds) l Q) : LK K F Fr Q (.ref p) (upd H p (.lst vs)) :=
  ⟨F, .ref p, _, Same.refl F, .ref p, R.made n (show DOk K F _ p (.lst ds) from ⟨vs, r, upd_same⟩), q p (R.l_none n)⟩
end

/-! ### the strongest readings -/
def WE (X : Cx) (e : Expr) : TE := fun σ H Q => ∀ pins s, Inv X pins σ H s → wpAny (model X.prog X.w) X.A (eval e X.env) (EP X pins σ Q) X.xe s
def WT (X : Cx) (e : Expr) : TT := fun σ H Q => ∀ pins s, Inv X pins σ H s → wpAny (model X.prog X.w) X.A (isTrue e X.env (eval e X.env)) (TP X pins σ Q) X.xe s
def WW (X : Cx) (e : Expr) : TT := fun σ H Q => ∀ whole pins s, Inv X pins σ H s → wpAny (model X.prog X.w) X.A (isTrue e X.env whole) (TP X pins σ Q) X.xe s
def WA (X : Cx) (es : List Expr) : TA := fun σ H Q => ∀ pos pins s, Inv X pins σ H s → wpAny (model X.prog X.w) X.A (spliced (backTo pos (starEach es X.env))) (AP X pins σ Q) X.xe s
def WS (X : Cx) (st : Stmt) : TS := fun D σ H => ∀ pins s, Inv X pins σ H s → wpAny (model X.prog X.w) X.A (exec st X.env) (SP X pins D) X.xe s
def WSs (X : Cx) (st : List Stmt) : TS := fun D σ H => ∀ pins s, Inv X pins σ H s → wpAny (model X.prog X.w) X.A (execs st X.env) (SP X pins D) X.xe s
def WG (X : Cx) (tg : Expr) : TG := fun v σ H Q => ∀ pins s u, Inv X pins σ H s → RelV v u → wpAny (model X.prog X.w) X.A (assign tg X.env u) (fun _ s' => ∃ σ' H', Inv X pins σ' H' s' ∧ Q σ' H') X.xe s
def WGs (X : Cx) (ts : List Expr) : TGs := fun vs σ H Q => ∀ pins s us, Inv X pins σ H s → Vals vs us → wpAny (model X.prog X.w) X.A (assignInOrder ((assignEach ts X.env).map (·.2)) us) (fun _ s' => ∃ σ' H', Inv X pins σ' H' s' ∧ Q σ' H') X.xe s
section
variable {X : Cx}
theorem peW {e : Expr} : PE X e (WE X e) := ⟨fun pins s _ _ _ I h => h pins s I⟩
theorem ptW {e : Expr} : PT X e (WT X e) := ⟨fun pins s _ _ _ I h => h pins s I⟩
theorem pwW {e : Expr} : PW X e (WW X e) := ⟨fun whole pins s _ _ _ I h => h whole pins s I⟩
theorem paW {e : List Expr} : PA X e (WA X e) := ⟨fun pos pins s _ _ _ I h => h pos pins s I⟩
theorem psW {e : Stmt} : PS X e (WS X e) := ⟨fun pins s _ _ _ I h => h pins s I⟩
theorem pssW {e : List Stmt} : PSs X e (WSs X e) := ⟨fun pins s _ _ _ I h => h pins s I⟩
theorem pgW {e : Expr} : PG X e (WG X e) := ⟨fun pins s _ _ _ u _ I r h => h pins s u I r⟩
theorem pgsW {e : List Expr} : PGs X e (WGs X e) := ⟨fun pins s _ _ _ us _ I r h => h pins s us I r⟩
theorem EP.mono {pins : List (Addr × Obj)} {σ : St} {Q Q' : VK} {u : Value} {s : Shared} (h : ∀ v H, Q v H → Q' v H) : EP X pins σ Q u s → EP X pins σ Q' u s
  | ⟨v, H, a, b, c⟩ => ⟨v, H, a, b, h _ _ c⟩
theorem WE.mono {e : Expr} {σ : St} {H : Hp} {Q Q' : VK} (w : WE X e σ H Q) (h : ∀ v H, Q v H → Q' v H) : WE X e σ H Q' := fun pins s I => thn (w pins s I) fun _ _ q => EP.mono h q
theorem WT.mono {e : Expr} {σ : St} {H : Hp} {Q Q' : Bool → Hp → Prop} (w : WT X e σ H Q) (h : ∀ v H, Q v H → Q' v H) : WT X e σ H Q' := fun pins s I => thn (w pins s I) fun _ _ ⟨H, a, b⟩ => ⟨H, a, h _ _ b⟩
theorem WW.mono {e : Expr} {σ : St} {H : Hp} {Q Q' : Bool → Hp → Prop} (w : WW X e σ H Q) (h : ∀ v H, Q v H → Q' v H) : WW X e σ H Q' := fun whole pins s I => thn (w whole pins s I) fun _ _ ⟨H, a, b⟩ => ⟨H, a, h _ _ b⟩
theorem WA.mono {e : List Expr} {σ : St} {H : Hp} {Q Q' : List V → Hp → Prop} (w : WA X e σ H Q) (h : ∀ v H, Q v H → Q' v H) : WA X e σ H Q' := fun pos pins s I => thn (w pos pins s I) fun _ _ ⟨vs, H, a, b, c⟩ => ⟨vs, H, a, b, h _ _ c⟩
theorem SP.mono {pins : List (Addr × Obj)} {D D' : Ends} {f : Flow} {s : Shared} (h1 : ∀ σ H, D.nx σ H → D'.nx σ H) (h2 : ∀ v H, D.rt v H → D'.rt v H) (h3 : ∀ σ H, D.bk σ H → D'.bk σ H) (h4 : ∀ σ H, D.ct σ H → D'.ct σ H) (q : SP X pins D f s) : SP X pins D' f s := by
  cases f with
  | next => obtain ⟨σ, H, a, b⟩ := q; exact ⟨σ, H, a, h1 _ _ b⟩
  | brk => obtain ⟨σ, H, a, b⟩ := q; exact ⟨σ, H, a, h3 _ _ b⟩
  | cont => obtain ⟨σ, H, a, b⟩ := q; exact ⟨σ, H, a, h4 _ _ b⟩
  | ret u => obtain ⟨v, σ, H, a, b, c⟩ := q; exact ⟨v, σ, H, a, b, h2 _ _ c⟩
theorem WS.mono {e : Stmt} {σ : St} {H : Hp} {D D' : Ends} (w : WS X e D σ H) (h1 : ∀ σ H, D.nx σ H → D'.nx σ H) (h2 : ∀ v H, D.rt v H → D'.rt v H) (h3 : ∀ σ H, D.bk σ H → D'.bk σ H) (h4 : ∀ σ H, D.ct σ H → D'.ct σ H) : WS X e D' σ H := fun pins s I => thn (w pins s I) fun _ _ q => SP.mono h1 h2 h3 h4 q
theorem WSs.mono {e : List Stmt} {σ : St} {H : Hp} {D D' : Ends} (w : WSs X e D σ H) (h1 : ∀ σ H, D.nx σ H → D'.nx σ H) (h2 : ∀ v H, D.rt v H → D'.rt v H) (h3 : ∀ σ H, D.bk σ H → D'.bk σ H) (h4 : ∀ σ H, D.ct σ H → D'.ct σ H) : WSs X e D' σ H := fun pins s I => thn (w pins s I) fun _ _ q => SP.mono h1 h2 h3 h4 q
theorem WG.mono {e : Expr} {v : V} {σ : St} {H : Hp} {Q Q' : St → Hp → Prop} (w : WG X e v σ H Q) (h : ∀ σ H, Q σ H → Q' σ H) : WG X e v σ H Q' := fun pins s u I r => thn (w pins s u I r) fun _ _ ⟨σ, H, a, b⟩ => ⟨σ, H, a, h _ _ b⟩
theorem WGs.mono {e : List Expr} {v : List V} {σ : St} {H : Hp} {Q Q' : St → Hp → Prop} (w : WGs X e v σ H Q) (h : ∀ σ H, Q σ H → Q' σ H) : WGs X e v σ H Q' := fun pins s u I r => thn (w pins s u I r) fun _ _ ⟨σ, H, a, b⟩ => ⟨σ, H, a, h _ _ b⟩
theorem _root_.L2.PE.we {e : Expr} {t : TE} (h : PE X e t) {σ : St} {H : Hp} {Q : VK} (q : t σ H Q) : WE X e σ H Q := fun pins s I => h.run pins s σ H Q I q
theorem _root_.L2.PT.wt {e : Expr} {t : TT} (h : PT X e t) {σ : St} {H : Hp} {Q : Bool → Hp → Prop} (q : t σ H Q) : WT X e σ H Q := fun pins s I => h.run pins s σ H Q I q
theorem _root_.L2.PW.ww {e : Expr} {t : TT} (h : PW X e t) {σ : St} {H : Hp} {Q : Bool → Hp → Prop} (q : t σ H Q) : WW X e σ H Q := fun whole pins s I => h.run whole pins s σ H Q I q
theorem _root_.L2.PA.wa {e : List Expr} {t : TA} (h : PA X e t) {σ : St} {H : Hp} {Q : List V → Hp → Prop} (q : t σ H Q) : WA X e σ H Q := fun pos pins s I => h.run pos pins s σ H Q I q
theorem _root_.L2.PS.ws {e : Stmt} {t : TS} (h : PS X e t) {σ : St} {H : Hp} {D : Ends} (q : t D σ H) : WS X e D σ H := fun pins s I => h.run pins s σ H D I q
theorem _root_.L2.PSs.wss {e : List Stmt} {t : TS} (h : PSs X e t) {σ : St} {H : Hp} {D : Ends} (q : t D σ H) : WSs X e D σ H := fun pins s I => h.run pins s σ H D I q
theorem _root_.L2.PG.wg {e : Expr} {t : TG} (h : PG X e t) {v : V} {σ : St} {H : Hp} {Q : St → Hp → Prop} (q : t v σ H Q) : WG X e v σ H Q := fun pins s u I r => h.run pins s σ H v u Q I r q
theorem _root_.L2.PGs.wgs {e : List Expr} {t : TGs} (h : PGs X e t) {v : List V} {σ : St} {H : Hp} {Q : St → Hp → Prop} (q : t v σ H Q) : WGs X e v σ H Q := fun pins s u I r => h.run pins s σ H v u Q I r q
end

/-! ### the judgements -/
structure DE (X : Cx) (e : Expr) (t : DTE) : Prop where
  run : ∀ F Fr env l σ H Q, RepE X.K F env σ → Rep X.K F Fr l H → t env l Q → WE X e σ H (LK X.K F Fr Q)
instance {X : Cx} {e : Expr} {t : DTE} : CoeFun (DE X e t) (fun _ => ∀ F Fr env l σ H Q, RepE X.K F env σ → Rep X.K F Fr l H → t env l Q → WE X e σ H (LK X.K F Fr Q)) := ⟨DE.run⟩
structure DT (X : Cx) (e : Expr) (t : DTT) : Prop where
  run : ∀ F Fr env l σ H Q, RepE X.K F env σ → Rep X.K F Fr l H → t env l Q → WT X e σ H (LB X.K F Fr Q)
instance {X : Cx} {e : Expr} {t : DTT} : CoeFun (DT X e t) (fun _ => ∀ F Fr env l σ H Q, RepE X.K F env σ → Rep X.K F Fr l H → t env l Q → WT X e σ H (LB X.K F Fr Q)) := ⟨DT.run⟩
structure DW (X : Cx) (e : Expr) (t : DTT) : Prop where
  run : ∀ F Fr env l σ H Q, RepE X.K F env σ → Rep X.K F Fr l H → t env l Q → WW X e σ H (LB X.K F Fr Q)
instance {X : Cx} {e : Expr} {t : DTT} : CoeFun (DW X e t) (fun _ => ∀ F Fr env l σ H Q, RepE X.K F env σ → Rep X.K F Fr l H → t env l Q → WW X e σ H (LB X.K F Fr Q)) := ⟨DW.run⟩
structure DA (X : Cx) (e : List Expr) (t : DTA) : Prop where
  run : ∀ F Fr env l σ H Q, RepE X.K F env σ → Rep X.K F Fr l H → t env l Q → WA X e σ H (LA X.K F Fr Q)
instance {X : Cx} {e : List Expr} {t : DTA} : CoeFun (DA X e t) (fun _ => ∀ F Fr env l σ H Q, RepE X.K F env σ → Rep X.K F Fr l H → t env l Q → WA X e σ H (LA X.K F Fr Q)) := ⟨DA.run⟩
structure DS (X : Cx) (st : Stmt) (t : DTS) : Prop where
  run : ∀ F Fr env l σ H E, RepE X.K F env σ → Rep X.K F Fr l H → t E env l → WS X st (LE X.K F Fr E) σ H
instance {X : Cx} {st : Stmt} {t : DTS} : CoeFun (DS X st t) (fun _ => ∀ F Fr env l σ H E, RepE X.K F env σ → Rep X.K F Fr l H → t E env l → WS X st (LE X.K F Fr E) σ H) := ⟨DS.run⟩
structure DSs (X : Cx) (st : List Stmt) (t : DTS) : Prop where
  run : ∀ F Fr env l σ H E, RepE X.K F env σ → Rep X.K F Fr l H → t E env l → WSs X st (LE X.K F Fr E) σ H
instance {X : Cx} {st : List Stmt} {t : DTS} : CoeFun (DSs X st t) (fun _ => ∀ F Fr env l σ H E, RepE X.K F env σ → Rep X.K F Fr l H → t E env l → WSs X st (LE X.K F Fr E) σ H) := ⟨DSs.run⟩
/-- vs: the slots that the target may write -/
def LG (K : PySem.W.Frag) (F Fr : Hp) (vs : List Nat) (σ : St) (Q : DSt → LH → Prop) : St → Hp → Prop := fun σ' H => L2.wipe σ' vs = L2.wipe σ vs ∧ LS K F Fr Q σ' H
structure DG (X : Cx) (tg : Expr) (vs : List Nat) (g : DTG) : Prop where
  run : ∀ F Fr env l σ H d v Q, RepE X.K F env σ → Rep X.K F Fr l H → RelD X.K F d v → g d env l Q → WG X tg v σ H (LG X.K F Fr vs σ Q)
instance {X : Cx} {tg : Expr} {vs : List Nat} {g : DTG} : CoeFun (DG X tg vs g) (fun _ => ∀ F Fr env l σ H d v Q, RepE X.K F env σ → Rep X.K F Fr l H → RelD X.K F d v → g d env l Q → WG X tg v σ H (LG X.K F Fr vs σ Q)) := ⟨DG.run⟩
structure DGs (X : Cx) (tg : List Expr) (vs : List Nat) (g : List D → DSt → LH → (DSt → LH → Prop) → Prop) : Prop where
  run : ∀ F Fr env l σ H d v Q, RepE X.K F env σ → Rep X.K F Fr l H → RelDs X.K F d v → g d env l Q → WGs X tg v σ H (LG X.K F Fr vs σ Q)
instance {X : Cx} {tg : List Expr} {vs : List Nat} {g : List D → DSt → LH → (DSt → LH → Prop) → Prop} : CoeFun (DGs X tg vs g) (fun _ => ∀ F Fr env l σ H d v Q, RepE X.K F env σ → Rep X.K F Fr l H → RelDs X.K F d v → g d env l Q → WGs X tg v σ H (LG X.K F Fr vs σ Q)) := ⟨DGs.run⟩
/-- what an iterator gives: the items ds, the heap may be any that holds -/
def JOk (K : PySem.W.Frag) (F : Hp) (J : It) (ds : List D) : Prop := ∀ (i : Nat) F' Fr l H, Same F F' → Rep K F' Fr l H →
  (ds.length ≤ i → J.stop i H) ∧ (∀ d, ds[i]? = some d → J.go i H ∧ ∀ x H', J.yld i H x H' → ∃ F2, Same F' F2 ∧ RelD K F2 d x ∧ Rep K F2 Fr l H')
def WI (X : Cx) (tg iter : Expr) : TI := fun σ H R => ∀ pins s, Inv X pins σ H s → wpAny (model X.prog X.w) X.A (eval iter X.env) (fun v s1 => wpAny (model X.prog X.w) X.A (pyIter v) (PIE X pins σ tg R) X.xe s1) X.xe s
theorem piW {X : Cx} {tg iter : Expr} : PI X tg iter (WI X tg iter) := ⟨fun pins s σ H R I h => h pins s I⟩
theorem _root_.L2.PI.wi {X : Cx} {tg iter : Expr} {t : TI} (h : PI X tg iter t) {σ : St} {H : Hp} {R : It → Hp → Prop} (q : t σ H R) : WI X tg iter σ H R := fun pins s I => h.run pins s σ H R I q
theorem WI.mono {X : Cx} {tg iter : Expr} {σ : St} {H : Hp} {R R' : It → Hp → Prop} (w : WI X tg iter σ H R) (h : ∀ J H, R J H → R' J H) : WI X tg iter σ H R' := fun pins s I => thn (w pins s I) fun _ _ q => thn q fun _ _ ⟨it, fp, tn, J, H', a, b, c, d, e, f⟩ => ⟨it, fp, tn, J, H', a, b, c, d, e, h _ _ f⟩
def LI (K : PySem.W.Frag) (F Fr : Hp) (R : List D → LH → Prop) : It → Hp → Prop := fun J H => ∃ F1 l1 ds, Same F F1 ∧ Rep K F1 Fr l1 H ∧ JOk K F1 J ds ∧ R ds l1
structure DI (X : Cx) (tg iter : Expr) (t : DTI) : Prop where
  run : ∀ F Fr env l σ H R, RepE X.K F env σ → Rep X.K F Fr l H → t env l R → WI X tg iter σ H (LI X.K F Fr R)
instance {X : Cx} {tg iter : Expr} {t : DTI} : CoeFun (DI X tg iter t) (fun _ => ∀ F Fr env l σ H R, RepE X.K F env σ → Rep X.K F Fr l H → t env l R → WI X tg iter σ H (LI X.K F Fr R)) := ⟨DI.run⟩
end DL

namespace DL
open PySem PySem.Spec PyProof.Rows L2

/-! ### data as the library's data -/
mutual
def toPy : D → PyData
  | .non => .none
  | .bl b => .bool b
  | .int i => .int i
  | .str x => .str x
  | .tup ds => .tuple (toPys ds)
  | .lst ds => .list (toPys ds)
  | .dT _ _ => .dict []
  | .scr _ => .dict []
  | .dK _ _ => .dict []
  | .ref _ => .dict []
  | .exc _ => .dict []
  | .exc1 _ _ => .dict []
  | .kt ds => .tuple (toPys ds)
def toPys : List D → List PyData
  | [] => []
  | d :: ds => toPy d :: toPys ds
end
theorem toPys_map : ∀ ds : List D, toPys ds = ds.map toPy
  | [] => rfl
  | d :: ds => by rw [toPys, toPys_map ds]; rfl
mutual
theorem RelD.dp {K : PySem.W.Frag} {F H : Hp} (h : Same F H) : ∀ {d : D} {v : V}, RelD K F d v → (toPy d).canLay0 = true → Dp K H v (toPy d)
  | _, _, .non, _ => .non
  | _, _, .bl b, _ => .bl b
  | _, _, .int b, _ => .int b
  | _, _, .str b, _ => .str b
  | _, _, .ref b, c => by rw [toPy, PyData.canLay0] at c; cases c
  | _, _, .scr b, c => by rw [toPy, PyData.canLay0] at c; cases c
  | _, _, .exc a b, c => by rw [toPy, PyData.canLay0] at c; cases c
  | _, _, .exc1 a b e f, c => by rw [toPy, PyData.canLay0] at c; cases c
  | _, _, .kt a e f b, c => by
    rw [toPy, PyData.canLay0] at c
    exact .tup (.inl (.inr ⟨_, h _ _ a⟩)) (RelDs.dp h b c)
  | _, _, .tup a b, c => by
    rw [toPy, PyData.canLay0] at c
    exact .tup (tq (h _ _ a)) (RelDs.dp h b c)
  | _, _, .lst a b, c => by
    rw [toPy, PyData.canLay0] at c
    exact .lst (.inl (.inl (h _ _ a))) (RelDs.dp h b c)
  | _, _, .dT a e b, c => by rw [toPy, PyData.canLay0] at c; cases c
  | _, _, .dK a e b, c => by rw [toPy, PyData.canLay0] at c; cases c
theorem RelDs.dp {K : PySem.W.Frag} {F H : Hp} (h : Same F H) : ∀ {ds : List D} {vs : List V}, RelDs K F ds vs → PyData.canLayAll0 (toPys ds) = true → DpAll K H vs (toPys ds)
  | _, _, .nil, _ => .nil
  | _, _, .cons a b, c => by
    rw [toPys, PyData.canLayAll0, Bool.and_eq_true] at c
    exact .cons (RelD.dp h a c.1) (RelDs.dp h b c.2)
end

/-! ### expressions -/
section
variable {X : Cx} {a b e : Expr} {ta tb tc te : DTE} {pos : Pos}
def dVar (i : Nat) : DTE := fun env l Q => match nthE env i with | some d => Q d l | none => False
def dC (d : D) : DTE := fun _ l Q => Q d l
theorem de_var (i : Nat) {x : Str} {pos : Pos} (hN : X.N[i]? = some x := by rfl) (hv : Vis X.env.scope x := by first | exact Or.inl rfl | exact Or.inr (Or.inl rfl) | exact Or.inr (Or.inr rfl)) (hd : (x == ("__debug__" : Str)) = false := by decide)
    (hcd : (x == ("__classdict__" : Str)) = false := by decide) : DE X (.Name x pos) (dVar i) := by
  refine ⟨?_⟩
  intro F Fr env l σ H Q he hr ht
  refine (pv i hN hv hd hcd).we ?_
  unfold dVar at ht
  cases q : nthE env i with
  | none => rw [q] at ht; exact ht.elim
  | some d =>
    rw [q] at ht
    obtain ⟨v, h1, h2⟩ := he.get q
    exact ⟨v, h1, LK.mk h2 hr ht⟩
theorem de_int {i j pos} : DE X (.Constant (.int i) j pos) (dC (.int i)) := ⟨fun F Fr env l σ H Q he hr ht => pe_int.we (LK.mk (.int i) hr ht)⟩
theorem de_bl {b j pos} : DE X (.Constant (.bool b) j pos) (dC (.bl b)) := ⟨fun F Fr env l σ H Q he hr ht => pe_bl.we (LK.mk (.bl b) hr ht)⟩
theorem de_non {j pos} : DE X (.Constant .none j pos) (dC .non) := ⟨fun F Fr env l σ H Q he hr ht => pe_non.we (LK.mk .non hr ht)⟩
theorem de_str {x j pos} : DE X (.Constant (.str x) j pos) (dC (.str x)) := ⟨fun F Fr env l σ H Q he hr ht => pe_str.we (LK.mk (.str x) hr ht)⟩
/-! operators, by values -/
def KOp (X : Cx) (r : R2) (k : D → D → LH → DK → Prop) : Prop := ∀ F Fr l H Q d e v u (Q' : VK), Rep X.K F Fr l H → RelD X.K F d v → RelD X.K F e u → (∀ v H, LK X.K F Fr Q v H → Q' v H) → k d e l Q → r v u H Q'
def KUn (X : Cx) (r : V → Hp → VK → Prop) (k : D → LH → DK → Prop) : Prop := ∀ F Fr l H Q d v (Q' : VK), Rep X.K F Fr l H → RelD X.K F d v → (∀ v H, LK X.K F Fr Q v H → Q' v H) → k d l Q → r v H Q'
def KCall (X : Cx) (r : List V → Hp → VK → Prop) (k : List D → LH → DK → Prop) : Prop := ∀ F Fr l H Q ds vs (Q' : VK), Rep X.K F Fr l H → RelDs X.K F ds vs → (∀ v H, LK X.K F Fr Q v H → Q' v H) → k ds l Q → r vs H Q'
def dOp (k : D → D → LH → DK → Prop) (ta tb : DTE) : DTE := fun env l Q => ta env l fun x l1 => tb env l1 fun y l2 => k x y l2 Q
def dUn (k : D → LH → DK → Prop) (ta : DTE) : DTE := fun env l Q => ta env l fun x l1 => k x l1 Q
theorem two {F Fr : Hp} {env : DSt} {l : LH} {σ : St} {H : Hp} {Q : DK} {r : R2} {k : D → D → LH → DK → Prop} (hk : KOp X r k) (ha : DE X a ta) (hb : DE X b tb) (he : RepE X.K F env σ) (hr : Rep X.K F Fr l H) (ht : dOp k ta tb env l Q) :
    WE X a σ H fun x H1 => WE X b σ H1 fun y H2 => r x y H2 (LK X.K F Fr Q) := by
  refine (ha F Fr env l σ H _ he hr ht).mono fun x H1 ⟨F1, d, l1, s1, r1, R1, q1⟩ => ?_
  refine (hb F1 Fr env l1 σ H1 _ (he.mono s1) R1 q1).mono fun y H2 ⟨F2, d2, l2, s2, r2, R2, q2⟩ => ?_
  exact hk F2 Fr l2 H2 Q d d2 x y _ R2 (r1.mono s2) r2 (fun v H q => q.weak (s1.trans s2)) q2
theorem de_op {op : Operator} {r : R2} {k : D → D → LH → DK → Prop} (ho : OpR X (binaryOp op) r) (hk : KOp X r k) (ha : DE X a ta) (hb : DE X b tb) : DE X (.BinOp a op b pos) (dOp k ta tb) :=
  ⟨fun F Fr env l σ H Q he hr ht => (pe_op ho peW peW).we (two hk ha hb he hr ht)⟩
theorem de_cmp {op : CmpOp} {r : R2} {k : D → D → LH → DK → Prop} (ho : OpR X (compareOp op) r) (hk : KOp X r k) (ha : DE X a ta) (hb : DE X b tb) (hm : behindInMarks op b = false) : DE X (.Compare a [op] [b] pos) (dOp k ta tb) :=
  ⟨fun F Fr env l σ H Q he hr ht => (pe_cmpR ho peW peW hm).we (two hk ha hb he hr ht)⟩
theorem de_un {op : UnaryOp} {r : V → Hp → VK → Prop} {k : D → LH → DK → Prop} (ho : UnR X (unaryOp op) r) (hk : KUn X r k) (ha : DE X a ta) : DE X (.UnaryOp op a pos) (dUn k ta) := by
  refine ⟨?_⟩
  intro F Fr env l σ H Q he hr ht
  refine (pe_un ho peW).we ?_
  refine (ha F Fr env l σ H _ he hr ht).mono fun x H1 ⟨F1, d, l1, s1, r1, R1, q1⟩ => ?_
  exact hk F1 Fr l1 H1 Q d x _ R1 r1 (fun v H q => q.weak s1) q1
/-- a < b < c -/
def dChain (k k' : D → D → LH → DK → Prop) (ta tb tc : DTE) : DTE := fun env l Q => ta env l fun x l1 => tb env l1 fun y l2 => k x y l2 fun z l3 => match z with
  | .bl true => tc env l3 fun u l4 => k' y u l4 Q
  | .bl false => Q (.bl false) l3
  | _ => False
theorem de_chain {op op' : CmpOp} {r r' : R2} {k k' : D → D → LH → DK → Prop} {c : Expr} (ho : OpR X (compareOp op) r) (ho' : OpR X (compareOp op') r') (hk : KOp X r k) (hk' : KOp X r' k') (ha : DE X a ta) (hb : DE X b tb) (hc : DE X c tc) 
    (hm : lastMarks [op, op'] [b, c] = false := by rfl) : DE X (.Compare a [op, op'] [b, c] pos) (dChain k k' ta tb tc) := by
  refine ⟨?_⟩
  intro F Fr env l σ H Q he hr ht
  refine (pe_chain ho ho' peW peW peW hm).we ?_
  refine (ha F Fr env l σ H _ he hr ht).mono fun x H1 ⟨F1, d, l1, s1, r1, R1, q1⟩ => ?_
  refine (hb F1 Fr env l1 σ H1 _ (he.mono s1) R1 q1).mono fun y H2 ⟨F2, d2, l2, s2, r2, R2, q2⟩ => ?_
  refine hk F2 Fr l2 H2 _ d d2 x y _ R2 (r1.mono s2) r2 (fun v H3 q => ?_) q2
  obtain ⟨F3, d3, l3, s3, r3, R3, q3⟩ := q
  cases r3 with
  | bl z =>
    refine ⟨z, rfl, ?_⟩
    cases z with
    | true =>
      refine (hc F3 Fr env l3 σ H3 _ (((he.mono s1).mono s2).mono s3) R3 q3).mono fun w H4 ⟨F4, d4, l4, s4, r4, R4, q4⟩ => ?_
      exact hk' F4 Fr l4 H4 Q d2 d4 y w _ R4 (r2.mono (s3.trans s4)) r4 (fun v H q => q.weak (s1.trans (s2.trans (s3.trans s4)))) q4
    | false => exact ⟨F3, .bl false, l3, s1.trans (s2.trans s3), .bl false, R3, q3⟩
  | _ => exact q3.elim

/-! and, or, not, if as values -/
def dAnd (ta tb : DTE) : DTE := fun env l Q => ta env l fun x l1 => match x with
  | .bl true => tb env l1 Q
  | .bl false => Q (.bl false) l1
  | _ => False
theorem de_one {op} (h : DE X a ta) : DE X (.BoolOp op [a] pos) ta := ⟨fun F Fr env l σ H Q he hr ht => (pe_one peW).we (h F Fr env l σ H Q he hr ht)⟩
theorem de_and {rest : List Expr} (ha : DE X a ta) (hb : DE X (.BoolOp .And (b :: rest) pos) tb) : DE X (.BoolOp .And (a :: b :: rest) pos) (dAnd ta tb) := by
  refine ⟨?_⟩
  intro F Fr env l σ H Q he hr ht
  refine (pe_and peW peW).we ?_
  refine (ha F Fr env l σ H _ he hr ht).mono fun x H1 ⟨F1, d, l1, s1, r1, R1, q1⟩ => ?_
  cases r1 with
  | bl z =>
    refine ⟨z, rfl, ?_⟩
    cases z with
    | true => exact (hb F1 Fr env l1 σ H1 _ (he.mono s1) R1 q1).mono fun _ _ q => q.weak s1
    | false => exact ⟨F1, .bl false, l1, s1, .bl false, R1, q1⟩
  | _ => exact q1.elim
/-- by a known truth -/
structure ifB (b : Bool) (A B : Prop) : Prop where
  t : b = true → A
  f : b = false → B
theorem ifB_T {A B : Prop} (h : ifB true A B) : A := h.t rfl
theorem ifB_F {A B : Prop} (h : ifB false A B) : B := h.f rfl
theorem ifB_true {A B : Prop} (h : A) : ifB true A B := ⟨fun _ => h, (fun e => nomatch e)⟩
theorem ifB_false {A B : Prop} (h : B) : ifB false A B := ⟨(fun e => nomatch e), fun _ => h⟩
theorem ifB_dec {c A B : Prop} [Decidable c] (h1 : c → A) (h2 : ¬ c → B) : ifB (decide c) A B := ⟨fun e => h1 (of_decide_eq_true e), fun e => h2 (of_decide_eq_false e)⟩
theorem ifB_by {b : Bool} {A B : Prop} (h1 : b = true → A) (h2 : b = false → B) : ifB b A B := ⟨h1, h2⟩
def dIf (tt : DTT) (ta tb : DTE) : DTE := fun env l Q => tt env l fun c l1 => ifB c (ta env l1 Q) (tb env l1 Q)
theorem de_if {c : Expr} {tt : DTT} (hc : DT X c tt) (ha : DE X a ta) (hb : DE X b tb) : DE X (.IfExp c a b pos) (dIf tt ta tb) := by
  refine ⟨?_⟩
  intro F Fr env l σ H Q he hr ht
  refine (pe_ifExp ptW peW peW).we ?_
  refine (hc F Fr env l σ H _ he hr ht).mono fun x H1 ⟨F1, l1, s1, R1, q1⟩ => ?_
  cases x with
  | true => exact L2.iteT ((ha F1 Fr env l1 σ H1 _ (he.mono s1) R1 (ifB_T q1)).mono fun _ _ q => q.weak s1)
  | false => exact L2.iteF ((hb F1 Fr env l1 σ H1 _ (he.mono s1) R1 (ifB_F q1)).mono fun _ _ q => q.weak s1)

/-! tests -/
def dTV (t : DTE) : DTT := fun env l Q => t env l fun x l1 => match x with
  | .bl b => Q b l1
  | _ => False
theorem dt_val (h : DE X e te) (hs : ∀ whole, isTrue e X.env whole = (do let v ← whole; standAt e.pos; holding [v] (truthy v)) := by intro _; rfl) : DT X e (dTV te) := by
  refine ⟨?_⟩
  intro F Fr env l σ H Q he hr ht
  refine (pt_val peW hs).wt ?_
  refine (h F Fr env l σ H _ he hr ht).mono fun x H1 ⟨F1, d, l1, s1, r1, R1, q1⟩ => ?_
  cases r1 with
  | bl z => exact ⟨z, rfl, F1, l1, s1, R1, q1⟩
  | _ => exact q1.elim
theorem dt_cmp {op : CmpOp} {r : R2} {k : D → D → LH → DK → Prop} (ho : OpR X (compareOp op) r) (hk : KOp X r k) (ha : DE X a ta) (hb : DE X b tb) (hm : behindInMarks op b = false) : DT X (.Compare a [op] [b] pos) (dTV (dOp k ta tb)) := by
  refine ⟨?_⟩
  intro F Fr env l σ H Q he hr ht
  refine (pt_cmpR ho peW peW hm).wt ?_
  have h2 : WE X a σ H fun x H1 => WE X b σ H1 fun y H2 => r x y H2 (LK X.K F Fr fun x l1 => match x with | .bl b => Q b l1 | _ => False) := two hk ha hb he hr ht
  refine (ha F Fr env l σ H _ he hr ht).mono fun x H1 ⟨F1, d, l1, s1, r1, R1, q1⟩ => ?_
  refine (hb F1 Fr env l1 σ H1 _ (he.mono s1) R1 q1).mono fun y H2 ⟨F2, d2, l2, s2, r2, R2, q2⟩ => ?_
  refine hk F2 Fr l2 H2 _ d d2 x y _ R2 (r1.mono s2) r2 (fun v H q => ?_) q2
  obtain ⟨F3, d3, l3, s3, r3, R3, q3⟩ := q
  cases r3 with
  | bl z => exact ⟨z, rfl, F3, l3, s1.trans (s2.trans s3), R3, q3⟩
  | _ => exact q3.elim
theorem dt_chain {op op' : CmpOp} {r r' : R2} {k k' : D → D → LH → DK → Prop} {c : Expr} (ho : OpR X (compareOp op) r) (ho' : OpR X (compareOp op') r') (hk : KOp X r k) (hk' : KOp X r' k') (ha : DE X a ta) (hb : DE X b tb) (hc : DE X c tc) 
    (hm : lastMarks [op, op'] [b, c] = false := by rfl) : DT X (.Compare a [op, op'] [b, c] pos) (dTV (dChain k k' ta tb tc)) := by
  refine ⟨?_⟩
  intro F Fr env l σ H Q he hr ht
  refine (pt_chain ho ho' peW peW peW hm).wt ?_
  have lift : ∀ {F' : Hp} {v : V} {H : Hp}, Same F F' → LK X.K F' Fr (fun x l1 => match x with | .bl b => Q b l1 | _ => False) v H → ∃ k, v = .bl k ∧ LB X.K F Fr Q k H := by
    intro F' v H s q
    obtain ⟨F3, d3, l3, s3, r3, R3, q3⟩ := q
    cases r3 with
    | bl z => exact ⟨z, rfl, F3, l3, s.trans s3, R3, q3⟩
    | _ => exact q3.elim
  show WE X a σ H fun x H1 => WE X b σ H1 fun y H2 => r x y H2 fun z H3 => ∃ k, z = .bl k ∧ _
  refine (ha F Fr env l σ H _ he hr ht).mono fun x H1 ⟨F1, d, l1, s1, r1, R1, q1⟩ => ?_
  refine (hb F1 Fr env l1 σ H1 _ (he.mono s1) R1 q1).mono fun y H2 ⟨F2, d2, l2, s2, r2, R2, q2⟩ => ?_
  refine hk F2 Fr l2 H2 _ d d2 x y _ R2 (r1.mono s2) r2 (fun v H3 q => ?_) q2
  obtain ⟨F3, d3, l3, s3, r3, R3, q3⟩ := q
  cases r3 with
  | bl z =>
    refine ⟨z, rfl, ?_⟩
    cases z with
    | true =>
      refine (hc F3 Fr env l3 σ H3 _ (((he.mono s1).mono s2).mono s3) R3 q3).mono fun w H4 ⟨F4, d4, l4, s4, r4, R4, q4⟩ => ?_
      exact hk' F4 Fr l4 H4 _ d2 d4 y w _ R4 (r2.mono (s3.trans s4)) r4 (fun v H q => lift (s1.trans (s2.trans (s3.trans s4))) q) q4
    | false => exact ⟨false, rfl, F3, l3, s1.trans (s2.trans s3), R3, q3⟩
  | _ => exact q3.elim
theorem dw_dt {t : DTT} (h : DW X e t) : DT X e t := ⟨fun F Fr env l σ H Q he hr ht pins s I => h F Fr env l σ H Q he hr ht _ pins s I⟩
def tAnd (t u : DTT) : DTT := fun env l Q => t env l fun c l1 => ifB c (u env l1 Q) (Q false l1)
def tOr (t u : DTT) : DTT := fun env l Q => t env l fun c l1 => ifB c (Q true l1) (u env l1 Q)
def tNot (t : DTT) : DTT := fun env l Q => t env l fun c l1 => Q (!c) l1
variable {tt tu : DTT}
theorem dw_and1 (ha : DT X a tt) : DW X (.BoolOp .And [a] pos) tt := ⟨fun F Fr env l σ H Q he hr ht => (pw_and1 ptW).ww (ha F Fr env l σ H Q he hr ht)⟩
theorem dw_or1 (ha : DT X a tt) : DW X (.BoolOp .Or [a] pos) tt := ⟨fun F Fr env l σ H Q he hr ht => (pw_or1 ptW).ww (ha F Fr env l σ H Q he hr ht)⟩
theorem dw_and {rest : List Expr} (ha : DT X a tt) (hb : DW X (.BoolOp .And (b :: rest) pos) tu) : DW X (.BoolOp .And (a :: b :: rest) pos) (tAnd tt tu) := by
  refine ⟨?_⟩
  intro F Fr env l σ H Q he hr ht
  refine (pw_and ptW pwW).ww ?_
  refine (ha F Fr env l σ H _ he hr ht).mono fun x H1 ⟨F1, l1, s1, R1, q1⟩ => ?_
  cases x with
  | true => exact L2.iteT ((hb F1 Fr env l1 σ H1 _ (he.mono s1) R1 (ifB_T q1)).mono fun _ _ q => q.weak s1)
  | false => exact L2.iteF ⟨F1, l1, s1, R1, ifB_F q1⟩
theorem dw_or {rest : List Expr} (ha : DT X a tt) (hb : DW X (.BoolOp .Or (b :: rest) pos) tu) : DW X (.BoolOp .Or (a :: b :: rest) pos) (tOr tt tu) := by
  refine ⟨?_⟩
  intro F Fr env l σ H Q he hr ht
  refine (pw_or ptW pwW).ww ?_
  refine (ha F Fr env l σ H _ he hr ht).mono fun x H1 ⟨F1, l1, s1, R1, q1⟩ => ?_
  cases x with
  | false => exact L2.iteF ((hb F1 Fr env l1 σ H1 _ (he.mono s1) R1 (ifB_F q1)).mono fun _ _ q => q.weak s1)
  | true => exact L2.iteT ⟨F1, l1, s1, R1, ifB_T q1⟩
theorem dt_not (ha : DT X a tt) : DT X (.UnaryOp .Not a pos) (tNot tt) := by
  refine ⟨?_⟩
  intro F Fr env l σ H Q he hr ht
  refine (pt_not ptW).wt ?_
  exact (ha F Fr env l σ H _ he hr ht).mono fun x H1 ⟨F1, l1, s1, R1, q1⟩ => ⟨F1, l1, s1, R1, q1⟩

/-! argument lists, displays -/
def aNil : DTA := fun _ l Q => Q [] l
def aCons (t : DTE) (u : DTA) : DTA := fun env l Q => t env l fun d l1 => u env l1 fun ds l2 => Q (d :: ds) l2
variable {es : List Expr} {u : DTA}
theorem da_nil : DA X [] aNil := ⟨fun F Fr env l σ H Q he hr ht => pa_nil.wa ⟨F, [], l, Same.refl F, .nil, hr, ht⟩⟩
theorem da_cons (ha : DE X e te) (hr : DA X es u) (hs : starEach (e :: es) X.env = (false, eval e X.env) :: starEach es X.env := by rfl) : DA X (e :: es) (aCons te u) := by
  refine ⟨?_⟩
  intro F Fr env l σ H Q he hR ht
  refine (pa_cons peW paW hs).wa ?_
  refine (ha F Fr env l σ H _ he hR ht).mono fun x H1 ⟨F1, d, l1, s1, r1, R1, q1⟩ => ?_
  refine (hr F1 Fr env l1 σ H1 _ (he.mono s1) R1 q1).mono fun xs H2 ⟨F2, ds, l2, s2, r2, R2, q2⟩ => ?_
  exact ⟨F2, d :: ds, l2, s1.trans s2, .cons (r1.mono s2) r2, R2, q2⟩
def dTup (t : DTA) : DTE := fun env l Q => t env l fun ds l1 => ds.length ≤ sizeLine ∧ Q (.tup ds) l1
def dLst (t : DTA) : DTE := fun env l Q => t env l fun ds l1 => ds.length ≤ sizeLine ∧ Q (.lst ds) l1
def dLstM (t : DTA) : DTE := fun env l Q => t env l fun ds l1 => ds.length ≤ sizeLine ∧ newL (.lst ds) l1 Q
theorem de_tup {x1} (h : DA X es u) : DE X (.Tuple es x1 pos) (dTup u) := by
  refine ⟨?_⟩
  intro F Fr env l σ H Q he hR ht
  refine (pe_tup paW).we ?_
  refine (h F Fr env l σ H _ he hR ht).mono fun x H1 ⟨F1, ds, l1, s1, r1, R1, q1, q2⟩ => ?_
  exact ⟨by rw [← r1.length]; exact q1, fun p np => (LK.tup np R1 r1 q2).weak s1⟩
theorem de_lst (h : DA X es u) : DE X (.List es pos) (dLst u) := by
  refine ⟨?_⟩
  intro F Fr env l σ H Q he hR ht
  refine (pe_lst paW).we ?_
  refine (h F Fr env l σ H _ he hR ht).mono fun x H1 ⟨F1, ds, l1, s1, r1, R1, q1, q2⟩ => ?_
  exact ⟨by rw [← r1.length]; exact q1, fun p np => (LK.lst np R1 r1 q2).weak s1⟩
theorem de_lstM (h : DA X es u) : DE X (.List es pos) (dLstM u) := by
  refine ⟨?_⟩
  intro F Fr env l σ H Q he hR ht
  refine (pe_lst paW).we ?_
  refine (h F Fr env l σ H _ he hR ht).mono fun x H1 ⟨F1, ds, l1, s1, r1, R1, q1, q2⟩ => ?_
  exact ⟨by rw [← r1.length]; exact q1, fun p np => (LK.mut np R1 r1 q2).weak s1⟩

/-! calls of built-ins, by values -/
def dCall (k : List D → LH → DK → Prop) (t : DTA) : DTE := fun env l Q => t env l fun ds l1 => k ds l1 Q
theorem callK {r : List V → Hp → VK → Prop} {k : List D → LH → DK → Prop} (hk : KCall X r k) (h : DA X es u) {F Fr : Hp} {env : DSt} {l : LH} {σ : St} {H : Hp} {Q : DK} (he : RepE X.K F env σ) (hR : Rep X.K F Fr l H) (ht : dCall k u env l Q) :
    WA X es σ H fun vs H1 => r vs H1 (LK X.K F Fr Q) :=
  (h F Fr env l σ H _ he hR ht).mono fun x H1 ⟨F1, ds, l1, s1, r1, R1, q1⟩ => hk F1 Fr l1 H1 Q ds x _ R1 r1 (fun _ _ q => q.weak s1) q1
theorem de_callB {id : String} {r : List V → Hp → VK → Prop} {k : List D → LH → DK → Prop} {x : Str} {p : Pos} (hc : CallR X (.builtin id) r) (hk : KCall X r k) (hg : Gl X x) (hm : X.mg x = none) (hv : bootBuiltins x = some (.builtin id)) (h : DA X (e :: es) u) (hn : x ≠ "__name__" := by decide) (hdb : (x == ("__debug__" : Str)) = false := by decide)
    (he : starEach (e :: es) X.env = (false, eval e X.env) :: starEach es X.env := by rfl) (hpl : (backTo pos (starEach es X.env)).any (·.1) = false := by rfl) : DE X (.Call (.Name x p) (e :: es) [] pos) (dCall k u) :=
  ⟨fun F Fr env l σ H Q hE hr ht => (pe_callB hc hg hm hv paW hn hdb he hpl).we (callK hk h hE hr ht)⟩
theorem de_callT {T : String} {r : List V → Hp → VK → Prop} {k : List D → LH → DK → Prop} {x : Str} {p : Pos} (hc : CallR X (.type T) r) (hk : KCall X r k) (hg : Gl X x) (hm : X.mg x = none) (hv : bootBuiltins x = some (.type T)) (h : DA X (e :: es) u) (hn : x ≠ "__name__" := by decide) (hdb : (x == ("__debug__" : Str)) = false := by decide)
    (he : starEach (e :: es) X.env = (false, eval e X.env) :: starEach es X.env := by rfl) (hpl : (backTo pos (starEach es X.env)).any (·.1) = false := by rfl) : DE X (.Call (.Name x p) (e :: es) [] pos) (dCall k u) :=
  ⟨fun F Fr env l σ H Q hE hr ht => (pe_callTy hc hg hm hv paW hn hdb he hpl).we (callK hk h hE hr ht)⟩
end
end DL

namespace DL
open PySem PySem.Spec PyProof.Rows L2

/-! ### the operators' readings -/
section
variable {X : Cx}
/-- + -/
def kAdd : D → D → LH → DK → Prop := fun x y l Q => match x, y with
  | .int i, .int j => Q (.int (i + j)) l
  | .tup xs, .tup ys => xs.length + ys.length ≤ sizeLine ∧ Q (.tup (xs ++ ys)) l
  | .lst xs, .lst ys => xs.length + ys.length ≤ sizeLine ∧ Q (.lst (xs ++ ys)) l
  | .str i, .str j => i.length + j.length ≤ sizeLine ∧ Q (.str (i ++ j)) l
  | _, _ => False
def rAdd4 (K : PySem.W.Frag) : R2 := fun x y H Q => rI0 (fun i j => .int (i + j)) x y H Q ∨ (rCatA K x y H Q ∨ (rCat x y H Q ∨ ∃ i j, x = .str i ∧ y = .str j ∧ i.length + j.length ≤ sizeLine ∧ Q (.str (i ++ j)) H))
theorem op_add4 : OpR X (binaryOp .Add) (rAdd4 X.K) := op_add.or (op_catA.or (op_cat.or op_add_str))
theorem kAdd_ok : KOp X (rAdd4 X.K) kAdd := by
  intro F Fr l H Q d e v u Q' R rd re hq q
  cases rd with
  | int i =>
    cases re <;> try exact q.elim
    exact .inl ⟨_, _, rfl, rfl, hq _ _ (LK.mk (.int _) R q)⟩
  | str i =>
    cases re <;> try exact q.elim
    exact .inr (.inr (.inr ⟨_, _, rfl, rfl, q.1, hq _ _ (LK.mk (.str _) R q.2)⟩))
  | @tup p vs ds h1 r1 =>
    cases re <;> try exact q.elim
    rename_i p2 vs2 ds2 h2 r2
    refine .inr (.inl ⟨p, p2, vs, vs2, rfl, rfl, tq (R.fz _ _ h1), tq (R.fz _ _ h2), by rw [← r1.length, ← r2.length]; exact q.1, fun e => ?_, fun _ e => ?_, fun _ _ p np => ?_⟩)
    · subst e
      cases r1
      exact hq _ _ (LK.mk (.tup h2 r2) R q.2)
    · subst e
      cases r2
      have q2 := q.2
      rw [List.append_nil] at q2
      exact hq _ _ (LK.mk (.tup h1 r1) R q2)
    · exact hq _ _ (LK.tup np R (r1.append r2) q.2)
  | @lst p vs ds h1 r1 =>
    cases re <;> try exact q.elim
    rename_i p2 vs2 ds2 h2 r2
    exact .inr (.inr (.inl ⟨p, p2, vs, vs2, rfl, rfl, R.fz _ _ h1, R.fz _ _ h2, by rw [← r1.length, ← r2.length]; exact q.1, fun p np => hq _ _ (LK.lst np R (r1.append r2) q.2)⟩))
  | _ => exact q.elim

/-- whole numbers -/
theorem op_mulA : OpR X (binaryOp .Mult) (rI IntMulOk fun i j => .int (i * j)) := opI fun _ _ _ _ _ _ _ hc q => mul_int q hc
def dAdd : DTE → DTE → DTE := dOp kAdd
def kSub : D → D → LH → DK → Prop := fun x y l Q => match x, y with
  | .int i, .int j => Q (.int (i - j)) l
  | _, _ => False
theorem kSub_ok : KOp X (rI0 fun i j => .int (i - j)) kSub := by
  intro F Fr l H Q d e v u Q' R rd re hq q
  cases rd <;> try exact q.elim
  cases re <;> try exact q.elim
  exact ⟨_, _, rfl, rfl, hq _ _ (LK.mk (by constructor) R q)⟩
def kMod : D → D → LH → DK → Prop := fun x y l Q => match x, y with
  | .int i, .int j => 0 < j ∧ Q (.int (i % j)) l
  | _, _ => False
theorem kMod_ok : KOp X (rI (fun _ j => 0 < j) fun i j => .int (i % j)) kMod := by
  intro F Fr l H Q d e v u Q' R rd re hq q
  cases rd <;> try exact q.elim
  cases re <;> try exact q.elim
  exact ⟨_, _, rfl, rfl, q.1, hq _ _ (LK.mk (by constructor) R q.2)⟩
def kDiv : D → D → LH → DK → Prop := fun x y l Q => match x, y with
  | .int i, .int j => (0 < j ∧ j.natAbs.log2 < 9000) ∧ Q (.int (i / j)) l
  | _, _ => False
theorem kDiv_ok : KOp X (rI CDivW fun i j => .int (i / j)) kDiv := by
  intro F Fr l H Q d e v u Q' R rd re hq q
  cases rd <;> try exact q.elim
  cases re <;> try exact q.elim
  exact ⟨_, _, rfl, rfl, q.1, hq _ _ (LK.mk (by constructor) R q.2)⟩
def kPow : D → D → LH → DK → Prop := fun x y l Q => match x, y with
  | .int i, .int j => (0 ≤ j ∧ j ≤ 1000000 ∧ i.natAbs < 2 ^ 64) ∧ Q (.int (i ^ j.toNat)) l
  | _, _ => False
theorem kPow_ok : KOp X (rI CPow fun i j => .int (i ^ j.toNat)) kPow := by
  intro F Fr l H Q d e v u Q' R rd re hq q
  cases rd <;> try exact q.elim
  cases re <;> try exact q.elim
  exact ⟨_, _, rfl, rfl, q.1, hq _ _ (LK.mk (by constructor) R q.2)⟩
def kLe : D → D → LH → DK → Prop := fun x y l Q => match x, y with
  | .int i, .int j => Q (.bl (decide (i ≤ j))) l
  | _, _ => False
theorem kLe_ok : KOp X (rI0 fun i j => .bl (decide (i ≤ j))) kLe := by
  intro F Fr l H Q d e v u Q' R rd re hq q
  cases rd <;> try exact q.elim
  cases re <;> try exact q.elim
  exact ⟨_, _, rfl, rfl, hq _ _ (LK.mk (by constructor) R q)⟩
def kGt : D → D → LH → DK → Prop := fun x y l Q => match x, y with
  | .int i, .int j => Q (.bl (decide (j < i))) l
  | _, _ => False
theorem kGt_ok : KOp X (rI0 fun i j => .bl (decide (j < i))) kGt := by
  intro F Fr l H Q d e v u Q' R rd re hq q
  cases rd <;> try exact q.elim
  cases re <;> try exact q.elim
  exact ⟨_, _, rfl, rfl, hq _ _ (LK.mk (by constructor) R q)⟩
def kGe : D → D → LH → DK → Prop := fun x y l Q => match x, y with
  | .int i, .int j => Q (.bl (decide (j ≤ i))) l
  | _, _ => False
theorem kGe_ok : KOp X (rI0 fun i j => .bl (decide (j ≤ i))) kGe := by
  intro F Fr l H Q d e v u Q' R rd re hq q
  cases rd <;> try exact q.elim
  cases re <;> try exact q.elim
  exact ⟨_, _, rfl, rfl, hq _ _ (LK.mk (by constructor) R q)⟩
def dSub : DTE → DTE → DTE := dOp kSub
def dMod : DTE → DTE → DTE := dOp kMod
def dDiv : DTE → DTE → DTE := dOp kDiv
def dPow : DTE → DTE → DTE := dOp kPow
def dGt : DTE → DTE → DTE := dOp kGt
def dGe : DTE → DTE → DTE := dOp kGe
variable {a b e : Expr} {ta tb tc te : DTE} {pos : Pos}
theorem de_add (ha : DE X a ta) (hb : DE X b tb) : DE X (.BinOp a .Add b pos) (dAdd ta tb) := de_op op_add4 kAdd_ok ha hb
theorem de_sub (ha : DE X a ta) (hb : DE X b tb) : DE X (.BinOp a .Sub b pos) (dSub ta tb) := de_op op_sub kSub_ok ha hb
theorem de_mod (ha : DE X a ta) (hb : DE X b tb) : DE X (.BinOp a .Mod b pos) (dMod ta tb) := de_op op_mod kMod_ok ha hb
theorem de_div (ha : DE X a ta) (hb : DE X b tb) : DE X (.BinOp a .FloorDiv b pos) (dDiv ta tb) := de_op op_fdivW kDiv_ok ha hb
theorem de_pow (ha : DE X a ta) (hb : DE X b tb) : DE X (.BinOp a .Pow b pos) (dPow ta tb) := de_op op_pow kPow_ok ha hb
theorem de_ge (ha : DE X a ta) (hb : DE X b tb) : DE X (.Compare a [.GtE] [b] pos) (dGe ta tb) := de_cmp op_ge kGe_ok ha hb (nomark _)
theorem dt_gt (ha : DE X a ta) (hb : DE X b tb) : DT X (.Compare a [.Gt] [b] pos) (dTV (dGt ta tb)) := dt_cmp op_gt kGt_ok ha hb (nomark _)
theorem un_negK : KUn X (rU fun i => .int (-i)) (fun x l Q => match x with | .int i => Q (.int (-i)) l | _ => False) := by
  intro F Fr l H Q d v Q' R rd hq q
  cases rd <;> try exact q.elim
  exact ⟨_, rfl, hq _ _ (LK.mk (.int _) R q)⟩
def dNeg : DTE → DTE := dUn fun x l Q => match x with | .int i => Q (.int (-i)) l | _ => False
theorem de_neg (ha : DE X a ta) : DE X (.UnaryOp .USub a pos) (dNeg ta) := de_un un_neg un_negK ha

def kLt : D → D → LH → DK → Prop := fun x y l Q => match x, y with
  | .int i, .int j => Q (.bl (decide (i < j))) l
  | .tup xs, .tup ys => ∃ ns ms, xs = ns.map D.int ∧ ys = ms.map D.int ∧ Q (.bl (HT.lexLt ns ms)) l
  | _, _ => False
theorem op_lt2 (hu : X.A.units < cLine) : OpR X (compareOp .Lt) (fun x y H Q => rI0 (fun i j => .bl (decide (i < j))) x y H Q ∨ rLtT X.K x y H Q) := op_lt.or (op_ltT hu)
theorem kLt_ok : KOp X (fun x y H Q => rI0 (fun i j => .bl (decide (i < j))) x y H Q ∨ rLtT X.K x y H Q) kLt := by
  intro F Fr l H Q d e v u Q' R rd re hq q
  cases rd with
  | int i =>
    cases re <;> try exact q.elim
    exact .inl ⟨_, _, rfl, rfl, hq _ _ (LK.mk (.bl _) R q)⟩
  | @tup p vs ds h1 r1 =>
    cases re <;> try exact q.elim
    rename_i p2 vs2 ds2 h2 r2
    obtain ⟨ns, ms, rfl, rfl, q⟩ := q
    have e1 := r1.ints
    have e2 := r2.ints
    subst e1 e2
    exact .inr ⟨p, p2, ns, ms, rfl, rfl, tq (R.fz _ _ h1), tq (R.fz _ _ h2), hq _ _ (LK.mk (.bl _) R q)⟩
  | _ => exact q.elim
def dLt : DTE → DTE → DTE := dOp kLt
theorem dt_lt (hu : X.A.units < cLine) (ha : DE X a ta) (hb : DE X b tb) : DT X (.Compare a [.Lt] [b] pos) (dTV (dLt ta tb)) := dt_cmp (op_lt2 hu) kLt_ok ha hb (nomark _)

/-- an object's content -/
def getO (l : LH) (a : Addr) (k : DO → Prop) : Prop := ∃ o, l a = some o ∧ k o
/-- == -/
def okD (d : D) : Prop := SeqAt.shaped (toPy d) = true
def eqD (d e : D) : Bool := PyData.eqv (toPy d) (toPy e)
/-- a list that may be written, as it stands -/
def resL (d : D) (l : LH) (k : D → Prop) : Prop := match d with
  | .ref a => getO l a fun o => match o with | .lst ds => k (.lst ds) | _ => False
  | d => k d
theorem resL_ok {K : PySem.W.Frag} {F Fr H : Hp} {l : LH} {d : D} {v : V} {k : D → Prop} (R : Rep K F Fr l H) (r : RelD K F d v) (q : resL d l k) : ∃ d', k d' ∧ ((toPy d').canLay0 = true → Dp K H v (toPy d')) := by
  cases r with
  | ref a =>
    obtain ⟨o, ho, q⟩ := q
    cases o with
    | lst ds =>
      obtain ⟨vs, r1, h1⟩ := (R.lv _ _ ho).2
      refine ⟨_, q, fun c => ?_⟩
      rw [toPy, PyData.canLay0] at c
      exact .lst (.inl (.inl h1)) (r1.dp R.fz c)
    | _ => exact q.elim
  | non => exact ⟨_, q, RelD.dp R.fz .non⟩
  | bl b => exact ⟨_, q, RelD.dp R.fz (.bl b)⟩
  | int b => exact ⟨_, q, RelD.dp R.fz (.int b)⟩
  | str b => exact ⟨_, q, RelD.dp R.fz (.str b)⟩
  | tup a b => exact ⟨_, q, RelD.dp R.fz (.tup a b)⟩
  | scr a => exact ⟨_, q, RelD.dp R.fz (.scr a)⟩
  | lst a b => exact ⟨_, q, RelD.dp R.fz (.lst a b)⟩
  | dT a b c => exact ⟨_, q, RelD.dp R.fz (.dT a b c)⟩
  | dK a b c => exact ⟨_, q, RelD.dp R.fz (.dK a b c)⟩
  | exc a b => exact ⟨_, q, RelD.dp R.fz (.exc a b)⟩
  | exc1 a b c d => exact ⟨_, q, RelD.dp R.fz (.exc1 a b c d)⟩
  | kt a b c d => exact ⟨_, q, RelD.dp R.fz (.kt a b c d)⟩
def kEq : D → D → LH → DK → Prop := fun x y l Q => resL x l fun x => resL y l fun y => okD x ∧ okD y ∧ Q (.bl (eqD x y)) l
def kNe : D → D → LH → DK → Prop := fun x y l Q => resL x l fun x => resL y l fun y => okD x ∧ okD y ∧ Q (.bl (!eqD x y)) l
theorem kEq_ok : KOp X (rEqD X.K) kEq := by
  intro F Fr l H Q d e v u Q' R rd re hq q
  obtain ⟨d', q, h1⟩ := resL_ok R rd q
  obtain ⟨e', q, h2⟩ := resL_ok R re q
  obtain ⟨c1, c2, q⟩ := q
  exact ⟨_, _, h1 (SeqAt.canLay_of_shaped c1), h2 (SeqAt.canLay_of_shaped c2), c1, c2, hq _ _ (LK.mk (.bl _) R q)⟩
theorem kNe_ok : KOp X (rNeD X.K) kNe := by
  intro F Fr l H Q d e v u Q' R rd re hq q
  obtain ⟨d', q, h1⟩ := resL_ok R rd q
  obtain ⟨e', q, h2⟩ := resL_ok R re q
  obtain ⟨c1, c2, q⟩ := q
  exact ⟨_, _, h1 (SeqAt.canLay_of_shaped c1), h2 (SeqAt.canLay_of_shaped c2), c1, c2, hq _ _ (LK.mk (.bl _) R q)⟩
def dEq : DTE → DTE → DTE := dOp kEq
def dNe : DTE → DTE → DTE := dOp kNe
theorem de_eq (hu : X.A.units + 64 < cLine) (ha : DE X a ta) (hb : DE X b tb) : DE X (.Compare a [.Eq] [b] pos) (dEq ta tb) := de_cmp (op_eqD hu) kEq_ok ha hb (nomark _)
theorem dt_eq (hu : X.A.units + 64 < cLine) (ha : DE X a ta) (hb : DE X b tb) : DT X (.Compare a [.Eq] [b] pos) (dTV (dEq ta tb)) := dt_cmp (op_eqD hu) kEq_ok ha hb (nomark _)
theorem de_ne (hu : X.A.units + 64 < cLine) (ha : DE X a ta) (hb : DE X b tb) : DE X (.Compare a [.NotEq] [b] pos) (dNe ta tb) := de_cmp (op_neD hu) kNe_ok ha hb (nomark _)
theorem dt_ne (hu : X.A.units + 64 < cLine) (ha : DE X a ta) (hb : DE X b tb) : DT X (.Compare a [.NotEq] [b] pos) (dTV (dNe ta tb)) := dt_cmp (op_neD hu) kNe_ok ha hb (nomark _)
/-- is None -/
def kIsN : D → D → LH → DK → Prop := fun x y l Q => match y with | .non => Q (.bl (match x with | .non => true | _ => false)) l | _ => False
def kNotN : D → D → LH → DK → Prop := fun x y l Q => match y with | .non => Q (.bl (match x with | .non => false | _ => true)) l | _ => False
theorem kIsN_ok : KOp X (fun x y H Q => y = .non ∧ Q (.bl (decide (x = .non))) H) kIsN := by
  intro F Fr l H Q d e v u Q' R rd re hq q
  cases re <;> try exact q.elim
  refine ⟨rfl, ?_⟩
  cases rd <;> exact hq _ _ (LK.mk (.bl _) R q)
theorem kNotN_ok : KOp X (fun x y H Q => y = .non ∧ Q (.bl (!decide (x = .non))) H) kNotN := by
  intro F Fr l H Q d e v u Q' R rd re hq q
  cases re <;> try exact q.elim
  refine ⟨rfl, ?_⟩
  cases rd <;> exact hq _ _ (LK.mk (.bl _) R q)
def dIsN : DTE → DTE → DTE := dOp kIsN
def dNotN : DTE → DTE → DTE := dOp kNotN
theorem dt_isN (ha : DE X a ta) (hb : DE X b tb) : DT X (.Compare a [.Is] [b] pos) (dTV (dIsN ta tb)) := dt_cmp op_isN kIsN_ok ha hb (nomark _)
theorem dt_notN (ha : DE X a ta) (hb : DE X b tb) : DT X (.Compare a [.IsNot] [b] pos) (dTV (dNotN ta tb)) := dt_cmp op_notN kNotN_ok ha hb (nomark _)

/-! ### subscripts -/
theorem atI_rel {K : PySem.W.Frag} {F : Hp} {ds : List D} {vs : List V} {i : Int} {d : D} (r : RelDs K F ds vs) (h : atI ds i = some d) : ∃ v, atI vs i = some v ∧ RelD K F d v := by
  unfold atI at h ⊢
  rw [← r.length]
  cases q : ixN ds.length i with
  | none => rw [q] at h; cases h
  | some j =>
    rw [q] at h
    exact r.get h
def kIx : D → D → LH → DK → Prop := fun x y l Q => match x, y with
  | .tup ds, .int i => ∃ d, atI ds i = some d ∧ Q d l
  | .lst ds, .int i => ∃ d, atI ds i = some d ∧ Q d l
  | .ref a, .int i => getO l a fun o => match o with | .lst ds => ∃ d, atI ds i = some d ∧ Q d l | _ => False
  | .scr ns, .int i => ∃ d, atI (ns.map D.int) i = some d ∧ Q d l
  | .str z, .int i => z.length ≤ sizeLine ∧ ∃ c, atI z.cps.toList i = some c ∧ Q (.str ⟨#[c]⟩) l
  | _, _ => False
theorem kIx_ok : KOp X (rIx X.K) kIx := by
  intro F Fr l H Q d e v u Q' R rd re hq q
  cases rd with
  | @tup p vs ds h1 r1 =>
    cases re <;> try exact q.elim
    obtain ⟨d, hd, q⟩ := q
    obtain ⟨v, hv, rv⟩ := atI_rel r1 hd
    exact .inr (.inl ⟨p, vs, _, v, rfl, rfl, tq (R.fz _ _ h1), hv, hq _ _ (LK.mk rv R q)⟩)
  | @lst p vs ds h1 r1 =>
    cases re <;> try exact q.elim
    obtain ⟨d, hd, q⟩ := q
    obtain ⟨v, hv, rv⟩ := atI_rel r1 hd
    exact .inl ⟨p, vs, _, v, rfl, rfl, .inl (.inl (R.fz _ _ h1)), hv, hq _ _ (LK.mk rv R q)⟩
  | @scr p ns h1 =>
    cases re <;> try exact q.elim
    obtain ⟨d, hd, q⟩ := q
    obtain ⟨v, hv, rv⟩ := atI_rel (relDs_ints (K := X.K) (F := F) ns) hd
    exact .inl ⟨p, _, _, v, rfl, rfl, sqL_mono R.fz h1, hv, hq _ _ (LK.mk rv R q)⟩
  | ref a =>
    cases re <;> try exact q.elim
    obtain ⟨o, ho, q⟩ := q
    cases o with
    | lst ds =>
      obtain ⟨d, hd, q⟩ := q
      obtain ⟨vs, r1, h1⟩ := (R.lv _ _ ho).2
      obtain ⟨v, hv, rv⟩ := atI_rel r1 hd
      exact .inl ⟨a, vs, _, v, rfl, rfl, .inl (.inl h1), hv, hq _ _ (LK.mk rv R q)⟩
    | _ => exact q.elim
  | str z =>
    cases re <;> try exact q.elim
    obtain ⟨hz, c, hc, q⟩ := q
    exact .inr (.inr ⟨_, _, c, rfl, rfl, hz, hc, hq _ _ (LK.mk (.str _) R q)⟩)
  | _ => exact q.elim
def dIx : DTE → DTE → DTE := dOp kIx
theorem de_ix (ha : DE X a ta) (hb : DE X b tb) (hs : PlainIx b := by exact fun _ _ => rfl) : DE X (.Subscript a b pos) (dIx ta tb) :=
  ⟨fun F Fr env l σ H Q he hr ht => (pe_ix ix_seq peW peW hs).we (two kIx_ok ha hb he hr ht)⟩
/-- slices -/
def cutD (ds : List D) (lo hi : Option Int) : List D := (ds.drop (HT.sIx ds.length 0 lo)).take (HT.sIx ds.length ds.length hi - HT.sIx ds.length 0 lo)
theorem cut_rel {K : PySem.W.Frag} {F : Hp} {ds : List D} {vs : List V} (r : RelDs K F ds vs) (lo hi : Option Int) : RelDs K F (cutD ds lo hi) (cutV vs lo hi) := by
  unfold cutD cutV
  rw [← r.length]
  exact (r.drop _).take _
theorem cut_whole (ds : List D) (lo hi : Option Int) (h : HT.sIx ds.length 0 lo = 0 ∧ HT.sIx ds.length ds.length hi = ds.length) : cutD ds lo hi = ds := by
  unfold cutD
  rw [h.1, h.2, List.drop_zero, Nat.sub_zero, List.take_length]
abbrev DTO := DSt → LH → (Option Int → LH → Prop) → Prop
def LO (K : PySem.W.Frag) (F Fr : Hp) (Q : Option Int → LH → Prop) : Option Int → Hp → Prop := fun v H => ∃ F' l, Same F F' ∧ Rep K F' Fr l H ∧ Q v l
def WO (X : Cx) (e : Option Expr) : TO := fun σ H Q => ∀ pins s, Inv X pins σ H s → wpAny (model X.prog X.w) X.A (evalPart e X.env) (fun u s' => ∃ o H', Inv X pins σ H' s' ∧ IsPart u o ∧ Q o H') X.xe s
theorem poW {e : Option Expr} : PO X e (WO X e) := ⟨fun pins s _ _ _ I h => h pins s I⟩
theorem WO.mono {e : Option Expr} {σ : St} {H : Hp} {Q Q' : Option Int → Hp → Prop} (w : WO X e σ H Q) (h : ∀ v H, Q v H → Q' v H) : WO X e σ H Q' := fun pins s I => thn (w pins s I) fun _ _ ⟨o, H, a, b, c⟩ => ⟨o, H, a, b, h _ _ c⟩
structure DP (X : Cx) (e : Option Expr) (t : DTO) : Prop where
  run : ∀ F Fr env l σ H Q, RepE X.K F env σ → Rep X.K F Fr l H → t env l Q → WO X e σ H (LO X.K F Fr Q)
instance {X : Cx} {e : Option Expr} {t : DTO} : CoeFun (DP X e t) (fun _ => ∀ F Fr env l σ H Q, RepE X.K F env σ → Rep X.K F Fr l H → t env l Q → WO X e σ H (LO X.K F Fr Q)) := ⟨DP.run⟩
def oNo : DTO := fun _ l Q => Q none l
def oSm (t : DTE) : DTO := fun env l Q => t env l fun d l1 => match d with | .int i => Q (some i) l1 | _ => False
theorem dp_no : DP X none oNo := ⟨fun F Fr env l σ H Q he hr ht pins s I => po_none.run pins s σ H _ I ⟨F, l, Same.refl F, hr, ht⟩⟩
theorem dp_sm (h : DE X e te) : DP X (some e) (oSm te) := by
  refine ⟨?_⟩
  intro F Fr env l σ H Q he hr ht pins s I
  refine (po_some (peW (X := X) (e := e))).run pins s σ H _ I ?_
  refine (h F Fr env l σ H _ he hr ht).mono fun x H1 ⟨F1, d, l1, s1, r1, R1, q1⟩ => ?_
  cases r1 with
  | int i => exact ⟨i, rfl, F1, l1, s1, R1, q1⟩
  | _ => exact q1.elim
def kSl (x : D) (lo hi : Option Int) (l : LH) (Q : DK) : Prop := match x with
  | .tup ds => Q (.tup (cutD ds lo hi)) l
  | .lst ds => Q (.lst (cutD ds lo hi)) l
  | .scr ns => Q (.lst (cutD (ns.map D.int) lo hi)) l
  | .ref a => getO l a fun o => match o with | .lst ds => Q (.lst (cutD ds lo hi)) l | _ => False
  | _ => False
def dSl (te : DTE) (tl tu : DTO) : DTE := fun env l Q => te env l fun x l1 => tl env l1 fun lo l2 => tu env l2 fun hi l3 => kSl x lo hi l3 Q
variable {lo hi : Option Expr} {tl tu : DTO} {p2 : Pos}
theorem de_sl (he : DE X e te) (hl : DP X lo tl) (hu : DP X hi tu) : DE X (.Subscript e (.Slice lo hi none p2) pos) (dSl te tl tu) := by
  refine ⟨?_⟩
  intro F Fr env l σ H Q hE hR ht
  refine (pe_slice (sl_list.or sl_tupA) peW poW poW).we ?_
  refine (he F Fr env l σ H _ hE hR ht).mono fun x H1 ⟨F1, d, l1, s1, r1, R1, q1⟩ => ?_
  refine (hl F1 Fr env l1 σ H1 _ (hE.mono s1) R1 q1).mono fun i H2 ⟨F2, l2, s2, R2, q2⟩ => ?_
  refine (hu F2 Fr env l2 σ H2 _ ((hE.mono s1).mono s2) R2 q2).mono fun j H3 ⟨F3, l3, s3, R3, q3⟩ => ?_
  have r3 := r1.mono (s2.trans s3)
  have S := s1.trans (s2.trans s3)
  cases r3 with
  | @tup p vs ds h1 rr =>
    refine .inr ⟨p, vs, rfl, tq (R3.fz _ _ h1), fun c => ?_, fun c p np => (LK.tup np R3 (cut_rel rr i j) q3).weak S⟩
    rw [← rr.length] at c
    have q4 : Q (.tup (cutD ds i j)) l3 := q3
    rw [cut_whole ds i j c] at q4
    exact (LK.mk (.tup h1 rr) R3 q4).weak S
  | @lst p vs ds h1 rr => exact .inl ⟨p, vs, rfl, .inl (.inl (R3.fz _ _ h1)), fun p np => (LK.lst np R3 (cut_rel rr i j) q3).weak S⟩
  | @scr p ns h1 => exact .inl ⟨p, _, rfl, sqL_mono R3.fz h1, fun p np => (LK.lst np R3 (cut_rel (relDs_ints ns) i j) q3).weak S⟩
  | ref a =>
    obtain ⟨o, ho, q3⟩ := q3
    cases o with
    | lst ds =>
      obtain ⟨vs, r1, h1⟩ := (R3.lv _ _ ho).2
      exact .inl ⟨a, vs, rfl, .inl (.inl h1), fun p np => (LK.lst np R3 (cut_rel r1 i j) q3).weak S⟩
    | _ => exact q3.elim
  | _ => exact q3.elim
end
end DL

namespace DL
open PySem PySem.Spec PyProof.Rows L2
/-! tuple * int, whatever the int -/
theorem tuple_mulSame (l : Addr) (items : Array Value) (n : Nat) (dd : Option Addr) (sl : Array (Option Value)) (x : Int) (u : Tok) (c0 : (decide (x < -(2 ^ 63)) || decide (x ≥ 2 ^ 63)) = false) (c1 : (items.isEmpty || x == 1) = true) :
    Meets (Builtin.«tuple.__mul__» ⟨[.ref l, .int x u], []⟩) (fun _ R s => s.heap.get? l = some { cls := .type "tuple", dict := dd, data := .seq items n, slots := sl } ∧ R (.ok (.ret (Value.ref l))) s) :=
  .of_wp fun prog w A R s h => by
    obtain ⟨hp, g, d, tk, os⟩ := s
    obtain ⟨hl, h⟩ := h
    have f1 := AutoSeq1.idx_int
    wp_walk using wpAny_loadPart' hl
    repeat (first
      | (refine wpAny_ite_false (decide_eq_false (by rw [c0]; exact Bool.false_ne_true)) ?_; wp_walk using wpAny_loadPart' hl)
      | (refine wpAny_ite_true (decide_eq_true (by rw [c1])) ?_; wp_walk using wpAny_loadPart' hl))
    exact ⟨_, rfl, h⟩
theorem tuple_mulNone (l : Addr) (items : Array Value) (n : Nat) (dd : Option Addr) (sl : Array (Option Value)) (x : Int) (u : Tok) (c0 : (decide (x < -(2 ^ 63)) || decide (x ≥ 2 ^ 63)) = false) (c1 : (items.isEmpty || x == 1) = false) (c2 : (decide (x ≤ 0) || items.isEmpty) = true) :
    Meets (Builtin.«tuple.__mul__» ⟨[.ref l, .int x u], []⟩) (fun _ R s => s.heap.get? l = some { cls := .type "tuple", dict := dd, data := .seq items n, slots := sl } ∧
      R (.ok (.ret (Value.ref s.heap.objs.size))) { s with heap := s.heap.push { cls := Value.type "tuple", data := Data.seq #[] }, toks := s.toks }) :=
  .of_wp fun prog w A R s h => by
    obtain ⟨hp, g, d, tk, os⟩ := s
    obtain ⟨hl, h⟩ := h
    have f1 := AutoSeq1.idx_int
    wp_walk using wpAny_loadPart' hl
    repeat (first
      | (refine wpAny_ite_false (decide_eq_false (by rw [c0]; exact Bool.false_ne_true)) ?_; wp_walk using wpAny_loadPart' hl)
      | (refine wpAny_ite_false (decide_eq_false (by rw [c1]; exact Bool.false_ne_true)) ?_; wp_walk using wpAny_loadPart' hl)
      | (refine wpAny_ite_true (decide_eq_true (by rw [c2])) ?_; wp_walk using wpAny_loadPart' hl))
    exact ⟨_, rfl, h⟩
def rMulT (K : PySem.W.Frag) : R2 := fun x y H Q => ∃ l k xs, x = .ref l ∧ y = .int k ∧ SqT K H l xs ∧ -(2 ^ 63) ≤ k ∧ k < 2 ^ 63 ∧ xs.length * k.toNat ≤ sizeLine ∧
  ((xs = [] ∨ k = 1) → Q (.ref l) H) ∧ (¬ (xs = [] ∨ k = 1) → ∀ p, H p = none → Q (.ref p) (upd H p (.tup (List.replicate k.toNat xs).flatten)))
section
variable {X : Cx}
theorem op_mulT : OpR X (binaryOp .Mult) (rMulT X.K) := by
  intro pins s σ H x y v u Q I rx ry h
  obtain ⟨l, k, xs, rfl, rfl, hT, h1, h2, hz, q1, q2⟩ := h
  cases rx
  obtain ⟨t, rfl⟩ := ry
  obtain ⟨its, r, ⟨⟨cls, dd, data, sl⟩, ho, hc, n, hd⟩, hs⟩ := I.tuple hT
  simp only at hc hd
  subst hc hd
  have hle : its.length = xs.length := r.length.symm
  have hsz0 : its.toArray.size = xs.length := by rw [List.size_toArray, hle]
  have c0 : (decide (k < -(2 ^ 63)) || decide (k ≥ 2 ^ 63)) = false := by
    rw [decide_eq_false (by omega), decide_eq_false (by omega)] <;> rfl
  refine wpAny_binaryOp_repeat_ref (T := "tuple") (U := "int") (by decide) ⟨_, ho, rfl⟩ (fun s' => typeIs_int s' k t) noFill_tuple_mul F.fills_int_mul F.slot_int_rmul repeat_tuple F.slot_int_index.lookup
    (call_meets F.slot_int_rmul (typeIs_int s k t) F.entry_int_rmul (F.args_int_rmul_2 _ _) (int_rmul_tuple k t l its.toArray n dd sl)
      ⟨ho, rfl, ⟨_, ho, rfl⟩, ?_⟩)
  have hemp : its.toArray.isEmpty = decide (xs = []) := by
    cases r with
    | nil => rfl
    | cons _ _ => rfl
  by_cases hw : xs = [] ∨ k = 1
  · refine call_meets F.slot_tuple_mul ⟨_, ho, rfl⟩ F.entry_tuple_mul (F.args_tuple_mul_2 _ _) (tuple_mulSame l its.toArray n dd sl k t c0 ?_) ⟨ho, ?_⟩
    · rw [hemp]
      rcases hw with e | e
      · rw [decide_eq_true e]; rfl
      · rw [e, beq_self_eq_true, Bool.or_true]
    · exact ⟨.ref l, H, I, rfl, q1 hw⟩
  · have hne : xs ≠ [] := fun e => hw (.inl e)
    have hi : its.toArray.isEmpty = false := by rw [hemp]; exact decide_eq_false hne
    have c1 : (its.toArray.isEmpty || k == 1) = false := by
      rw [hi, Bool.false_or]
      exact beq_eq_false_iff_ne.mpr fun e => hw (.inr e)
    have new : ∀ (ws : Array Value), Vals (List.replicate k.toNat xs).flatten ws.toList → EP X pins σ Q (.ref s.heap.objs.size) { s with heap := s.heap.push { cls := Value.type "tuple", data := Data.seq ws }, toks := s.toks } := fun ws rv => by
      refine ⟨.ref s.heap.objs.size, _, I.laid (t' := s.toks) (o := .tup (List.replicate k.toNat xs).flatten) (fun b ob q => Heap.get?_push_of_some _ q) (Nat.le_refl _) ?_, rfl, q2 hw _ (I.hok.fresh (Nat.le_refl _))⟩
      exact ⟨by rw [PyProof.Rows.lm_len_rep_flat, Nat.mul_comm]; exact hz, ws.toList, rv, IsTup.new _ _⟩
    by_cases hk : k ≤ 0
    · refine call_meets F.slot_tuple_mul ⟨_, ho, rfl⟩ F.entry_tuple_mul (F.args_tuple_mul_2 _ _) (tuple_mulNone l its.toArray n dd sl k t c0 c1 (by rw [decide_eq_true hk, Bool.true_or])) ⟨ho, ?_⟩
      have e0 : k.toNat = 0 := by omega
      exact new #[] (by rw [e0]; exact .nil)
    · have hN : xs.length * k.toNat ≤ 16777216 := by rw [← sizeLine_eq]; exact hz
      have hm : ((its.toArray.size : Nat) : Int) * k ≤ 16777216 := by
        rw [hsz0]
        have e1 : ((k.toNat : Nat) : Int) = k := by omega
        have e2 : ((xs.length : Nat) : Int) * k = ((xs.length * k.toNat : Nat) : Int) := by rw [← e1]; simp
        rw [e2]
        generalize xs.length * k.toNat = z at hN ⊢
        omega
      have flen : (List.replicate k.toNat its).flatten.length ≤ sizeLine := by
        rw [PyProof.Rows.lm_len_rep_flat, hle, Nat.mul_comm]
        exact hz
      have c2 : (decide (k ≤ 0) || its.toArray.isEmpty) = false := by
        rw [hi, Bool.or_false]
        exact decide_eq_false (by omega)
      have c4 : Builtin.Tuple.tupleTooMany (((its.toArray.size : Nat) : Int) * k) = false := by
        unfold Builtin.Tuple.tupleTooMany
        rw [sizeLine_eq]
        exact decide_eq_false (by omega)
      refine call_meets F.slot_tuple_mul ⟨_, ho, rfl⟩ F.entry_tuple_mul (F.args_tuple_mul_2 _ _) (tuple_mulW l its.toArray n dd sl k t c0 c1 c2 (by omega) c4 (by rw [size_rep, List.size_toArray]; exact flen)) ⟨ho, ?_⟩
      rw [size_rep]
      exact new _ (r.rep k.toNat)
/-- * -/
def kMul : D → D → LH → DK → Prop := fun x y l Q => match x, y with
  | .int i, .int j => IntMulOk i j ∧ Q (.int (i * j)) l
  | .tup xs, .int k => (-(2 ^ 63) ≤ k ∧ k < 2 ^ 63 ∧ xs.length * k.toNat ≤ sizeLine) ∧ Q (.tup (List.replicate k.toNat xs).flatten) l
  | .lst xs, .int k => (-(2 ^ 63) ≤ k ∧ k < 2 ^ 63 ∧ xs.length * k.toNat ≤ sizeLine) ∧ Q (.lst (List.replicate k.toNat xs).flatten) l
  | _, _ => False
theorem RelDs.rep {K : PySem.W.Frag} {F : Hp} {xs : List D} {us : List V} (h : RelDs K F xs us) : ∀ k : Nat, RelDs K F (List.replicate k xs).flatten (List.replicate k us).flatten
  | 0 => .nil
  | k + 1 => by
    rw [List.replicate_succ, List.replicate_succ, List.flatten_cons, List.flatten_cons]
    exact h.append (RelDs.rep h k)
def rMul3 (K : PySem.W.Frag) : R2 := fun x y H Q => rI IntMulOk (fun i j => .int (i * j)) x y H Q ∨ (rMulT K x y H Q ∨ rRep x y H Q)
theorem op_mul3 : OpR X (binaryOp .Mult) (rMul3 X.K) := op_mulA.or (op_mulT.or op_rep)
theorem kMul_ok : KOp X (rMul3 X.K) kMul := by
  intro F Fr l H Q d e v u Q' R rd re hq q
  cases rd with
  | int i =>
    cases re <;> try exact q.elim
    exact .inl ⟨_, _, rfl, rfl, q.1, hq _ _ (LK.mk (.int _) R q.2)⟩
  | @tup p vs ds h1 rr =>
    cases re <;> try exact q.elim
    rename_i k
    obtain ⟨⟨a1, a2, a3⟩, q⟩ := q
    refine .inr (.inl ⟨p, k, vs, rfl, rfl, tq (R.fz _ _ h1), a1, a2, by rw [← rr.length]; exact a3, fun c => ?_, fun c p np => hq _ _ (LK.tup np R (rr.rep _) q)⟩)
    have e : (List.replicate k.toNat ds).flatten = ds := by
      rcases c with c | c
      · subst c
        cases rr
        simp
      · subst c
        show (List.replicate 1 ds).flatten = ds
        simp
    rw [e] at q
    exact hq _ _ (LK.mk (.tup h1 rr) R q)
  | @lst p vs ds h1 rr =>
    cases re <;> try exact q.elim
    obtain ⟨⟨a1, a2, a3⟩, q⟩ := q
    exact .inr (.inr ⟨p, _, vs, rfl, rfl, R.fz _ _ h1, a1, a2, by rw [← rr.length]; exact a3, fun p np => hq _ _ (LK.lst np R (rr.rep _) q)⟩)
  | _ => exact q.elim
variable {a b e : Expr} {ta tb tc te : DTE} {pos : Pos}
def dMul : DTE → DTE → DTE := dOp kMul
theorem de_mul (ha : DE X a ta) (hb : DE X b tb) : DE X (.BinOp a .Mult b pos) (dMul ta tb) := de_op op_mul3 kMul_ok ha hb
end
end DL

namespace DL
open PySem PySem.Spec PyProof.Rows L2

/-! ### built-ins -/
section
variable {X : Cx}
def kLen : List D → LH → DK → Prop := fun ds l Q => match ds with
  | [.tup xs] => Q (.int xs.length) l
  | [.lst xs] => Q (.int xs.length) l
  | [.scr xs] => Q (.int xs.length) l
  | [.kt xs] => Q (.int xs.length) l
  | [.str z] => z.length ≤ sizeLine ∧ Q (.int z.length) l
  | [.ref a] => getO l a fun o => match o with | .lst xs => Q (.int xs.length) l | _ => False
  | _ => False
theorem call_len2 : CallR X (.builtin "len") (fun xs H Q => (∃ p ys, xs = [.ref p] ∧ (SqL X.K H p ys ∨ SqT X.K H p ys) ∧ Q (.int ys.length) H) ∨ ∃ z, xs = [.str z] ∧ z.length ≤ sizeLine ∧ Q (.int z.length) H) := call_len_seq.or call_len_str
theorem kLen_ok : KCall X (fun xs H Q => (∃ p ys, xs = [.ref p] ∧ (SqL X.K H p ys ∨ SqT X.K H p ys) ∧ Q (.int ys.length) H) ∨ ∃ z, xs = [.str z] ∧ z.length ≤ sizeLine ∧ Q (.int z.length) H) kLen := by
  intro F Fr l H Q ds vs Q' R rd hq q
  cases rd with
  | nil => exact q.elim
  | cons r1 rr =>
    cases rr with
    | cons _ _ => cases r1 <;> exact q.elim
    | nil =>
      cases r1 with
      | @tup p vs ds h1 r1 => exact .inl ⟨p, vs, rfl, .inr (tq (R.fz _ _ h1)), hq _ _ (LK.mk (.int _) R (by rw [← r1.length]; exact q))⟩
      | @kt p od vs ds h1 _ _ r1 => exact .inl ⟨p, vs, rfl, .inr (.inl (.inr ⟨_, R.fz _ _ h1⟩)), hq _ _ (LK.mk (.int _) R (by rw [← r1.length]; exact q))⟩
      | @lst p vs ds h1 r1 => exact .inl ⟨p, vs, rfl, .inl (.inl (.inl (R.fz _ _ h1))), hq _ _ (LK.mk (.int _) R (by rw [← r1.length]; exact q))⟩
      | @scr p ns h1 => exact .inl ⟨p, _, rfl, .inl (sqL_mono R.fz h1), hq _ _ (LK.mk (.int _) R (by rw [List.length_map]; exact q))⟩
      | str z => exact .inr ⟨_, rfl, q.1, hq _ _ (LK.mk (.int _) R q.2)⟩
      | ref a =>
        obtain ⟨o, ho, q⟩ := q
        cases o with
        | lst ds =>
          obtain ⟨vs, r1, h1⟩ := (R.lv _ _ ho).2
          exact .inl ⟨a, vs, rfl, .inl (.inl (.inl h1)), hq _ _ (LK.mk (.int _) R (by rw [← r1.length]; exact q))⟩
        | _ => exact q.elim
      | _ => exact q.elim
def kAbs : List D → LH → DK → Prop := fun ds l Q => match ds with
  | [.int i] => Q (.int (if i < 0 then -i else i)) l
  | _ => False
theorem kAbs_ok : KCall X (fun xs H Q => ∃ i, xs = [.int i] ∧ Q (.int (if i < 0 then -i else i)) H) kAbs := by
  intro F Fr l H Q ds vs Q' R rd hq q
  cases rd with
  | nil => exact q.elim
  | cons r1 rr =>
    cases rr with
    | cons _ _ => cases r1 <;> exact q.elim
    | nil =>
      cases r1 <;> try exact q.elim
      exact ⟨_, rfl, hq _ _ (LK.mk (.int _) R q)⟩
/-- int(n), int(flag) -/
def kInt1 : List D → LH → DK → Prop := fun ds l Q => match ds with
  | [.int i] => Q (.int i) l
  | [.bl b] => Q (.int (if b then 1 else 0)) l
  | _ => False
theorem kInt1_ok : KCall X (fun xs H Q => (∃ i, xs = [.int i] ∧ Q (.int i) H) ∨ ∃ k, xs = [.bl k] ∧ Q (.int (if k then 1 else 0)) H) kInt1 := by
  intro F Fr l H Q ds vs Q' R rd hq q
  cases rd with
  | nil => exact q.elim
  | cons r1 rr =>
    cases rr with
    | cons _ _ => cases r1 <;> exact q.elim
    | nil =>
      cases r1 <;> try exact q.elim
      · exact .inr ⟨_, rfl, hq _ _ (LK.mk (.int _) R q)⟩
      · exact .inl ⟨_, rfl, hq _ _ (LK.mk (.int _) R q)⟩
def kMax : List D → LH → DK → Prop := fun ds l Q => match ds with
  | [.int i, .int j] => Q (.int (if j > i then j else i)) l
  | _ => False
theorem kMax_ok : KCall X (fun xs H Q => ∃ i j, xs = [.int i, .int j] ∧ Q (.int (if j > i then j else i)) H) kMax := by
  intro F Fr l H Q ds vs Q' R rd hq q
  cases rd with
  | nil => exact q.elim
  | cons r1 rr =>
    cases r1 <;> try (cases rr <;> exact q.elim)
    cases rr with
    | nil => exact q.elim
    | cons r2 rr =>
      cases rr with
      | cons _ _ => cases r2 <;> exact q.elim
      | nil =>
        cases r2 <;> try exact q.elim
        exact ⟨_, _, rfl, hq _ _ (LK.mk (.int _) R q)⟩
def kMin : List D → LH → DK → Prop := fun ds l Q => match ds with
  | [.int i, .int j] => Q (.int (if j < i then j else i)) l
  | _ => False
theorem kMin_ok : KCall X (fun xs H Q => ∃ i j, xs = [.int i, .int j] ∧ Q (.int (if j < i then j else i)) H) kMin := by
  intro F Fr l H Q ds vs Q' R rd hq q
  cases rd with
  | nil => exact q.elim
  | cons r1 rr =>
    cases r1 <;> try (cases rr <;> exact q.elim)
    cases rr with
    | nil => exact q.elim
    | cons r2 rr =>
      cases rr with
      | cons _ _ => cases r2 <;> exact q.elim
      | nil =>
        cases r2 <;> try exact q.elim
        exact ⟨_, _, rfl, hq _ _ (LK.mk (.int _) R q)⟩
/-- list(x), tuple(x) -/
def kList (new : List D → LH → DK → Prop) : List D → LH → DK → Prop := fun ds l Q => match ds with
  | [.tup xs] => new xs l Q
  | [.kt xs] => new xs l Q
  | [.lst xs] => new xs l Q
  | [.ref a] => getO l a fun o => match o with | .lst xs => new xs l Q | _ => False
  | _ => False
def nLst : List D → LH → DK → Prop := fun xs l Q => Q (.lst xs) l
def nMut : List D → LH → DK → Prop := fun xs l Q => newL (.lst xs) l Q
def kListF := kList nLst
def kListM := kList nMut
def kTuple : List D → LH → DK → Prop := fun ds l Q => match ds with
  | [.tup xs] => Q (.tup xs) l
  | [.kt xs] => Q (.kt xs) l
  | [.lst xs] => Q (.tup xs) l
  | [.ref a] => getO l a fun o => match o with | .lst xs => Q (.tup xs) l | _ => False
  | _ => False
theorem kList_ok {new : List D → LH → DK → Prop} (hn : ∀ {F Fr : Hp} {l : LH} {H : Hp} {Q : DK} {vs : List V} {ds : List D} {p : Addr}, H p = none → Rep X.K F Fr l H → RelDs X.K F ds vs → new ds l Q → LK X.K F Fr Q (.ref p) (upd H p (.lst vs))) :
    KCall X (fun xs H Q => ∃ p ys, xs = [.ref p] ∧ (SqL X.K H p ys ∨ SqT X.K H p ys) ∧ ∀ l, H l = none → Q (.ref l) (upd H l (.lst ys))) (kList new) := by
  intro F Fr l H Q ds vs Q' R rd hq q
  cases rd with
  | nil => exact q.elim
  | cons r1 rr =>
    cases rr with
    | cons _ _ => cases r1 <;> exact q.elim
    | nil =>
      cases r1 with
      | @tup p vs ds h1 r1 => exact ⟨p, vs, rfl, .inr (tq (R.fz _ _ h1)), fun p np => hq _ _ (hn np R r1 q)⟩
      | @kt p od vs ds h1 _ _ r1 => exact ⟨p, vs, rfl, .inr (.inl (.inr ⟨_, R.fz _ _ h1⟩)), fun p np => hq _ _ (hn np R r1 q)⟩
      | @lst p vs ds h1 r1 => exact ⟨p, vs, rfl, .inl (.inl (.inl (R.fz _ _ h1))), fun p np => hq _ _ (hn np R r1 q)⟩
      | ref a =>
        obtain ⟨o, ho, q⟩ := q
        cases o with
        | lst ds =>
          obtain ⟨vs, r1, h1⟩ := (R.lv _ _ ho).2
          exact ⟨a, vs, rfl, .inl (.inl (.inl h1)), fun p np => hq _ _ (hn np R r1 q)⟩
        | _ => exact q.elim
      | _ => exact q.elim
theorem kListF_ok : KCall X (fun xs H Q => ∃ p ys, xs = [.ref p] ∧ (SqL X.K H p ys ∨ SqT X.K H p ys) ∧ ∀ l, H l = none → Q (.ref l) (upd H l (.lst ys))) kListF := kList_ok fun np R r q => LK.lst np R r q
theorem kListM_ok : KCall X (fun xs H Q => ∃ p ys, xs = [.ref p] ∧ (SqL X.K H p ys ∨ SqT X.K H p ys) ∧ ∀ l, H l = none → Q (.ref l) (upd H l (.lst ys))) kListM := kList_ok fun np R r q => LK.mut np R r q
theorem kTuple_ok : KCall X (fun xs H Q => ∃ p ys, xs = [.ref p] ∧ ((SqL X.K H p ys ∧ ∀ l, H l = none → Q (.ref l) (upd H l (.tup ys))) ∨ (SqT X.K H p ys ∧ Q (.ref p) H))) kTuple := by
  intro F Fr l H Q ds vs Q' R rd hq q
  cases rd with
  | nil => exact q.elim
  | cons r1 rr =>
    cases rr with
    | cons _ _ => cases r1 <;> exact q.elim
    | nil =>
      cases r1 with
      | @tup p vs ds h1 r1 => exact ⟨p, vs, rfl, .inr ⟨tq (R.fz _ _ h1), hq _ _ (LK.mk (.tup h1 r1) R q)⟩⟩
      | @kt p od vs ds h1 hc hd r1 => exact ⟨p, vs, rfl, .inr ⟨.inl (.inr ⟨_, R.fz _ _ h1⟩), hq _ _ (LK.mk (.kt h1 hc hd r1) R q)⟩⟩
      | @lst p vs ds h1 r1 => exact ⟨p, vs, rfl, .inl ⟨.inl (.inl (R.fz _ _ h1)), fun p np => hq _ _ (LK.tup np R r1 q)⟩⟩
      | ref a =>
        obtain ⟨o, ho, q⟩ := q
        cases o with
        | lst ds =>
          obtain ⟨vs, r1, h1⟩ := (R.lv _ _ ho).2
          exact ⟨a, vs, rfl, .inl ⟨.inl (.inl h1), fun p np => hq _ _ (LK.tup np R r1 q)⟩⟩
        | _ => exact q.elim
      | _ => exact q.elim
def kAll : List D → LH → DK → Prop := fun ds l Q => match ds with
  | [.lst xs] => ∃ bs : List Bool, xs = bs.map D.bl ∧ Q (.bl (bs.all id)) l
  | _ => False
def kAny : List D → LH → DK → Prop := fun ds l Q => match ds with
  | [.lst xs] => ∃ bs : List Bool, xs = bs.map D.bl ∧ Q (.bl (bs.any id)) l
  | _ => False
theorem kAll_ok : KCall X (rAll X.K) kAll := by
  intro F Fr l H Q ds vs Q' R rd hq q
  cases rd with
  | nil => exact q.elim
  | cons r1 rr =>
    cases rr with
    | cons _ _ => cases r1 <;> exact q.elim
    | nil =>
      cases r1 <;> try exact q.elim
      rename_i h1 r1
      obtain ⟨bs, rfl, q⟩ := q
      have e := r1.bls
      subst e
      exact ⟨_, bs, rfl, .inl (.inl (R.fz _ _ h1)), hq _ _ (LK.mk (.bl _) R q)⟩
theorem kAny_ok : KCall X (rAny X.K) kAny := by
  intro F Fr l H Q ds vs Q' R rd hq q
  cases rd with
  | nil => exact q.elim
  | cons r1 rr =>
    cases rr with
    | cons _ _ => cases r1 <;> exact q.elim
    | nil =>
      cases r1 <;> try exact q.elim
      rename_i h1 r1
      obtain ⟨bs, rfl, q⟩ := q
      have e := r1.bls
      subst e
      exact ⟨_, bs, rfl, .inl (.inl (R.fz _ _ h1)), hq _ _ (LK.mk (.bl _) R q)⟩
/-! isinstance -/
inductive Ty | non | bl | int | str | tup | lst
def tyName : Ty → String
  | .non => "NoneType" | .bl => "bool" | .int => "int" | .str => "str" | .tup => "tuple" | .lst => "list"
def isTy : Ty → Ty → Bool
  | .non, .non | .bl, .bl | .int, .int | .str, .str | .tup, .tup | .lst, .lst | .bl, .int => true
  | _, _ => false
theorem isTy_ok : ∀ a b : Ty, kitB (tyName a) (tyName b) = some (isTy a b) := by
  intro a b
  cases a <;> cases b <;> decide +kernel
def tyK (d : D) (l : LH) (k : Ty → Prop) : Prop := match d with
  | .non => k .non | .bl _ => k .bl | .int _ => k .int | .str _ => k .str | .tup _ => k .tup | .lst _ => k .lst
  | .ref a => getO l a fun o => match o with | .lst _ => k .lst | _ => False
  | _ => False
theorem tyK_ok {K : PySem.W.Frag} {F Fr H : Hp} {l : LH} {d : D} {v : V} {k : Ty → Prop} (R : Rep K F Fr l H) (r : RelD K F d v) (q : tyK d l k) : ∃ t, k t ∧ TyX K H v (.type (tyName t)) := by
  cases r with
  | non => exact ⟨_, q, .base .non⟩
  | bl b => exact ⟨_, q, .base (.bl b)⟩
  | int i => exact ⟨_, q, .base (.int i)⟩
  | str i => exact ⟨_, q, .base (.str i)⟩
  | tup h1 r1 =>
    refine ⟨_, q, ?_⟩
    exact .base (.tup (R.fz _ _ h1))
  | lst h1 r1 => exact ⟨_, q, .base (.lst (R.fz _ _ h1))⟩
  | ref a =>
    obtain ⟨o, ho, q⟩ := q
    cases o with
    | lst ds =>
      obtain ⟨vs, r1, h1⟩ := (R.lv _ _ ho).2
      exact ⟨_, q, .base (.lst h1)⟩
    | _ => exact q.elim
  | _ => exact q.elim
variable {a b e : Expr} {ta tb tc te : DTE} {pos : Pos} {es : List Expr} {u : DTA}
def dIsI (T : Ty) (te : DTE) : DTE := fun env l Q => te env l fun d l1 => tyK d l1 fun t => Q (.bl (isTy t T)) l1
theorem ClsVty (n : String) : ClsV (.ty n) (.type n) := by constructor
theorem de_isI {x y : Str} {p p2 : Pos} (T : Ty) (hx : x = "isinstance" := by rfl) (hg : Gl X x) (hm : X.mg x = none) (hv : bootBuiltins x = some (.builtin "isinstance")) (hg2 : Gl X y) (hm2 : X.mg y = none) (hv2 : bootBuiltins y = some (.type (tyName T))) (hn2 : y ≠ "__name__") (hd2 : (y == ("__debug__" : Str)) = false) (h : DE X e te)
    (he : starEach (e :: [.Name y p2]) X.env = (false, eval e X.env) :: starEach [.Name y p2] X.env := by rfl) : DE X (.Call (.Name x p) [e, .Name y p2] [] pos) (dIsI T te) := by
  refine ⟨?_⟩
  intro F Fr env l σ H Q hE hR ht
  subst hx
  refine (pe_callB call_isi hg hm hv (pa_cons peW (pa_cons (pe_bltn (v := .ty (tyName T)) hg2 hm2 hv2 rfl hn2 hd2) pa_nil) he) (by decide) (by decide) he).we ?_
  refine (h F Fr env l σ H _ hE hR ht).mono fun x H1 ⟨F1, d, l1, s1, r1, R1, q1⟩ => ?_
  obtain ⟨t, q2, ty⟩ := tyK_ok R1 r1 q1
  exact ⟨x, .ty (tyName T), _, _, isTy t T, rfl, ClsVty _, ty, kit_ty (isTy_ok t T), F1, _, l1, s1, .bl _, R1, q2⟩

theorem de_len (hg : Gl X "len") (hm : X.mg "len" = none) {p : Pos} (h : DE X e te) (he : starEach [e] X.env = (false, eval e X.env) :: starEach [] X.env := by rfl) : DE X (.Call (.Name "len" p) [e] [] pos) (dCall kLen (aCons te aNil)) :=
  de_callB call_len2 kLen_ok hg hm PySem.boot_len (da_cons h da_nil he) (by decide) (by decide) he
end
end DL

namespace DL
open PySem PySem.Spec PyProof.Rows L2

/-! ### targets -/
theorem wipe_set {i : Nat} {x : Option V} : ∀ {vs : List Nat} {σ : St}, i ∈ vs → L2.wipe (σ.set i x) vs = L2.wipe σ vs := by
  have key : ∀ (vs : List Nat) (σ : St), (i ∈ vs → L2.wipe (σ.set i x) vs = L2.wipe σ vs) ∧ (i ∉ vs → L2.wipe (σ.set i x) vs = (L2.wipe σ vs).set i x) := by
    intro vs
    induction vs with
    | nil => exact fun σ => ⟨fun h => by simp at h, fun _ => rfl⟩
    | cons v vs ih =>
      intro σ
      obtain ⟨h1, h2⟩ := ih σ
      constructor
      · intro h
        show (L2.wipe (σ.set i x) vs).set v none = (L2.wipe σ vs).set v none
        by_cases hi : i ∈ vs
        · rw [h1 hi]
        · have e : i = v := by
            rcases List.mem_cons.mp h with e | e
            · exact e
            · exact absurd e hi
          subst e
          rw [h2 hi, List.set_set]
      · intro h
        simp only [List.mem_cons, not_or] at h
        show (L2.wipe (σ.set i x) vs).set v none = ((L2.wipe σ vs).set v none).set i x
        rw [h2 h.2, List.set_comm _ _ h.1]
  intro vs σ h
  exact (key vs σ).1 h
section
variable {X : Cx}
def gName (i : Nat) : DTG := fun d env l Q => setK env i d fun env' => Q env' l
theorem dg_name {i : Nat} {x : Str} {pos : Pos} {vs : List Nat} (hN : X.N.Nodup) (hi : X.N[i]? = some x) (hx : Loc X.env.scope x) (hv : i ∈ vs) (hf : X.fn x = true ∨ X.env.scope.names.lookup x = some .local := by first | exact .inl rfl | exact .inr rfl | assumption) : DG X (.Name x pos) vs (gName i) := by
  refine ⟨?_⟩
  intro F Fr env l σ H d v Q he hr hd ht
  refine (pg_name hN hi hx hf).wg ?_
  unfold gName at ht
  rw [setK_eq] at ht
  exact ⟨wipe_set hv, F, _, l, Same.refl F, he.set hd i, hr, ht⟩
def gNil : List D → DSt → LH → (DSt → LH → Prop) → Prop := fun ds env l Q => match ds with | [] => Q env l | _ => False
def gCons (g : DTG) (u : List D → DSt → LH → (DSt → LH → Prop) → Prop) : List D → DSt → LH → (DSt → LH → Prop) → Prop := fun ds env l Q => match ds with
  | d :: r => g d env l fun env1 l1 => u r env1 l1 Q
  | [] => False
def gTup (n : Nat) (u : List D → DSt → LH → (DSt → LH → Prop) → Prop) : DTG := fun d env l Q => match d with
  | .tup ds => ds.length = n ∧ u ds env l Q
  | .lst ds => ds.length = n ∧ u ds env l Q
  | .ref a => getO l a fun o => match o with | .lst ds => ds.length = n ∧ u ds env l Q | _ => False
  | _ => False
theorem dgs_nil {vs : List Nat} : DGs X [] vs gNil := by
  refine ⟨?_⟩
  intro F Fr env l σ H d v Q he hr hd ht
  cases hd with
  | nil => exact pgs_nil.wgs ⟨rfl, rfl, F, env, l, Same.refl F, he, hr, ht⟩
  | cons _ _ => exact ht.elim
theorem dgs_cons {e : Expr} {es : List Expr} {vs : List Nat} {g : DTG} {u : List D → DSt → LH → (DSt → LH → Prop) → Prop} (h1 : DG X e vs g) (h2 : DGs X es vs u)
    (hm : (assignEach (e :: es) X.env).map (·.2) = assign e X.env :: (assignEach es X.env).map (·.2) := by rfl) : DGs X (e :: es) vs (gCons g u) := by
  refine ⟨?_⟩
  intro F Fr env l σ H d v Q he hr hd ht
  cases hd with
  | nil => exact ht.elim
  | cons r1 rr =>
    refine (pgs_cons pgW pgsW hm).wgs ?_
    refine ⟨_, _, rfl, ?_⟩
    refine (h1 F Fr env l σ H _ _ _ he hr r1 ht).mono fun σ1 H1 ⟨w1, F1, env1, l1, s1, he1, R1, q1⟩ => ?_
    refine (h2 F1 Fr env1 l1 σ1 H1 _ _ _ he1 R1 (rr.mono s1) q1).mono fun σ2 H2 ⟨w2, q2⟩ => ?_
    exact ⟨w2.trans w1, q2.weak s1⟩
theorem dg_tup {es : List Expr} {k n : Nat} {pos : Pos} {vs : List Nat} {u : List D → DSt → LH → (DSt → LH → Prop) → Prop} (hc : X.calm = true) (h : DGs X es vs u)
    (hn : (assignEach es X.env).length = n := by rfl) (hst : (assignEach es X.env).findIdx? (·.1) = none := by rfl) : DG X (.Tuple es k pos) vs (gTup n u) := by
  refine ⟨?_⟩
  intro F Fr env l σ H d v Q he hr hd ht
  cases hd with
  | @tup p vs ds h1 rr =>
    refine (pg_tup hc pgsW hn hst).wg ?_
    exact ⟨p, _, rfl, tq (hr.fz _ _ h1), by rw [← rr.length]; exact ht.1, h F Fr env l σ H _ _ _ he hr rr ht.2⟩
  | @lst p vs ds h1 rr =>
    refine (pg_unl hc pgsW hn hst).wg ?_
    exact ⟨p, _, rfl, .inl (.inl (hr.fz _ _ h1)), by rw [← rr.length]; exact ht.1, h F Fr env l σ H _ _ _ he hr rr ht.2⟩
  | ref a =>
    obtain ⟨o, ho, ht⟩ := ht
    cases o with
    | lst ds =>
      obtain ⟨vs, rr, h1⟩ := (hr.lv _ _ ho).2
      refine (pg_unl hc pgsW hn hst).wg ?_
      exact ⟨a, _, rfl, .inl (.inl h1), by rw [← rr.length]; exact ht.1, h F Fr env l σ H _ _ _ he hr rr ht.2⟩
    | _ => exact ht.elim
  | _ => exact ht.elim
/-- o[i] = v -/
def gSub (to ti : DTE) (k : D → D → D → LH → (LH → Prop) → Prop) : DTG := fun d env l Q => to env l fun o l1 => ti env l1 fun i l2 => k o i d l2 fun l3 => Q env l3
def KSet (X : Cx) (t : TSet) (k : D → D → D → LH → (LH → Prop) → Prop) : Prop := ∀ F Fr l H (Q : LH → Prop) o i d ov iv v (Q' : Hp → Prop), Rep X.K F Fr l H → RelD X.K F o ov → RelD X.K F i iv → RelD X.K F d v → (∀ H, LH' X.K F Fr Q H → Q' H) → k o i d l Q → t ov iv v H Q'
theorem dg_sub {o i : Expr} {to ti : DTE} {t : TSet} {k : D → D → D → LH → (LH → Prop) → Prop} {pos : Pos} {vs : List Nat} (hs : PSet X t) (hk : KSet X t k) (ho : DE X o to) (hi : DE X i ti)
    (ha : ∀ v, assign (.Subscript o i pos) X.env v = (do
      let ov ← holding [v] (eval o X.env)
      let iv ← holding [v, ov] (eval i X.env)
      standAt pos
      holding [v, ov, iv] (setItem ov iv v)
      release [v, ov, iv] []) := by intro _; rfl) : DG X (.Subscript o i pos) vs (gSub to ti k) := by
  refine ⟨?_⟩
  intro F Fr env l σ H d v Q he hr hd ht
  refine (pg_sub peW peW hs ha).wg ?_
  refine (ho F Fr env l σ H _ he hr ht).mono fun x H1 ⟨F1, d1, l1, s1, r1, R1, q1⟩ => ?_
  refine (hi F1 Fr env l1 σ H1 _ (he.mono s1) R1 q1).mono fun y H2 ⟨F2, d2, l2, s2, r2, R2, q2⟩ => ?_
  refine hk F2 Fr l2 H2 _ d1 d2 d x y v _ R2 (r1.mono s2) r2 (hd.mono (s1.trans s2)) (fun H3 q => ?_) q2
  obtain ⟨F3, l3, s3, R3, q3⟩ := q
  exact ⟨rfl, F3, env, l3, s1.trans (s2.trans s3), he.mono (s1.trans (s2.trans s3)), R3, q3⟩
def kSetL : D → D → D → LH → (LH → Prop) → Prop := fun o i d l Q => match o, i with
  | .ref a, .int k => getO l a fun u => match u with | .lst ds => ∃ j, ixN ds.length k = some j ∧ Q (uL l a (.lst (ds.set j d))) | _ => False
  | _, _ => False
theorem kSetL_ok : KSet X rSetL kSetL := by
  intro F Fr l H Q o i d ov iv v Q' R ro ri rd hq q
  cases ro <;> try exact q.elim
  cases ri <;> try exact q.elim
  obtain ⟨u, ho, q⟩ := q
  cases u with
  | lst ds =>
    obtain ⟨j, hj, q⟩ := q
    obtain ⟨vs, rr, h1⟩ := (R.lv _ _ ho).2
    exact ⟨_, vs, _, j, rfl, rfl, h1, by rw [← rr.length]; exact hj, hq _ ⟨F, _, Same.refl F, R.write ho rfl (show DOk X.K F _ _ (.lst (ds.set j d)) from ⟨_, rr.set rd j, upd_same⟩), q⟩⟩
  | _ => exact q.elim
def gIx (to ti : DTE) : DTG := gSub to ti kSetL

/-! ### statements -/
section
variable {e : Expr} {te : DTE} {st : Stmt} {rest : List Stmt} {t u : DTS} {pos : Pos}
def sSeq (t u : DTS) : DTS := fun E env l => t ⟨u E, E.rt, E.bk, E.ct⟩ env l
def sNext : DTS := fun E env l => E.nx env l
theorem dss_nil : DSs X [] sNext := ⟨fun F Fr env l σ H E he hr ht => pss_nil.wss ⟨F, env, l, Same.refl F, he, hr, ht⟩⟩
theorem dss_one (h : DS X st t) : DSs X [st] t := ⟨fun F Fr env l σ H E he hr ht => (pss_one psW).wss (h F Fr env l σ H E he hr ht)⟩
theorem dss_cons (h1 : DS X st t) (h2 : DSs X rest u) : DSs X (st :: rest) (sSeq t u) := by
  refine ⟨?_⟩
  intro F Fr env l σ H E he hr ht
  refine (pss_cons psW pssW).wss ?_
  refine (h1 F Fr env l σ H _ he hr ht).mono (fun σ1 H1 ⟨F1, env1, l1, s1, he1, R1, q1⟩ => ?_) (fun _ _ q => q) (fun _ _ q => q) (fun _ _ q => q)
  exact (h2 F1 Fr env1 l1 σ1 H1 E he1 R1 q1).mono (fun _ _ q => LS.weak s1 q) (fun _ _ q => LK.weak s1 q) (fun _ _ q => LS.weak s1 q) (fun _ _ q => LS.weak s1 q)
def sRet (te : DTE) : DTS := fun E env l => te env l E.rt
theorem ds_ret (h : DE X e te) : DS X (.Return (some e) pos) (sRet te) := ⟨fun F Fr env l σ H E he hr ht => (ps_ret peW).ws (h F Fr env l σ H _ he hr ht)⟩
def sExpr (te : DTE) : DTS := fun E env l => te env l fun _ l1 => E.nx env l1
theorem ds_expr (h : DE X e te) (hs : swapsWith e none pos.line X.env = pure false := by rfl) : DS X (.Expr e pos) (sExpr te) := by
  refine ⟨?_⟩
  intro F Fr env l σ H E he hr ht
  refine (ps_expr peW hs).ws ?_
  exact (h F Fr env l σ H _ he hr ht).mono fun x H1 ⟨F1, d, l1, s1, r1, R1, q1⟩ => ⟨F1, env, l1, s1, he.mono s1, R1, q1⟩
def sIf (tt : DTT) (t u : DTS) : DTS := fun E env l => tt env l fun c l1 => ifB c (t E env l1) (u E env l1)
theorem ds_if {c : Expr} {a b : List Stmt} {tt : DTT} (hc : DT X c tt) (ha : DSs X a t) (hb : DSs X b u) : DS X (.If c a b pos) (sIf tt t u) := by
  refine ⟨?_⟩
  intro F Fr env l σ H E he hr ht
  refine (ps_if ptW pssW pssW).ws ?_
  refine (hc F Fr env l σ H _ he hr ht).mono fun x H1 ⟨F1, l1, s1, R1, q1⟩ => ?_
  cases x with
  | true => exact L2.iteT ((ha F1 Fr env l1 σ H1 E (he.mono s1) R1 (ifB_T q1)).mono (fun _ _ q => LS.weak s1 q) (fun _ _ q => LK.weak s1 q) (fun _ _ q => LS.weak s1 q) (fun _ _ q => LS.weak s1 q))
  | false => exact L2.iteF ((hb F1 Fr env l1 σ H1 E (he.mono s1) R1 (ifB_F q1)).mono (fun _ _ q => LS.weak s1 q) (fun _ _ q => LK.weak s1 q) (fun _ _ q => LS.weak s1 q) (fun _ _ q => LS.weak s1 q))
def sAsg (te : DTE) (g : DTG) : DTS := fun E env l => te env l fun d l1 => g d env l1 E.nx
theorem ds_asg {tg : Expr} {g : DTG} {vs : List Nat} (h : DE X e te) (hg : DG X tg vs g) (hs : swapsWithSole [tg] e pos.line X.env = pure false := by rfl) (hw : swappedStores [tg] e X.env = pure none := by rfl)
    (h1 : (assignEach [tg] X.env).map (·.2) = [assign tg X.env] := by rfl) : DS X (.Assign [tg] e pos) (sAsg te g) := by
  refine ⟨?_⟩
  intro F Fr env l σ H E he hr ht
  refine (ps_asg peW pgW hs hw h1).ws ?_
  refine (h F Fr env l σ H _ he hr ht).mono fun x H1 ⟨F1, d, l1, s1, r1, R1, q1⟩ => ?_
  exact (hg F1 Fr env l1 σ H1 _ _ _ (he.mono s1) R1 r1 q1).mono fun σ2 H2 ⟨_, q2⟩ => LS.weak s1 q2
def sSet (i : Nat) (te : DTE) : DTS := fun E env l => te env l fun d l1 => setK env i d fun env' => E.nx env' l1
theorem ds_set {i : Nat} {x : Str} {pos' : Pos} (hN : X.N.Nodup) (hi : X.N[i]? = some x) (hx : Loc X.env.scope x) (h : DE X e te) (hs : swapsWith e (some (.Name x pos')) pos.line X.env = pure false := by rfl) (hf : X.fn x = true ∨ X.env.scope.names.lookup x = some .local := by first | exact .inl rfl | exact .inr rfl | assumption) : DS X (.Assign [.Name x pos'] e pos) (sSet i te) := by
  refine ⟨?_⟩
  intro F Fr env l σ H E he hr ht
  refine (ps_set hN hi hx peW hs hf).ws ?_
  refine (h F Fr env l σ H _ he hr ht).mono fun x H1 ⟨F1, d, l1, s1, r1, R1, q1⟩ => ?_
  replace q1 : setK env i d fun env' => E.nx env' l1 := q1
  rw [setK_eq] at q1
  exact ⟨F1, _, l1, s1, (he.mono s1).set r1 i, R1, q1⟩
/-- a, b = e1, e2 of plain local names -/
def sPar (i j : Nat) (ta : DTA) : DTS := fun E env l => ta env l fun ds l1 => match ds with
  | [v, w] => setK env i v fun env1 => setK env1 j w fun env2 => E.nx env2 l1
  | _ => False
theorem ds_par {i j : Nat} {x y : Str} {a b : Expr} {ta : DTA} {px py pt : Pos} {kt k2 pt2} (hc : X.calm = true) (hN : X.N.Nodup) (hi : X.N[i]? = some x) (hj : X.N[j]? = some y) (hij : i ≠ j)
    (hx : X.env.scope.names.lookup x = some .local) (hy : X.env.scope.names.lookup y = some .local) (ha : DA X [a, b] ta)
    (hw : swappedStores [.Tuple [.Name x px, .Name y py] kt pt] (.Tuple [a, b] k2 pt2) X.env = pure (some [x, y]))
    (hs : swapsWithSole [.Tuple [.Name x px, .Name y py] kt pt] (.Tuple [a, b] k2 pt2) pos.line X.env = pure false := by rfl) :
    DS X (.Assign [.Tuple [.Name x px, .Name y py] kt pt] (.Tuple [a, b] k2 pt2) pos) (sPar i j ta) := by
  refine ⟨?_⟩
  intro F Fr env l σ H E he hr ht
  refine (ps_par hc hN hi hj hij hx hy paW hw hs).ws ?_
  refine (ha F Fr env l σ H _ he hr ht).mono fun vs H1 ⟨F1, ds, l1, s1, r1, R1, q1⟩ => ?_
  cases r1 with
  | nil => exact q1.elim
  | cons ra rr =>
    cases rr with
    | nil => exact q1.elim
    | cons rb rr =>
      cases rr with
      | cons _ _ => exact q1.elim
      | nil =>
        replace q1 : setK env i _ _ := q1
        rw [setK_eq, setK_eq] at q1
        exact ⟨_, _, rfl, F1, _, l1, s1, ((he.mono s1).set ra i).set rb j, R1, q1⟩
def sAug (i : Nat) (te : DTE) (k : D → D → LH → DK → Prop) : DTS := fun E env l => match nthE env i with
  | some d => te env l fun y l1 => k d y l1 fun z l2 => setK env i z fun env' => E.nx env' l2
  | none => False
theorem ds_aug {i : Nat} {x : Str} {op : Operator} {ti : TIp} {k : D → D → LH → DK → Prop} {pos' : Pos} (hN : X.N.Nodup) (hi : X.N[i]? = some x) (hx : Loc X.env.scope x) (ho : PIp X op ti) (hk : KOp X ti k) (h : DE X e te) (hf : X.fn x = true ∨ X.env.scope.names.lookup x = some .local := by first | exact .inl rfl | exact .inr rfl | assumption) :
    DS X (.AugAssign (.Name x pos') op e pos) (sAug i te k) := by
  refine ⟨?_⟩
  intro F Fr env l σ H E he hr ht
  refine (ps_aug hN hi hx peW ho hf).ws ?_
  unfold sAug at ht
  cases q : nthE env i with
  | none => rw [q] at ht; exact ht.elim
  | some d =>
    rw [q] at ht
    obtain ⟨v, h1, h2⟩ := he.get q
    refine ⟨v, h1, ?_⟩
    refine (h F Fr env l σ H _ he hr ht).mono fun x H1 ⟨F1, d1, l1, s1, r1, R1, q1⟩ => ?_
    refine hk F1 Fr l1 H1 _ d d1 v x _ R1 (h2.mono s1) r1 (fun w H2 ⟨F2, d2, l2, s2, r2, R2, q2⟩ => ?_) q1
    replace q2 : setK env i d2 fun env' => E.nx env' l2 := q2
    rw [setK_eq] at q2
    exact ⟨F2, _, l2, s1.trans s2, (he.mono (s1.trans s2)).set r2 i, R2, q2⟩

/-! ### loops -/
def forL (g : DTG) (tb : DTS) : List D → DTS
  | [], E, env, l => E.nx env l
  | d :: ds, E, env, l => g d env l fun env1 l1 => tb ⟨forL g tb ds E, E.rt, E.nx, forL g tb ds E⟩ env1 l1
def sFor (ti : DTI) (g : DTG) (tb : DTS) : DTS := fun E env l => ti env l fun ds l1 => forL g tb ds E env l1
theorem ds_for {tg iter : Expr} {body : List Stmt} {ti : DTI} {g : DTG} {tb : DTS} {vs : List Nat} (hp : PassesOwn (model X.prog X.w) X.A X.env X.xe) (hc : X.calm = true) (hi : DI X tg iter ti) (hg : DG X tg vs g) (hb : DSs X body tb)
    (hs : ∀ x, foldedSetIterable iter X.env x = pure x := by intro _; rfl) : DS X (.For tg iter body [] pos) (sFor ti g tb) := by
  refine ⟨?_⟩
  intro F Fr env l σ H E he hr ht
  refine (ps_for hp hc piW pgW pssW hs).ws ?_
  refine (hi F Fr env l σ H _ he hr ht).mono fun J H1 ⟨F1, l1, ds, s1, R1, jk, q1⟩ => ?_
  refine ⟨fun i m σ H => m = ds.length - i ∧ i ≤ ds.length ∧ ∃ F' env l, Same F1 F' ∧ RepE X.K F' env σ ∧ Rep X.K F' Fr l H ∧ forL g tb (ds.drop i) E env l, ⟨_, rfl, Nat.zero_le _, F1, env, l1, Same.refl _, he.mono s1, R1, q1⟩, ?_⟩
  rintro i m σ H ⟨rfl, hi, F2, env, l, s2, he2, R2, q2⟩
  obtain ⟨j1, j2⟩ := jk i F2 Fr l H s2 R2
  by_cases hlt : i < ds.length
  · rw [List.drop_eq_getElem_cons hlt] at q2
    obtain ⟨go, y⟩ := j2 ds[i] (List.getElem?_eq_getElem hlt)
    refine .inr ⟨go, fun σ H => ∃ F' env l, Same F1 F' ∧ RepE X.K F' env σ ∧ Rep X.K F' Fr l H ∧ forL g tb (ds.drop (i + 1)) E env l, fun σ' H' h => ⟨_, by omega, rfl, hlt, h⟩, fun x H' hy => ?_⟩
    obtain ⟨F3, s3, rx, R3⟩ := y x H' hy
    refine (hg F3 Fr env l σ H' _ _ _ (he2.mono s3) R3 rx q2).mono fun σ4 H4 ⟨_, F4, env4, l4, s4, he4, R4, q4⟩ => ?_
    have S : Same F1 F4 := s2.trans (s3.trans s4)
    refine (hb F4 Fr env4 l4 σ4 H4 _ he4 R4 q4).mono (fun σ5 H5 q => ?_) (fun _ _ q => LK.weak (s1.trans S) q) (fun _ _ q => LS.weak (s1.trans S) q) (fun σ5 H5 q => ?_)
    · obtain ⟨F5, env5, l5, s5, he5, R5, q5⟩ := q
      exact ⟨F5, env5, l5, S.trans s5, he5, R5, q5⟩
    · obtain ⟨F5, env5, l5, s5, he5, R5, q5⟩ := q
      exact ⟨F5, env5, l5, S.trans s5, he5, R5, q5⟩
  · have e : i = ds.length := by omega
    subst e
    rw [List.drop_length] at q2
    exact .inl ⟨j1 (Nat.le_refl _), F2, env, l, s1.trans s2, he2, R2, q2⟩
/-- while: by an invariant and a measure -/
def sWhile (tt : DTT) (tb : DTS) : DTS := fun E env l => ∃ W : Nat → DSt → LH → Prop, (∃ m, W m env l) ∧ ∀ m env l, W m env l →
  tt env l fun c l1 => ifB c (tb ⟨fun env l => ∃ m', m' < m ∧ W m' env l, E.rt, E.nx, fun env l => ∃ m', m' < m ∧ W m' env l⟩ env l1) (E.nx env l1)
theorem ds_while {c : Expr} {body : List Stmt} {tt : DTT} {tb : DTS} (hp : PassesOwn (model X.prog X.w) X.A X.env X.xe) (hc : DT X c tt) (hb : DSs X body tb) : DS X (.While c body [] pos) (sWhile tt tb) := by
  refine ⟨?_⟩
  intro F Fr env l σ H E he hr ht
  obtain ⟨W, ⟨m, w0⟩, step⟩ := ht
  refine (ps_while hp ptW pssW).ws ?_
  refine ⟨fun m σ H => ∃ F' env l, Same F F' ∧ RepE X.K F' env σ ∧ Rep X.K F' Fr l H ∧ W m env l, ⟨m, F, env, l, Same.refl F, he, hr, w0⟩, ?_⟩
  rintro m σ H ⟨F1, env, l, s1, he1, R1, w1⟩
  refine (hc F1 Fr env l σ H _ he1 R1 (step m env l w1)).mono fun x H1 ⟨F2, l2, s2, R2, q2⟩ => ?_
  have S := s1.trans s2
  cases x with
  | true =>
    refine L2.iteT ⟨fun σ H => ∃ m', m' < m ∧ ∃ F' env l, Same F F' ∧ RepE X.K F' env σ ∧ Rep X.K F' Fr l H ∧ W m' env l, fun σ' H' h => h, ?_⟩
    refine (hb F2 Fr env l2 σ H1 _ (he1.mono s2) R2 (ifB_T q2)).mono (fun σ5 H5 q => ?_) (fun _ _ q => LK.weak S q) (fun _ _ q => LS.weak S q) (fun σ5 H5 q => ?_)
    · obtain ⟨F5, env5, l5, s5, he5, R5, m', hm, q5⟩ := q
      exact ⟨m', hm, F5, env5, l5, S.trans s5, he5, R5, q5⟩
    · obtain ⟨F5, env5, l5, s5, he5, R5, m', hm, q5⟩ := q
      exact ⟨m', hm, F5, env5, l5, S.trans s5, he5, R5, q5⟩
  | false => exact L2.iteF ⟨F2, env, l2, S, he1.mono s2, R2, ifB_F q2⟩
end
end
end DL

namespace DL
open PySem PySem.Spec PyProof.Rows L2

/-! ### what is walked -/
section
variable {X : Cx} {tg : Expr}
theorem it_list {pins : List (Addr × Obj)} {σ : St} {H : Hp} {s : Shared} {R : It → Hp → Prop} {E : Value → Shared → Prop} {a : Addr} {xs : List V} (I : Inv X pins σ H s) (hq : SqL X.K H a xs) (q : R (Itl X.K a) H) :
    wpAny (model X.prog X.w) X.A (pyIter (.ref a)) (PIE X pins σ tg R) E s := by
  obtain ⟨its, rv, p, hz⟩ := I.list hq
  refine wpAny_pyIter_list p.isList ?_
  refine ⟨s.heap.objs.size, [s.heap.objs.size], _, _, H, rfl, I.kept (t' := s.toks) fun b o e => Heap.get?_push_of_some _ e, turn_list a _, ⟨_, Heap.get?_push_size _ rfl, rfl, rfl⟩, fun b hb => ?_, q⟩
  have e : b = s.heap.objs.size := by simpa using hb
  subst e
  exact I.fpOk (Nat.le_refl _) (I.hok.fresh (Nat.le_refl _))
theorem it_tup {pins : List (Addr × Obj)} {σ : St} {H : Hp} {s : Shared} {R : It → Hp → Prop} {E : Value → Shared → Prop} {a : Addr} {xs : List V} (I : Inv X pins σ H s) (hq : SqT X.K H a xs) (q : R (Itt X.K a) H) :
    wpAny (model X.prog X.w) X.A (pyIter (.ref a)) (PIE X pins σ tg R) E s := by
  obtain ⟨its, rv, p, hz⟩ := I.tuple hq
  refine wpAny_pyIter_tuple (show s.heap.IsTuple a its.toArray from p) ?_
  refine ⟨s.heap.objs.size, [s.heap.objs.size], _, _, H, rfl, I.kept (t' := s.toks) fun b o e => Heap.get?_push_of_some _ e, turn_tuple a _, ⟨_, Heap.get?_push_size _ rfl, rfl, rfl⟩, fun b hb => ?_, q⟩
  have e : b = s.heap.objs.size := by simpa using hb
  subst e
  exact I.fpOk (Nat.le_refl _) (I.hok.fresh (Nat.le_refl _))
end
/-- an iterator that gives the items of ds, whatever the reading of its own -/
theorem jok_list {K : PySem.W.Frag} {F : Hp} {a : Addr} {vs : List V} {ds : List D} (h : SqL K F a vs) (r : RelDs K F ds vs) : JOk K F (Itl K a) ds := by
  intro i F' Fr l H s R
  have q : SqL K H a vs := sqL_mono R.fz (sqL_mono s h)
  refine ⟨fun hi => ⟨vs, q, by rw [← r.length]; exact hi⟩, fun d hd => ?_⟩
  obtain ⟨v, hv, rv⟩ := r.get hd
  refine ⟨⟨vs, v, q, hv⟩, fun x H' y => ?_⟩
  obtain ⟨e, y⟩ := y
  subst e
  have e := y vs q
  rw [hv] at e
  cases e
  exact ⟨F', Same.refl _, rv.mono s, R⟩
theorem jok_tup {K : PySem.W.Frag} {F : Hp} {a : Addr} {vs : List V} {ds : List D} (h : SqT K F a vs) (r : RelDs K F ds vs) : JOk K F (Itt K a) ds := by
  intro i F' Fr l H s R
  have q : SqT K H a vs := sqT_mono R.fz (sqT_mono s h)
  refine ⟨fun hi => ⟨vs, q, by rw [← r.length]; exact hi⟩, fun d hd => ?_⟩
  obtain ⟨v, hv, rv⟩ := r.get hd
  refine ⟨⟨vs, v, q, hv⟩, fun x H' y => ?_⟩
  obtain ⟨e, y⟩ := y
  subst e
  have e := y vs q
  rw [hv] at e
  cases e
  exact ⟨F', Same.refl _, rv.mono s, R⟩
section
variable {X : Cx} {tg e e2 : Expr} {te : DTE} {ta : DTA}
def iSeq (te : DTE) : DTI := fun env l R => te env l fun d l1 => match d with
  | .lst ds => R ds l1
  | .tup ds => R ds l1
  | .scr ns => R (ns.map D.int) l1
  | .kt ds => R ds l1
  | _ => False
theorem di_seq (h : DE X e te) : DI X tg e (iSeq te) := by
  refine ⟨?_⟩
  intro F Fr env l σ H R he hr ht pins s I
  refine thn (h F Fr env l σ H _ he hr ht pins s I) fun v s1 ⟨x, H1, I1, r1, F1, d, l1, s1', rd, R1, q1⟩ => ?_
  cases rd with
  | @tup p vs ds h1 rr => cases r1; exact it_tup I1 (tq (R1.fz _ _ h1)) ⟨F1, l1, ds, s1', R1, jok_tup (tq h1) rr, q1⟩
  | @kt p od vs ds h1 _ _ rr => cases r1; exact it_tup I1 (.inl (.inr ⟨_, R1.fz _ _ h1⟩)) ⟨F1, l1, ds, s1', R1, jok_tup (.inl (.inr ⟨_, h1⟩)) rr, q1⟩
  | @lst p vs ds h1 rr => cases r1; exact it_list I1 (.inl (.inl (R1.fz _ _ h1))) ⟨F1, l1, ds, s1', R1, jok_list (.inl (.inl h1)) rr, q1⟩
  | @scr p ns h1 => cases r1; exact it_list I1 (sqL_mono R1.fz h1) ⟨F1, l1, _, s1', R1, jok_list h1 (relDs_ints ns), q1⟩
  | _ => exact q1.elim
def rgD (lo : Int) (n : Nat) : List D := (List.range n).map fun i => D.int (lo + (i : Nat))
theorem jok_rng {K : PySem.W.Frag} {F : Hp} (lo : Int) (n : Nat) : JOk K F (Itr lo n) (rgD lo n) := by
  intro i F' Fr l H s R
  refine ⟨fun hi => by
    show n ≤ i
    simpa [rgD] using hi, fun d hd => ?_⟩
  have hi : i < n := by
    have := (List.getElem?_eq_some_iff.mp hd).1
    simpa [rgD] using this
  refine ⟨hi, fun x H' y => ?_⟩
  obtain ⟨e, y⟩ := y
  subst e y
  have e : d = .int (lo + (i : Nat)) := by
    unfold rgD at hd
    rw [List.getElem?_map, List.getElem?_range hi] at hd
    exact (Option.some.inj hd).symm
  subst e
  exact ⟨F', Same.refl _, .int _, R⟩
def iRg1 (ta : DTA) : DTI := fun env l R => ta env l fun ds l1 => match ds with
  | [.int j] => (-(2 ^ 62) ≤ j ∧ j < 2 ^ 62) ∧ R (rgD 0 j.toNat) l1
  | _ => False
def iRg2 (ta : DTA) : DTI := fun env l R => ta env l fun ds l1 => match ds with
  | [.int i, .int j] => (-(2 ^ 62) ≤ i ∧ i < 2 ^ 62 ∧ -(2 ^ 62) ≤ j ∧ j < 2 ^ 62) ∧ R (rgD i (j - i).toNat) l1
  | _ => False
theorem di_range1 {p pos : Pos} (hg : Gl X "range") (hm : X.mg "range" = none) (ha : DA X [e] ta) (hs : starEach [e] X.env = [(false, eval e X.env)] := by rfl) : DI X tg (.Call (.Name "range" p) [e] [] pos) (iRg1 ta) := by
  refine ⟨?_⟩
  intro F Fr env l σ H R he hr ht
  refine (pi_range1 hg hm paW hs).wi ?_
  refine (ha F Fr env l σ H _ he hr ht).mono fun vs H1 ⟨F1, ds, l1, s1, r1, R1, q1⟩ => ?_
  cases r1 with
  | nil => exact q1.elim
  | cons ra rr =>
    cases rr with
    | cons _ _ => cases ra <;> exact q1.elim
    | nil =>
      cases ra <;> try exact q1.elim
      exact ⟨_, rfl, q1.1.1, q1.1.2, F1, l1, _, s1, R1, jok_rng 0 _, q1.2⟩
theorem di_range2 {p pos : Pos} (hg : Gl X "range") (hm : X.mg "range" = none) (ha : DA X [e, e2] ta) (hs : starEach [e, e2] X.env = [(false, eval e X.env), (false, eval e2 X.env)] := by rfl) (hs2 : starEach [e2] X.env = [(false, eval e2 X.env)] := by rfl) : DI X tg (.Call (.Name "range" p) [e, e2] [] pos) (iRg2 ta) := by
  refine ⟨?_⟩
  intro F Fr env l σ H R he hr ht
  refine (pi_range2 hg hm paW hs hs2).wi ?_
  refine (ha F Fr env l σ H _ he hr ht).mono fun vs H1 ⟨F1, ds, l1, s1, r1, R1, q1⟩ => ?_
  cases r1 with
  | nil => exact q1.elim
  | cons ra rr =>
    cases ra <;> try (cases rr <;> exact q1.elim)
    cases rr with
    | nil => exact q1.elim
    | cons rb rr =>
      cases rr with
      | cons _ _ => cases rb <;> exact q1.elim
      | nil =>
        cases rb <;> try exact q1.elim
        exact ⟨_, _, rfl, q1.1, F1, l1, _, s1, R1, jok_rng _ _, q1.2⟩
def enumD : Nat → List D → List D
  | _, [] => []
  | i, d :: ds => .tup [.int (i : Nat), d] :: enumD (i + 1) ds
theorem enumD_get : ∀ (ds : List D) (k i : Nat), (enumD k ds)[i]? = (ds[i]?).map fun d => D.tup [.int ((k + i : Nat) : Int), d]
  | [], _, _ => by simp [enumD]
  | d :: ds, k, 0 => by simp [enumD]
  | d :: ds, k, i + 1 => by
    show (enumD (k + 1) ds)[i]? = _
    rw [enumD_get ds (k + 1) i, Nat.add_right_comm, Nat.add_assoc]
    rfl
theorem enumD_length : ∀ (ds : List D) (k : Nat), (enumD k ds).length = ds.length
  | [], _ => rfl
  | d :: ds, k => by rw [enumD, List.length_cons, enumD_length ds, List.length_cons]
theorem jok_enum {K : PySem.W.Frag} {F : Hp} {a : Addr} {vs : List V} {ds : List D} (h : SqL K F a vs) (r : RelDs K F ds vs) : JOk K F (Ite K a) (enumD 0 ds) := by
  intro i F' Fr l H s R
  have q : SqL K H a vs := sqL_mono R.fz (sqL_mono s h)
  refine ⟨fun hi => ⟨vs, q, by rw [← r.length]; rw [enumD_length] at hi; exact hi⟩, fun d hd => ?_⟩
  rw [enumD_get] at hd
  cases e0 : ds[i]? with
  | none => rw [e0] at hd; cases hd
  | some d0 =>
    rw [e0] at hd
    cases hd
    obtain ⟨v, hv, rv⟩ := r.get e0
    refine ⟨⟨vs, v, q, hv⟩, fun x H' y => ?_⟩
    obtain ⟨T, x0, rfl, nT, rfl, y⟩ := y
    have e := y vs q
    rw [hv] at e
    cases e
    rw [Nat.zero_add]
    exact ⟨_, same_upd (R.F_none nT), relTup (R.F_none nT) (.cons (.int _) (.cons (rv.mono s) .nil)), R.laid nT _⟩
def iEnum (ta : DTA) : DTI := fun env l R => ta env l fun ds l1 => match ds with
  | [.lst xs] => R (enumD 0 xs) l1
  | [.scr ns] => R (enumD 0 (ns.map D.int)) l1
  | _ => False
theorem di_enum {p pos tpos : Pos} {elts : List Expr} {kk : Nat} (hg : Gl X "enumerate") (hm : X.mg "enumerate" = none) (ha : DA X [e] ta) (hs : starEach [e] X.env = [(false, eval e X.env)] := by rfl) : DI X (.Tuple elts kk tpos) (.Call (.Name "enumerate" p) [e] [] pos) (iEnum ta) := by
  refine ⟨?_⟩
  intro F Fr env l σ H R he hr ht
  refine (pi_enum hg hm paW hs).wi ?_
  refine (ha F Fr env l σ H _ he hr ht).mono fun vs H1 ⟨F1, ds, l1, s1, r1, R1, q1⟩ => ?_
  cases r1 with
  | nil => exact q1.elim
  | cons ra rr =>
    cases rr with
    | cons _ _ => cases ra <;> exact q1.elim
    | nil =>
      cases ra with
      | @scr p ns h1 => exact ⟨p, _, rfl, sqL_mono R1.fz h1, F1, l1, _, s1, R1, jok_enum h1 (relDs_ints ns), q1⟩
      | @lst p vs ds h1 rr => exact ⟨p, _, rfl, .inl (.inl (R1.fz _ _ h1)), F1, l1, _, s1, R1, jok_enum (.inl (.inl h1)) rr, q1⟩
      | _ => exact q1.elim
def zipD : List D → List D → List D
  | a :: as, b :: bs => .tup [a, b] :: zipD as bs
  | _, _ => []
theorem zipD_get : ∀ (as bs : List D) (i : Nat), (zipD as bs)[i]? = match as[i]?, bs[i]? with | some a, some b => some (D.tup [a, b]) | _, _ => none
  | [], bs, i => by simp [zipD]
  | a :: as, [], i => by
    simp only [zipD, List.getElem?_nil]
    split <;> simp_all
  | a :: as, b :: bs, 0 => by simp [zipD]
  | a :: as, b :: bs, i + 1 => by
    show (zipD as bs)[i]? = _
    rw [zipD_get as bs i]
    rfl
end
end DL

namespace DL
open PySem PySem.Spec PyProof.Rows L2

/-! ### comprehensions -/
theorem wipe_wipe (σ : St) (vs : List Nat) : L2.wipe (L2.wipe σ vs) vs = L2.wipe σ vs := by
  have key : ∀ us : List Nat, (∀ u ∈ us, u ∈ vs) → L2.wipe (L2.wipe σ us) vs = L2.wipe σ vs := by
    intro us
    induction us with
    | nil => exact fun _ => rfl
    | cons u us ih =>
      intro h
      show L2.wipe ((L2.wipe σ us).set u none) vs = _
      rw [wipe_set (h u List.mem_cons_self)]
      exact ih fun w hw => h w (List.mem_cons_of_mem _ hw)
  exact key vs fun _ h => h
def compL (g : DTG) (tt : DTT) (te : DTE) (vs : List Nat) : List D → DSt → LH → (List D → LH → Prop) → Prop
  | [], _, l, Q => Q [] l
  | d :: ds, env, l, Q => wipeK vs env fun env0 => g d env0 l fun env1 l1 => tt env1 l1 fun c l2 =>
      ifB c (te env1 l2 fun r l3 => compL g tt te vs ds env l3 fun rs l4 => Q (r :: rs) l4) (compL g tt te vs ds env l2 Q)
def tYes : DTT := fun _ l Q => Q true l
/-- ifs of a comprehension -/
def DTs (X : Cx) (ifs : List Expr) (t : DTT) : Prop := ∃ T : TT, PTs X ifs T ∧ ∀ F Fr env l σ H Q, RepE X.K F env σ → Rep X.K F Fr l H → t env l Q → T σ H (LB X.K F Fr Q)
theorem dts_nil {X : Cx} : DTs X [] tYes := ⟨_, pts_nil, fun F Fr env l σ H Q he hr ht => ⟨F, l, Same.refl F, hr, ht⟩⟩
theorem dts_one {X : Cx} {c : Expr} {t : DTT} (h : DT X c t) : DTs X [c] t := ⟨_, pts_one ptW, fun F Fr env l σ H Q he hr ht => h F Fr env l σ H Q he hr ht⟩
def WTs (X : Cx) (ifs : List Expr) : TT := fun σ H Q => ∀ pins s, Inv X pins σ H s → wpAny (model X.prog X.w) X.A (forIn ifs true fun c r => if r = true then do let ok ← isTrue c X.env (eval c X.env); pure (ForInStep.yield ok) else pure (ForInStep.yield r)) (TP X pins σ Q) X.xe s
section
variable {X : Cx}
theorem WTs.mono {ifs : List Expr} {σ : St} {H : Hp} {Q Q' : Bool → Hp → Prop} (w : WTs X ifs σ H Q) (h : ∀ v H, Q v H → Q' v H) : WTs X ifs σ H Q' := fun pins s I => thn (w pins s I) fun _ _ ⟨H, a, b⟩ => ⟨H, a, h _ _ b⟩
theorem DTs.w {ifs : List Expr} {t : DTT} (h : DTs X ifs t) : ∀ F Fr env l σ H Q, RepE X.K F env σ → Rep X.K F Fr l H → t env l Q → WTs X ifs σ H (LB X.K F Fr Q) := by
  obtain ⟨T, hT, h⟩ := h
  exact fun F Fr env l σ H Q he hr ht pins s I => hT.run pins s σ H _ I (h F Fr env l σ H Q he hr ht)
variable {elt tg iter : Expr} {ifs : List Expr} {scope : Scope} {own : List (Str × Nat)} {pos : Pos} {ti : DTI} {g : DTG} {tt : DTT} {te : DTE}
/-- the loop of a comprehension, its own readings given as the strongest ones in any block -/
theorem comp_core {F Fr : Hp} {env : DSt} {l : LH} {σ : St} {H : Hp} {Qf : List D → LH → Prop} {Qd : VK} {vs : List Nat} {G : TG} {TT' : TT} {TE' : TE} (he : RepE X.K F env σ) (hr : Rep X.K F Fr l H)
    (hi : DI X tg iter ti)
    (hg : ∀ F Fr env l σ H d v Q, RepE X.K F env σ → Rep X.K F Fr l H → RelD X.K F d v → g d env l Q → G v σ H (LG X.K F Fr vs σ Q))
    (hgm : ∀ v σ H Q Q', G v σ H Q → (∀ σ H, Q σ H → Q' σ H) → G v σ H Q')
    (ht : ∀ F Fr env l σ H Q, RepE X.K F env σ → Rep X.K F Fr l H → tt env l Q → TT' σ H (LB X.K F Fr Q))
    (htm : ∀ σ H Q Q', TT' σ H Q → (∀ b H, Q b H → Q' b H) → TT' σ H Q')
    (hE : ∀ F Fr env l σ H Q, RepE X.K F env σ → Rep X.K F Fr l H → te env l Q → TE' σ H (LK X.K F Fr Q))
    (hEm : ∀ σ H Q Q', TE' σ H Q → (∀ v H, Q v H → Q' v H) → TE' σ H Q')
    (hd : ∀ F' Fr' l' H' D acc vacc, Same F F' → Fr' = upd Fr D (.lst vacc) → Fr D = none → RelDs X.K F' acc vacc → Rep X.K F' Fr' l' H' → Qf acc l' → Qd (.ref D) H')
    (q : ti env l fun ds l1 => ds.length ≤ sizeLine ∧ compL g tt te vs ds env l1 Qf) : tLc (WI X tg iter) G TT' TE' vs σ H Qd := by
  refine (hi F Fr env l σ H _ he hr q).mono fun J H1 ⟨F1, l1, ds, s1, R1, jk, hz, q1⟩ => ?_
  intro p nD
  have nFr : Fr p = none := R1.Fr_none nD
  refine ⟨fun i m H => m = ds.length - i ∧ i ≤ ds.length ∧ ∃ F' l acc vacc, Same F1 F' ∧ Rep X.K F' (upd Fr p (.lst vacc)) l H ∧ RelDs X.K F' acc vacc ∧ acc.length ≤ i ∧ compL g tt te vs (ds.drop i) env l fun rs l' => Qf (acc ++ rs) l',
    ⟨_, rfl, Nat.zero_le _, F1, l1, [], [], Same.refl _, R1.take nD _, .nil, Nat.le_refl _, q1⟩, ?_⟩
  rintro i m H ⟨rfl, hi, F2, l2, acc, vacc, s2, R2, ra, hl, q2⟩
  obtain ⟨j1, j2⟩ := jk i F2 _ l2 H s2 R2
  by_cases hlt : i < ds.length
  · rw [List.drop_eq_getElem_cons hlt] at q2
    obtain ⟨go, y⟩ := j2 ds[i] (List.getElem?_eq_getElem hlt)
    refine .inr ⟨go, fun H => ∃ F' l acc vacc, Same F1 F' ∧ Rep X.K F' (upd Fr p (.lst vacc)) l H ∧ RelDs X.K F' acc vacc ∧ acc.length ≤ i + 1 ∧ compL g tt te vs (ds.drop (i + 1)) env l fun rs l' => Qf (acc ++ rs) l', fun H' h => ⟨_, by omega, rfl, hlt, h⟩, fun x H' hy => ?_⟩
    obtain ⟨F3, s3, rx, R3⟩ := y x H' hy
    replace q2 : wipeK vs env _ := q2
    rw [wipeK_eq] at q2
    have he3 : RepE X.K F3 (wipeE env vs) (L2.wipe σ vs) := (((he.mono s1).mono s2).mono s3).wipe vs
    refine hgm _ _ _ _ _ (hg F3 _ _ l2 _ H' _ _ _ he3 R3 rx q2) fun σ4 H4 ⟨w4, F4, env4, l4, s4, he4, R4, q4⟩ => ?_
    refine ⟨w4.trans (wipe_wipe σ vs), ?_⟩
    refine htm _ _ _ _ (ht F4 _ env4 l4 σ4 H4 _ he4 R4 q4) fun c H5 ⟨F5, l5, s5, R5, q5⟩ => ?_
    have S5 : Same F2 F5 := s3.trans (s4.trans s5)
    cases c with
    | false =>
      exact L2.iteF ⟨F5, l5, acc, vacc, s2.trans S5, R5, ra.mono S5, Nat.le_succ_of_le hl, ifB_F q5⟩
    | true =>
      refine L2.iteT (hEm _ _ _ _ (hE F5 _ env4 l5 σ4 H5 _ (he4.mono s5) R5 (ifB_T q5)) fun v H6 ⟨F6, d6, l6, s6, r6, R6, q6⟩ => ?_)
      have S6 : Same F2 F6 := S5.trans s6
      have ra6 := ra.mono S6
      refine ⟨vacc, R6.fr p _ upd_same, ?_, F6, l6, acc ++ [d6], vacc ++ [v], s2.trans S6, R6.turn _, ra6.append (.cons r6 .nil), ?_, ?_⟩
      · rw [← ra6.length]; omega
      · rw [List.length_append]; exact Nat.succ_le_succ hl
      · have e : (fun (rs : List D) l' => Qf (acc ++ [d6] ++ rs) l') = fun rs l' => Qf (acc ++ (d6 :: rs)) l' := by
          funext rs l'
          rw [List.append_assoc]
          rfl
        rw [e]
        exact q6
  · have e : i = ds.length := by omega
    subst e
    rw [List.drop_length] at q2
    replace q2 : Qf (acc ++ []) l2 := q2
    rw [List.append_nil] at q2
    exact .inl ⟨j1 (Nat.le_refl _), hd F2 _ l2 H p acc vacc (s1.trans s2) rfl nFr ra R2 q2⟩
def dLc (ti : DTI) (g : DTG) (tt : DTT) (te : DTE) (vs : List Nat) : DTE := fun env l Q => ti env l fun ds l1 => ds.length ≤ sizeLine ∧ compL g tt te vs ds env l1 fun rs l2 => Q (.lst rs) l2
theorem lc_end {F Fr F' Fr' : Hp} {l' : LH} {H' : Hp} {p : Addr} {acc : List D} {vacc : List V} {Q : DK} (s : Same F F') (e : Fr' = upd Fr p (.lst vacc)) (n : Fr p = none) (ra : RelDs X.K F' acc vacc) (R : Rep X.K F' Fr' l' H') (q : Q (.lst acc) l') : LK X.K F Fr Q (.ref p) H' := by
  subst e
  have nF : F' p = none := (R.fd p _ upd_same).1
  exact ⟨upd F' p (.lst vacc), .lst acc, l', s.trans (same_upd nF), relLst nF ra, R.give n, q⟩
section
variable (hc : X.calm = true) (hN : X.N.Nodup) (hi : DI X tg iter ti) (ok : BlkOk X.N X.env.scope scope own)
    (hg : ∀ (s : Shared) (H : Hp) (C : Addr) (cl : List (Str × Addr)) (fp : List Addr), DG (X.blk s H scope (compEnvC scope cl C X.env) fp) tg (own.map (·.2)) g)
    (ht : ∀ (s : Shared) (H : Hp) (C : Addr) (cl : List (Str × Addr)) (fp : List Addr), DTs (X.blk s H scope (compEnvC scope cl C X.env) fp) ifs tt)
    (he : ∀ (s : Shared) (H : Hp) (C : Addr) (cl : List (Str × Addr)) (fp : List Addr), DE (X.blk s H scope (compEnvC scope cl C X.env) fp) elt te)
include hi hg ht he
/-- the readings of the parts, whatever the block -/
def AG (X : Cx) (scope : Scope) (tg : Expr) : TG := fun v σ H Q => ∀ (s : Shared) (H0 : Hp) (C : Addr) (cl : List (Str × Addr)) (fp : List Addr), WG (X.blk s H0 scope (compEnvC scope cl C X.env) fp) tg v σ H Q
def AT (X : Cx) (scope : Scope) (ifs : List Expr) : TT := fun σ H Q => ∀ (s : Shared) (H0 : Hp) (C : Addr) (cl : List (Str × Addr)) (fp : List Addr), WTs (X.blk s H0 scope (compEnvC scope cl C X.env) fp) ifs σ H Q
def AE (X : Cx) (scope : Scope) (elt : Expr) : TE := fun σ H Q => ∀ (s : Shared) (H0 : Hp) (C : Addr) (cl : List (Str × Addr)) (fp : List Addr), WE (X.blk s H0 scope (compEnvC scope cl C X.env) fp) elt σ H Q
theorem comp_any {F Fr : Hp} {env : DSt} {l : LH} {σ : St} {H : Hp} {Qf : List D → LH → Prop} {Qd : VK} (hE : RepE X.K F env σ) (hr : Rep X.K F Fr l H)
    (hd : ∀ F' Fr' l' H' D acc vacc, Same F F' → Fr' = upd Fr D (.lst vacc) → Fr D = none → RelDs X.K F' acc vacc → Rep X.K F' Fr' l' H' → Qf acc l' → Qd (.ref D) H')
    (q : ti env l fun ds l1 => ds.length ≤ sizeLine ∧ compL g tt te (own.map (·.2)) ds env l1 Qf) : tLc (WI X tg iter) (AG X scope tg) (AT X scope ifs) (AE X scope elt) (own.map (·.2)) σ H Qd :=
  comp_core hE hr hi (fun F Fr env l σ H d v Q a b c d' s H0 C cl fp => hg s H0 C cl fp F Fr env l σ H d v Q a b c d') (fun v σ H Q Q' w h s H0 C cl fp => (w s H0 C cl fp).mono h)
    (fun F Fr env l σ H Q a b c s H0 C cl fp => (ht s H0 C cl fp).w F Fr env l σ H Q a b c) (fun σ H Q Q' w h s H0 C cl fp => (w s H0 C cl fp).mono h)
    (fun F Fr env l σ H Q a b c s H0 C cl fp => he s H0 C cl fp F Fr env l σ H Q a b c) (fun σ H Q Q' w h s H0 C cl fp => (w s H0 C cl fp).mono h) hd q
include hc hN ok
theorem de_lc (hs : ∀ x, foldedSetIterable iter X.env x = pure x := by intro _; rfl) : DE X (.ListComp elt [⟨tg, iter, ifs, 0⟩] scope pos) (dLc ti g tt te (own.map (·.2))) := by
  refine ⟨?_⟩
  intro F Fr env l σ H Q hE hr q
  refine (pe_lc (g := AG X scope tg) (tt := AT X scope ifs) (te := AE X scope elt) hc hN piW ok (fun s H0 C cl fp => ⟨fun pins s' σ' H' v u Q' I r h => h s H0 C cl fp pins s' u I r⟩) (fun s H0 C cl fp => ⟨fun pins s' σ' H' Q' I h => h s H0 C cl fp pins s' I⟩) (fun s H0 C cl fp => ⟨fun pins s' σ' H' Q' I h => h s H0 C cl fp pins s' I⟩) hs).we ?_
  exact comp_any hi hg ht he hE hr (fun F' Fr' l' H' p acc vacc s e n ra R q => lc_end s e n ra R q) q
/-- y = [..] of a plain local name, on one line -/
theorem ds_setLc {i : Nat} {y : Str} {py spos : Pos} (hy : X.N[i]? = some y) (hyl : X.env.scope.names.lookup y = some .local) (hsw : swapsWith (.ListComp elt [⟨tg, iter, ifs, 0⟩] scope pos) (some (.Name y py)) spos.line X.env = pure true)
    (hs : ∀ x, foldedSetIterable iter X.env x = pure x := by intro _; rfl) : DS X (.Assign [.Name y py] (.ListComp elt [⟨tg, iter, ifs, 0⟩] scope pos) spos) (sSet i (dLc ti g tt te (own.map (·.2)))) := by
  refine ⟨?_⟩
  intro F Fr env l σ H E hE hr q
  refine (ps_setLc (g := AG X scope tg) (tt := AT X scope ifs) (te := AE X scope elt) hc hN hy hyl hsw piW ok (fun s H0 C cl fp => ⟨fun pins s' σ' H' v u Q' I r h => h s H0 C cl fp pins s' u I r⟩) (fun s H0 C cl fp => ⟨fun pins s' σ' H' Q' I h => h s H0 C cl fp pins s' I⟩) (fun s H0 C cl fp => ⟨fun pins s' σ' H' Q' I h => h s H0 C cl fp pins s' I⟩) hs).ws ?_
  refine comp_any hi hg ht he hE hr (fun F' Fr' l' H' p acc vacc s e n ra R q => ?_) q
  obtain ⟨F2, d, l2, s2, r2, R2, q2⟩ := lc_end (Q := fun d l1 => setK env i d fun env' => E.nx env' l1) s e n ra R q
  rw [setK_eq] at q2
  exact ⟨F2, _, l2, s2, (hE.mono s2).set r2 i, R2, q2⟩
end
end

/-! ### defs -/
abbrev DSp := List D → LH → DK → Prop
def spOf (K : PySem.W.Frag) (dsp : DSp) : Sp := fun vs H Q _ => ∃ F Fr ds l Qd, RelDs K F ds vs ∧ Rep K F Fr l H ∧ dsp ds l Qd ∧ ∀ v H', LK K F Fr Qd v H' → Q v H'
/-- what a def's body makes of the arguments -/
def fnD (tb : DTS) (np nl : Nat) : DSp := fun ds l Q => ds.length = np ∧ tb ⟨fun _ l => Q .non l, Q, fun _ _ => False, fun _ _ => False⟩ (ds.map some ++ List.replicate nl none) l
/-- a call: not looked into -/
structure callD (sp : DSp) (ds : List D) (l : LH) (Q : DK) : Prop where
  run : sp ds l Q
def dDef (sp : DSp) (t : DTA) : DTE := fun env l Q => t env l fun ds l1 => callD sp ds l1 Q
section
variable {X : Cx} {e : Expr} {es : List Expr} {t : DTA} {pos p : Pos} {x : Str}
/-- a def keeps its reading, called where no repr is under way -/
structure FnG (P : Program) (w : World) (K : PySem.W.Frag) (mg : Str → Option Value) (base : Heap) (k : Nat) (f : Addr) (fd : FuncData) (ps : List Str) (dsp : DSp) : Prop where
  len : ∀ ds l Q, dsp ds l Q → ds.length = ps.length
  run : ∀ (A : Around) (outer : List Env) (s : Shared) (H : Hp) (args : Args) (us : List Value) (vs : List V) (Q : VK) (E : XK), Room k A → A.guards = some [] → Env0 P w K mg base A outer s H → BindsTo s fd args (ps.zip us) → Vals vs us → spOf K dsp vs H Q E →
    codeAny (model P w) A (.call (.ref f) args) (CR CX0 outer P w H s Q E) s
theorem FnG.mono {P : Program} {w : World} {K : PySem.W.Frag} {mg : Str → Option Value} {base : Heap} {j k : Nat} {f : Addr} {fd : FuncData} {ps : List Str} {dsp : DSp} (G : FnG P w K mg base j f fd ps dsp) (h : j ≤ k) : FnG P w K mg base k f fd ps dsp :=
  ⟨G.len, fun A outer s H args us vs Q E hr => G.run A outer s H args us vs Q E (hr.mono h)⟩
theorem FnG.imp {P : Program} {w : World} {K : PySem.W.Frag} {mg : Str → Option Value} {base : Heap} {k : Nat} {f : Addr} {fd : FuncData} {ps : List Str} {dsp dsp' : DSp} (G : FnG P w K mg base k f fd ps dsp) (h : ∀ ds l Q, dsp' ds l Q → dsp ds l Q) : FnG P w K mg base k f fd ps dsp' :=
  ⟨fun ds l Q q => G.len ds l Q (h _ _ _ q), fun A outer s H args us vs Q E hr hg e hb r ⟨F, Fr, ds, l, Qd, a, b, c, d⟩ => G.run A outer s H args us vs Q E hr hg e hb r ⟨F, Fr, ds, l, Qd, a, b, h _ _ _ c, d⟩⟩
theorem de_call {k : Nat} {f : Addr} {fd : FuncData} {ps : List Str} {dsp : DSp} (G : FnG X.prog X.w X.K X.mg X.base k f fd ps dsp) (hr : Room k X.A) (hgd : X.A.guards = some []) (hg : Gl X x) (hm : X.mg x = some (.ref f)) (hk : PySem.W.keepIn X.K (.ref f) = true) (hb : Binds X.K fd ps []) (ha : DA X (e :: es) t)
    (hdb : (x == ("__debug__" : Str)) = false := by decide) (he : starEach (e :: es) X.env = (false, eval e X.env) :: starEach es X.env := by rfl) (hpl : (backTo pos (starEach es X.env)).any (·.1) = false := by rfl) : DE X (.Call (.Name x p) (e :: es) [] pos) (dDef dsp t) := by
  refine ⟨?_⟩
  intro F Fr env l σ H Q hE hR ht pins s I
  refine wpAny_Call_Name_kw (ld_glob I hg hm ?_ hdb)
  refine PySem.W.callWith_K (h₀ := X.base) I.ok.mod.kin hk (thn (ha F Fr env l σ H _ hE hR ht pos pins s I) fun us s1 ⟨vs, H1, I1, r, F1, ds, l1, s1', r1, R1, q1⟩ => ⟨I1.kIn, ?_⟩) he hpl
  have hsp : spOf X.K dsp vs H1 (LK X.K F Fr Q) E0 := ⟨F1, Fr, ds, l1, Q, r1, R1, q1.run, fun v H' q => q.weak s1'⟩
  have hl : (us ++ []).length = ps.length := by rw [List.append_nil, ← r.length, ← r1.length]; exact G.len _ _ _ q1.run
  have hbd := hb s1 us I1.kIn hl
  rw [List.append_nil] at hbd
  refine wpAny_call (codeAny_mono (G.run X.A X.stack s1 H1 ⟨us, []⟩ us vs _ E0 hr hgd I1.env0 hbd r hsp) fun res s' hq => ?_)
  cases res with
  | error _ => exact hq.elim
  | ok fl =>
    cases fl with
    | ret u => exact I1.after hq
    | next => exact hq.elim
    | brk => exact hq.elim
    | cont => exact hq.elim
theorem fn_ok {P : Program} {w : World} {K : PySem.W.Frag} {mg : Str → Option Value} {base : Heap} {x qual : Str} {st : Stmt} {f : Addr} {fd : FuncData} {N ps : List Str} {k nl : Nat} {tb : DTS} (G : Fun K x qual st f fd) (S : FnScope N ps (defScope st)) (hn : nl = N.length - ps.length)
    (hb : ∀ (cdv : Value) (A : Around) (outer : List Env) (s : Shared) (H : Hp) (E : XK), Room k (A.deeper (envOfC qual (defScope st) s.heap.objs.size f cdv)) → (A.deeper (envOfC qual (defScope st) s.heap.objs.size f cdv)).guards = some [] → DSs (cxOf CX0 P w K mg base N qual (defScope st) f cdv A outer s H E).nox (defBody st) tb) :
    FnG P w K mg base (k + 1) f fd ps (fnD tb ps.length nl) := by
  obtain ⟨oc, od, kV, doc, pm, an, cdv, ct, osl, rfl, lk, hcd⟩ := G.ex
  refine ⟨fun ds l Q h => h.1, fun A outer s H args us vs Q E hr hgd e0 hbd r hsp => ?_⟩
  obtain ⟨F, Fr, ds, l, Qd, rd, R, ⟨h1, q⟩, hq⟩ := hsp
  have hlen : vs.length = ps.length := by rw [← rd.length, h1]
  have inK : K.In s.heap := e0.mod.kin.keeps fun b o e => (e0.bs b o e).1
  have hlim : s.heap.NoLimit := e0.mod.nolimit.keeps fun b o e => (e0.bs b o e).1
  have kinds : ∀ y ∈ ps.zip us, (defScope st).names.lookup y.1 = some .local ∨ ((defScope st).names.lookup y.1 = some .cell ∧ ((cellsFrom (s.heap.objs.size + 1) (defScope st).names []).lookup y.1).isSome = true) := by
    rintro ⟨n, v⟩ hy
    exact (S.par n (List.of_mem_zip hy).1).imp id fun q => ⟨q, PySem.W.cellsFrom_some _ _ _ (.inl q)⟩
  refine codeAny_call_function hr.depth (inK _ _ lk) rfl S.co S.gen rfl (PySem.W.codeRec_of inK hcd) (hbd _ _ _ _ (wpAny_newFunctionEnv_cells S.kind kinds fun env he s1 ic => ?_))
  subst he
  refine ⟨hlim.keeps ic.toInCall.keep, codeAny_func ?_⟩
  have I : Inv (cxOf CX0 P w K mg base N qual (defScope st) f cdv A outer s H E) [] (start N vs) H s1 := inv_start S hr.hd e0 hlen r ic
  have est : L2.start N vs = vs.map some ++ List.replicate nl none := by
    unfold L2.start
    rw [hn, hlen]
  have body : WSs (cxOf CX0 P w K mg base N qual (defScope st) f cdv A outer s H E).nox (defBody st) (LE K F Fr ⟨fun _ l => Qd .non l, Qd, fun _ _ => False, fun _ _ => False⟩) (L2.start N vs) H := by
    rw [est]
    exact hb cdv A outer s H E (hr.deeper _) hgd F Fr _ l _ H _ (RepE.start rd nl) R q
  refine thn (pssW.nox.run [] s1 _ H _ I body) fun fl s' hs => ?_
  have fin : ∀ {σ' : St} {H' : Hp} {v : V} {u : Value}, Inv (cxOf CX0 P w K mg base N qual (defScope st) f cdv A outer s H E) [] σ' H' s' → RelV v u → Q v H' → CE outer P w H s Q u s' := fun J rv q => ⟨_, _, J.os, J.bare, J.base, J.hok, rv, q⟩
  cases fl with
  | ret u => obtain ⟨v, σ', H', J, rv, q⟩ := hs; exact fin J rv (hq v H' q)
  | next =>
    obtain ⟨σ', H', J, F', e', l', s', re, R', q⟩ := hs
    exact fin (v := .non) (u := .none) J rfl (hq .non H' ⟨F', .non, l', s', .non, R', q⟩)
  | brk => obtain ⟨σ', H', J, F', e', l', s', re, R', q⟩ := hs; exact q.elim
  | cont => obtain ⟨σ', H', J, F', e', l', s', re, R', q⟩ := hs; exact q.elim
end

/-! ### methods of a list that may be written -/
section
variable {X : Cx} {o e : Expr} {es : List Expr} {to : DTE} {t : DTA}
def atRef (x : D) (l : LH) (k : Addr → Prop) : Prop := match x with
  | .ref a => getO l a fun u => match u with | .lst _ => k a | _ => False
  | _ => False
def KMt (X : Cx) (r : V → List V → Hp → VK → Prop) (k : Addr → List D → LH → DK → Prop) : Prop := ∀ F Fr l H Q a ds vs (Q' : VK), Rep X.K F Fr l H → RelDs X.K F ds vs → (∀ v H, LK X.K F Fr Q v H → Q' v H) → k a ds l Q → r (.ref a) vs H Q'
def dMt0 (k : Addr → List D → LH → DK → Prop) (to : DTE) : DTE := fun env l Q => to env l fun x l1 => atRef x l1 fun a => k a [] l1 Q
def dMt (k : Addr → List D → LH → DK → Prop) (to : DTE) (t : DTA) : DTE := fun env l Q => to env l fun x l1 => atRef x l1 fun a => t env l1 fun ds l2 => k a ds l2 Q
theorem atRef_ok {K : PySem.W.Frag} {F Fr H : Hp} {l : LH} {d : D} {v : V} {k : Addr → Prop} (R : Rep K F Fr l H) (r : RelD K F d v) (q : atRef d l k) : ∃ a, v = .ref a ∧ k a ∧ tyV K "list" (.ref a) H := by
  cases r with
  | ref a =>
    obtain ⟨u, ho, q⟩ := q
    cases u with
    | lst ds =>
      obtain ⟨vs, r1, h1⟩ := (R.lv _ _ ho).2
      exact ⟨a, rfl, q, .inl ⟨rfl, vs, .inl (.inl h1)⟩⟩
    | _ => exact q.elim
  | _ => exact q.elim
theorem de_mt0 {name : Str} {id : String} {r : V → List V → Hp → VK → Prop} {k : Addr → List D → LH → DK → Prop} {apos cpos : Pos} (slot : Slot "list" name id) (hty : typeOf (.builtin id) = pure (.type "method_descriptor")) (hm : MtR X id r) (hk : KMt X r k) (ho : DE X o to)
    (hbase : attributeBase o name X.env (eval o X.env) = eval o X.env := by rfl) (hline : (apos.endLine == cpos.line) = true := by rfl) : DE X (.Call (.Attribute o name apos) [] [] cpos) (dMt0 k to) := by
  refine ⟨?_⟩
  intro F Fr env l σ H Q hE hR ht
  refine (pe_bm0 PySem.F.plainAttrs_list slot hty hm peW hbase hline).we ?_
  refine (ho F Fr env l σ H _ hE hR ht).mono fun x H1 ⟨F1, d, l1, s1, r1, R1, q1⟩ => ?_
  obtain ⟨a, rfl, q2, ty⟩ := atRef_ok R1 r1 q1
  exact ⟨ty, hk F1 Fr l1 H1 Q a [] [] _ R1 .nil (fun _ _ q => q.weak s1) q2⟩
theorem de_mt {name : Str} {id : String} {r : V → List V → Hp → VK → Prop} {k : Addr → List D → LH → DK → Prop} {apos cpos : Pos} (slot : Slot "list" name id) (hty : typeOf (.builtin id) = pure (.type "method_descriptor")) (hm : MtR X id r) (hk : KMt X r k) (ho : DE X o to) (ha : DA X (e :: es) t)
    (hbase : attributeBase o name X.env (eval o X.env) = eval o X.env := by rfl)
    (hfew : ((backTo cpos (starEach (e :: es) X.env)).all (fun x => !x.1) && (backToKw cpos (keywordEach [] X.env)).all (fun x => x.1.isSome)
      && decide ((e :: es).length + ([] : List Keyword).length + (if ([] : List Keyword).isEmpty then 0 else 1) < 30)) = true := by rfl)
    (hline : (apos.endLine == cpos.line) = true := by rfl) (hs : starEach (e :: es) X.env = (false, eval e X.env) :: starEach es X.env := by rfl) (hplain : (backTo cpos (starEach es X.env)).any (·.1) = false := by rfl) :
    DE X (.Call (.Attribute o name apos) (e :: es) [] cpos) (dMt k to t) := by
  refine ⟨?_⟩
  intro F Fr env l σ H Q hE hR ht
  refine (pe_bm PySem.F.plainAttrs_list slot hty hm peW paW hbase hfew hline hs hplain).we ?_
  refine (ho F Fr env l σ H _ hE hR ht).mono fun x H1 ⟨F1, d, l1, s1, r1, R1, q1⟩ => ?_
  obtain ⟨a, rfl, q2, ty⟩ := atRef_ok R1 r1 q1
  refine ⟨ty, ?_⟩
  refine (ha F1 Fr env l1 σ H1 _ (hE.mono s1) R1 q2).mono fun vs H2 ⟨F2, ds, l2, s2, r2, R2, q3⟩ => ?_
  exact hk F2 Fr l2 H2 Q a ds vs _ R2 r2 (fun _ _ q => q.weak (s1.trans s2)) q3
theorem LK.wr {K : PySem.W.Frag} {F Fr H : Hp} {l : LH} {Q : DK} {a : Addr} {o : DO} {ds : List D} {vs : List V} (R : Rep K F Fr l H) (h : l a = some o) (nf : isFz o = false) (r : RelDs K F ds vs) {d : D} {v : V} (rd : RelD K F d v) (q : Q d (uL l a (.lst ds))) : LK K F Fr Q v (upd H a (.lst vs)) :=
  ⟨F, d, _, Same.refl F, rd, R.write h nf (show DOk K F _ a (.lst ds) from ⟨vs, r, upd_same⟩), q⟩
def kAppend : Addr → List D → LH → DK → Prop := fun a ds l Q => match ds with
  | [d] => getO l a fun u => match u with | .lst xs => xs.length < sizeLine ∧ Q .non (uL l a (.lst (xs ++ [d]))) | _ => False
  | _ => False
theorem kAppend_ok : KMt X rAppend kAppend := by
  intro F Fr l H Q a ds vs Q' R rd hq q
  cases rd with
  | nil => exact q.elim
  | cons r1 rr =>
    cases rr with
    | cons _ _ => exact q.elim
    | nil =>
      obtain ⟨u, ho, q⟩ := q
      cases u with
      | lst xs =>
        obtain ⟨ws, rw', h1⟩ := (R.lv _ _ ho).2
        exact ⟨a, ws, _, rfl, rfl, h1, by rw [← rw'.length]; exact q.1, hq _ _ (LK.wr R ho rfl (rw'.append (.cons r1 .nil)) .non q.2)⟩
      | _ => exact q.elim
def kPop : Addr → List D → LH → DK → Prop := fun a ds l Q => match ds with
  | [] => getO l a fun u => match u with | .lst xs => ∃ d, xs[xs.length - 1]? = some d ∧ Q d (uL l a (.lst xs.dropLast)) | _ => False
  | _ => False
theorem RelDs.dropLast {K : PySem.W.Frag} {F : Hp} {ds : List D} {vs : List V} (r : RelDs K F ds vs) : RelDs K F ds.dropLast vs.dropLast := by
  rw [List.dropLast_eq_take, List.dropLast_eq_take, r.length]
  exact r.take _
theorem kPop_ok : KMt X rPop kPop := by
  intro F Fr l H Q a ds vs Q' R rd hq q
  cases rd with
  | cons _ _ => exact q.elim
  | nil =>
    obtain ⟨u, ho, q⟩ := q
    cases u with
    | lst xs =>
      obtain ⟨ws, rw', h1⟩ := (R.lv _ _ ho).2
      obtain ⟨d, hd, q⟩ := q
      obtain ⟨v, hv, rv⟩ := rw'.get hd
      rw [rw'.length] at hv
      exact ⟨a, ws, v, rfl, rfl, h1, hv, hq _ _ (LK.wr R ho rfl rw'.dropLast rv q)⟩
    | _ => exact q.elim
def kExtend : Addr → List D → LH → DK → Prop := fun a ds l Q => match ds with
  | [.lst ys] => getO l a fun u => match u with | .lst xs => xs.length + ys.length ≤ sizeLine ∧ Q .non (uL l a (.lst (xs ++ ys))) | _ => False
  | _ => False
theorem kExtend_ok : KMt X rExtend kExtend := by
  intro F Fr l H Q a ds vs Q' R rd hq q
  cases rd with
  | nil => exact q.elim
  | cons r1 rr =>
    cases rr with
    | cons _ _ => cases r1 <;> exact q.elim
    | nil =>
      cases r1 with
      | @lst p ys es h2 r2 =>
        obtain ⟨u, ho, q⟩ := q
        cases u with
        | lst xs =>
          obtain ⟨ws, rw', h1⟩ := (R.lv _ _ ho).2
          exact ⟨a, p, ws, _, rfl, rfl, h1, R.fz _ _ h2, by rw [← rw'.length, ← r2.length]; exact q.1, hq _ _ (LK.wr R ho rfl (rw'.append r2) .non q.2)⟩
        | _ => exact q.elim
      | _ => exact q.elim
theorem de_append {apos cpos : Pos} (ho : DE X o to) (h : DE X e te) (hbase : attributeBase o "append" X.env (eval o X.env) = eval o X.env := by rfl) (hline : (apos.endLine == cpos.line) = true := by rfl) (hs : starEach [e] X.env = (false, eval e X.env) :: starEach [] X.env := by rfl)
    (hfew : ((backTo cpos (starEach [e] X.env)).all (fun x => !x.1) && (backToKw cpos (keywordEach [] X.env)).all (fun x => x.1.isSome)
      && decide (([e] : List Expr).length + ([] : List Keyword).length + (if ([] : List Keyword).isEmpty then 0 else 1) < 30)) = true := by rfl) : DE X (.Call (.Attribute o "append" apos) [e] [] cpos) (dMt kAppend to (aCons te aNil)) :=
  de_mt PySem.F.slot_list_append PySem.F.type_list_append mt_append kAppend_ok ho (da_cons h da_nil hs) hbase hfew hline hs
/-- what may be written is given out as what is never written any more -/
def frzK (d : D) (l : LH) (Q : DK) : Prop := match d with
  | .ref a => getO l a fun u => match u with | .lst ds => Q (.lst ds) (dL l a) | _ => False
  | d => Q d l
def dFrz (te : DTE) : DTE := fun env l Q => te env l fun d l1 => frzK d l1 Q
theorem de_frz (h : DE X e te) : DE X e (dFrz te) := by
  refine ⟨?_⟩
  intro F Fr env l σ H Q hE hR ht
  refine (h F Fr env l σ H _ hE hR ht).mono fun x H1 ⟨F1, d, l1, s1, r1, R1, q1⟩ => ?_
  cases r1 with
  | ref a =>
    obtain ⟨u, ho, q⟩ := q1
    cases u with
    | lst ds =>
      obtain ⟨vs, rr, h1⟩ := (R1.lv _ _ ho).2
      have n := (R1.lv _ _ ho).1 rfl
      exact ⟨upd F1 a (.lst vs), .lst ds, _, s1.trans (same_upd n), relLst n rr, R1.freeze ho rfl h1, q⟩
    | _ => exact q.elim
  | non => exact ⟨F1, _, l1, s1, .non, R1, q1⟩
  | bl b => exact ⟨F1, _, l1, s1, .bl b, R1, q1⟩
  | int b => exact ⟨F1, _, l1, s1, .int b, R1, q1⟩
  | str b => exact ⟨F1, _, l1, s1, .str b, R1, q1⟩
  | tup a b => exact ⟨F1, _, l1, s1, .tup a b, R1, q1⟩
  | scr a => exact ⟨F1, _, l1, s1, .scr a, R1, q1⟩
  | lst a b => exact ⟨F1, _, l1, s1, .lst a b, R1, q1⟩
  | dT a b c => exact ⟨F1, _, l1, s1, .dT a b c, R1, q1⟩
  | dK a b c => exact ⟨F1, _, l1, s1, .dK a b c, R1, q1⟩
  | exc a b => exact ⟨F1, _, l1, s1, .exc a b, R1, q1⟩
  | exc1 a b c d => exact ⟨F1, _, l1, s1, .exc1 a b c d, R1, q1⟩
  | kt a b c d => exact ⟨F1, _, l1, s1, .kt a b c d, R1, q1⟩
end
end DL

namespace DL
open PySem PySem.Spec PyProof.Rows L2
/-- a place where a reading stands still -/
structure Stop (p : Prop) : Prop where
  run : p
def nS (t : DTS) : DTS := fun E env l => Stop (t E env l)
def nE (t : DTE) : DTE := fun env l Q => Stop (t env l Q)
theorem dss_nS {X : Cx} {b : List Stmt} {t : DTS} (h : DSs X b t) : DSs X b (nS t) := ⟨fun F Fr env l σ H E he hr ht => h F Fr env l σ H E he hr ht.run⟩
theorem de_nE {X : Cx} {e : Expr} {t : DTE} (h : DE X e t) : DE X e (nE t) := ⟨fun F Fr env l σ H Q he hr ht => h F Fr env l σ H Q he hr ht.run⟩
section
variable {X : Cx} {pos : Pos}
def kAdd2 : D → D → LH → DK → Prop := fun x y l Q => match x, y with
  | .int i, .int j => Q (.int (i + j)) l
  | .str i, .str j => i.length + j.length ≤ sizeLine ∧ Q (.str (i ++ j)) l
  | _, _ => False
def rAdd2 : R2 := fun x y H Q => rI0 (fun i j => .int (i + j)) x y H Q ∨ ∃ i j, x = .str i ∧ y = .str j ∧ i.length + j.length ≤ sizeLine ∧ Q (.str (i ++ j)) H
theorem iop_add2 : PIp X .Add rAdd2 := fun pins s σ H x y v u Q I rx ry q => (iop_add.or iop_add_str) pins s σ H x y v u Q I rx ry q
theorem kAdd2_ok : KOp X rAdd2 kAdd2 := by
  intro F Fr l H Q d e v u Q' R rd re hq q
  cases rd with
  | int i =>
    cases re <;> try exact q.elim
    exact .inl ⟨_, _, rfl, rfl, hq _ _ (LK.mk (.int _) R q)⟩
  | str i =>
    cases re <;> try exact q.elim
    exact .inr ⟨_, _, rfl, rfl, q.1, hq _ _ (LK.mk (.str _) R q.2)⟩
  | _ => exact q.elim
end
end DL

namespace DL
open PySem PySem.Spec PyProof.Rows L2
theorem mulL {i j : Int} (h1 : -(2 ^ 64) < i) (h2 : i < 2 ^ 64) : IntMulOk i j := CMul.ok (.inl ⟨h1, h2⟩)
theorem mulR {i j : Int} (h1 : -(2 ^ 64) < j) (h2 : j < 2 ^ 64) : IntMulOk i j := CMul.ok (.inr ⟨h1, h2⟩)
theorem b01 (b : Bool) : (0 : Int) ≤ (if b = true then (1 : Int) else 0) ∧ (if b = true then (1 : Int) else 0) ≤ 1 := by cases b <;> decide
theorem atI_ints {ns : List Int} {k : Int} (h0 : 0 ≤ k) (h1 : k < ns.length) : ∃ c, atI (ns.map D.int) k = some (D.int c) ∧ atI ns k = some c := by
  obtain ⟨j, rfl⟩ := Int.eq_ofNat_of_zero_le h0
  have hl : j < ns.length := by omega
  exact ⟨ns[j], atI_nat (by rw [List.getElem?_map, List.getElem?_eq_getElem hl]; rfl), atI_nat (List.getElem?_eq_getElem hl)⟩
/-- what a box holds: drawn from behind at most k draws -/
def BoxO (o : DO) (k : Nat) : Prop := ∃ c0 c1 c2 : Int, o = .lst [.int c0, .int c1, .int c2] ∧ 0 ≤ c0 ∧ 0 ≤ c1 ∧ c1 < 2147483647 ∧ 0 ≤ c2 ∧ c2 ≤ k
def Box (l : LH) (a : Addr) (k : Nat) : Prop := ∃ o, l a = some o ∧ BoxO o k
def Oth (l l' : LH) (a : Addr) : Prop := ∀ b, b ≠ a → l' b = l b
theorem Oth.refl {l : LH} {a : Addr} : Oth l l a := fun _ _ => rfl
theorem Oth.trans {l l1 l2 : LH} {a : Addr} (h : Oth l l1 a) (h' : Oth l1 l2 a) : Oth l l2 a := fun b n => (h' b n).trans (h b n)
theorem Oth.upd {l : LH} {a : Addr} {o : DO} : Oth l (uL l a o) a := fun b n => uL_ne n
theorem Box.new {l : LH} {a : Addr} {c0 c1 : Int} (h0 : 0 ≤ c0) (h1 : 0 ≤ c1) (h2 : c1 < 2147483647) : Box (uL l a (.lst [.int c0, .int c1, .int 0])) a 0 := ⟨_, uL_same, c0, c1, 0, rfl, h0, h1, h2, Int.le_refl _, Int.le_refl _⟩

/-! data alike -/
def okN (n : Nat) (d : D) : Prop := (toPy d).canLay0 = true ∧ (toPy d).depth ≤ n
theorem okN.ok {n : Nat} {d : D} (h : okN n d) (hn : n ≤ 64 := by decide) : okD d := by
  unfold okD SeqAt.shaped
  rw [h.1, decide_eq_true (Nat.le_trans h.2 hn)]
  rfl
theorem okN.mono {n m : Nat} {d : D} (h : okN n d) (hm : n ≤ m) : okN m d := ⟨h.1, Nat.le_trans h.2 hm⟩
theorem okN_int (i : Int) : okN 0 (.int i) := ⟨by rw [toPy, PyData.canLay0], by rw [toPy, PyData.depth]; exact Nat.le_refl _⟩
theorem okN_bl (i : Bool) : okN 0 (.bl i) := ⟨by rw [toPy, PyData.canLay0], by rw [toPy, PyData.depth]; exact Nat.le_refl _⟩
theorem okN_non : okN 0 .non := ⟨by rw [toPy, PyData.canLay0], by rw [toPy, PyData.depth]; exact Nat.le_refl _⟩
theorem okN_all {n : Nat} : ∀ {ds : List D}, (∀ d ∈ ds, okN n d) → PyData.canLayAll0 (toPys ds) = true ∧ PyData.depthAll (toPys ds) ≤ n
  | [], _ => ⟨by rw [toPys, PyData.canLayAll0], by rw [toPys, PyData.depthAll]; exact Nat.zero_le _⟩
  | d :: ds, h => by
    obtain ⟨h1, h2⟩ := okN_all (ds := ds) fun e he => h e (List.mem_cons_of_mem _ he)
    obtain ⟨h3, h4⟩ := h d List.mem_cons_self
    exact ⟨by rw [toPys, PyData.canLayAll0, h3, h1]; rfl, by rw [toPys, PyData.depthAll]; exact Nat.max_le.mpr ⟨h4, h2⟩⟩
theorem okN_tup {n : Nat} {ds : List D} (h : ∀ d ∈ ds, okN n d) : okN (n + 1) (.tup ds) := by
  obtain ⟨h1, h2⟩ := okN_all h
  exact ⟨by rw [toPy, PyData.canLay0, h1], by rw [toPy, PyData.depth]; exact Nat.succ_le_succ h2⟩
theorem okN_lst {n : Nat} {ds : List D} (h : ∀ d ∈ ds, okN n d) : okN (n + 1) (.lst ds) := by
  obtain ⟨h1, h2⟩ := okN_all h
  exact ⟨by rw [toPy, PyData.canLay0, h1], by rw [toPy, PyData.depth]; exact Nat.succ_le_succ h2⟩
theorem okN_tints (ns : List Int) : okN 1 (.tup (ns.map D.int)) := okN_tup fun d hd => by
  obtain ⟨i, _, rfl⟩ := List.mem_map.mp hd
  exact okN_int i
theorem eqD_refl {n : Nat} {d : D} (h : okN n d) : eqD d d = true := SeqAt.eqv_refl _ h.1
theorem eqvs_ints : ∀ ns ms : List Int, PyData.eqvAll (toPys (ns.map D.int)) (toPys (ms.map D.int)) = decide (ns = ms)
  | [], [] => by simp [toPys, PyData.eqvAll]
  | [], _ :: _ => by simp [toPys, PyData.eqvAll]
  | _ :: _, [] => by simp [toPys, PyData.eqvAll]
  | n :: ns, m :: ms => by
    have ih := eqvs_ints ns ms
    simp only [List.map_cons, toPys, toPy, PyData.eqvAll, PyData.eqv, ih]
    by_cases e : n = m
    · subst e; simp
    · simp [e]
theorem eqD_tints (ns ms : List Int) : eqD (.tup (ns.map D.int)) (.tup (ms.map D.int)) = decide (ns = ms) := by
  unfold eqD
  rw [toPy, toPy, PyData.eqv, eqvs_ints]
theorem eqD_int (i j : Int) : eqD (.int i) (.int j) = decide (i = j) := by
  unfold eqD
  rw [toPy, toPy, PyData.eqv, Bool.beq_eq_decide_eq]
theorem small {n : Nat} (h : n ≤ 100000) : n ≤ sizeLine := Nat.le_trans h (by decide)

/-! comprehensions that draw nothing and write nothing -/
def E0 (Q : DK) : DEnds := ⟨fun _ l => Q .non l, Q, fun _ _ => False, fun _ _ => False⟩
/-- a word handed as a tuple or as a list -/
def Hd (x : D) (ws : List Int) : Prop := x = .tup (ws.map D.int) ∨ x = .lst (ws.map D.int)
theorem Hd.t (ws : List Int) : Hd (.tup (ws.map D.int)) ws := .inl rfl
theorem Hd.l (ws : List Int) : Hd (.lst (ws.map D.int)) ws := .inr rfl
theorem two_ok : 2 ≤ sizeLine := by decide
theorem okN_two {n : Nat} {a b : D} (ha : okN n a) (hb : okN n b) : okN (n + 1) (.tup [a, b]) := okN_tup fun d hd => by
  rcases List.mem_cons.mp hd with e | hd
  · rw [e]; exact ha
  · rcases List.mem_cons.mp hd with e | hd
    · rw [e]; exact hb
    · simp at hd
theorem cutD_head (ns : List Int) (n : Int) (hn : 0 ≤ n) : DL.cutD (ns.map D.int) none (some n) = (ns.take n.toNat).map D.int := by
  obtain ⟨j, rfl⟩ := Int.eq_ofNat_of_zero_le hn
  unfold DL.cutD
  rw [HT.sIx_none, HT.sIx_nat, List.drop_zero, Nat.sub_zero, List.length_map, List.map_take]
  show _ = List.take j _
  by_cases h : j ≤ ns.length
  · rw [Nat.min_eq_left h]
  · rw [Nat.min_eq_right (by omega), List.take_of_length_le (by rw [List.length_map]; exact Nat.le_refl _), List.take_of_length_le (by rw [List.length_map]; omega)]
/-- more objects than ahead -/
def Sub (l l' : LH) : Prop := ∀ a o, l a = some o → l' a = some o
theorem Sub.refl {l : LH} : Sub l l := fun _ _ h => h
theorem Sub.trans {l l1 l2 : LH} (h : Sub l l1) (h' : Sub l1 l2) : Sub l l2 := fun a o e => h' a o (h a o e)
theorem Box.sub {l l' : LH} {a : Addr} {k : Nat} (h : Sub l l') : Box l a k → Box l' a k
  | ⟨o, e, b⟩ => ⟨o, h a o e, b⟩
theorem Box.le {l : LH} {a : Addr} {k m : Nat} (h : k ≤ m) : Box l a k → Box l a m
  | ⟨o, e, c0, c1, c2, q, a0, a1, a2, a3, a4⟩ => ⟨o, e, c0, c1, c2, q, a0, a1, a2, a3, by omega⟩
theorem cutD_to (ds : List D) (j : Nat) : DL.cutD ds none (some (j : Int)) = ds.take j := by
  unfold DL.cutD
  rw [HT.sIx_none, HT.sIx_nat, List.drop_zero, Nat.sub_zero]
  by_cases h : j ≤ ds.length
  · rw [Nat.min_eq_left h]
  · rw [Nat.min_eq_right (by omega), List.take_length, List.take_of_length_le (by omega)]
theorem cutD_from (ds : List D) (j : Nat) : DL.cutD ds (some (j : Int)) none = ds.drop j := by
  unfold DL.cutD
  rw [HT.sIx_none, HT.sIx_nat]
  by_cases h : j ≤ ds.length
  · rw [Nat.min_eq_left h, List.take_of_length_le (by rw [List.length_drop]; exact Nat.le_refl _)]
  · rw [Nat.min_eq_right (by omega), List.drop_of_length_le (Nat.le_refl _), List.drop_of_length_le (by omega), List.take_nil]
end DL

namespace DL
open PySem PySem.Spec PyProof.Rows L2
/-! str of a list or a tuple -/
def seqP : PyData → Bool
  | .list _ | .tuple _ => true
  | _ => false
structure strOk (d : D) : Prop where
  lay : okN 8 d
  sh : (toPy d).showable = true
  sz : (toPy d).shown.length ≤ sizeLine
  sq : seqP (toPy d) = true
def rStr (K : PySem.W.Frag) : List V → Hp → VK → Prop := fun xs H Q => ∃ x d, xs = [x] ∧ Dp K H x d ∧ seqP d = true ∧ d.canLay0 = true ∧ d.showable = true ∧ d.shown.length ≤ sizeLine ∧ d.depth ≤ 8 ∧ Q (.str d.shown) H
theorem call_strSeq {X : Cx} {k : Nat} (hr : Room k X.A) (hgd : X.A.guards = some []) : CallR X (.type "str") (rStr X.K) := by
  intro pins s σ H xs us Q I r ⟨x, d, e, hd, hsq, hl, hs, hz, hdp, q⟩
  subst e
  obtain ⟨u, rfl, r1⟩ := vals1 r
  obtain ⟨as, rd⟩ := Dp.reads I d x u hd r1
  have hu : X.A.units + (d.depth + 3) < cLine := by have := hr.un; omega
  have fin : ∀ h' u tk, (∀ b o, s.heap.get? b = some o → h'.get? b = some o) → EP X pins σ Q (.str d.shown u) { s with heap := h', toks := tk } := fun h' u tk hk => ⟨.str _, H, I.un (Un.kept hk) (I.hok.kept hk), ⟨_, rfl⟩, q⟩
  cases rd with
  | none => cases hsq
  | bool b => cases hsq
  | int i t => cases hsq
  | str x t => cases hsq
  | list h1 h2 h3 h4 => exact str_of_reads (.list h1 h2 h3 h4) hs (PyData.noDict_hsm (PyData.hasDict_of_canLay _ hl)) hgd hu (fun _ _ e => e) fin hz
  | tuple h1 h2 h3 h4 => exact str_of_reads (.tuple h1 h2 h3 h4) hs (PyData.noDict_hsm (PyData.hasDict_of_canLay _ hl)) hgd hu (fun _ _ e => e) fin hz
  | dict _ _ _ _ _ => cases hsq
def kStr : List D → LH → DK → Prop := fun ds l Q => match ds with
  | [d] => resL d l fun d => strOk d ∧ Q (.str (toPy d).shown) l
  | _ => False
theorem kStr_ok {X : Cx} : KCall X (rStr X.K) kStr := by
  intro F Fr l H Q ds vs Q' R rd hq q
  cases rd with
  | nil => exact q.elim
  | cons r1 rr =>
    cases rr with
    | cons _ _ => exact q.elim
    | nil =>
      replace q : resL _ l fun d => strOk d ∧ Q (.str (toPy d).shown) l := q
      obtain ⟨d', ⟨hk, q⟩, h⟩ := resL_ok R r1 q
      exact ⟨_, _, rfl, h hk.lay.1, hk.sq, hk.lay.1, hk.sh, hk.sz, hk.lay.2, hq _ _ ⟨F, _, l, Same.refl F, .str _, R, q⟩⟩
section
variable {X : Cx} {e : Expr} {te : DTE} {pos p : Pos} {k : Nat}
end

/-! texts alike -/
section
variable {X : Cx} {a b : Expr} {ta tb : DTE} {pos : Pos}
end

/-! what can be shown -/
def wordD (w : List Int) : D := .tup (w.map D.int)
theorem okN_str {x : Str} (h : PyData.strOk x = true) : okN 0 (.str x) := ⟨by rw [toPy, PyData.canLay0, h], by rw [toPy, PyData.depth]; exact Nat.le_refl _⟩
end DL

namespace DL
open PySem PySem.Spec PyProof.Rows L2
/-! the least of a list of data -/
/-! words, in order -/
end DL

namespace DL
open PySem PySem.Spec PyProof.Rows L2
/-! ### tests that read what may be written, and write nothing -/
theorem RepE.setD {K : PySem.W.Frag} {F : Hp} {e : DSt} {σ : St} {i : Nat} {d : D} {v : V} (h : RepE K F e σ) (hv : σ[i]? = some (some v)) (r : RelD K F d v) : RepE K F (e.set i (some d)) σ := by
  have := RepE.set r i h
  have e2 : σ.set i (some v) = σ := by
    refine List.ext_getElem? fun j => ?_
    by_cases hj : i = j
    · subst hj
      rw [hv]
      have hl := (List.getElem?_eq_some_iff.mp hv).1
      rw [List.getElem?_set_self hl]
    · rw [List.getElem?_set_ne hj]
  rwa [e2] at this
/-- F1: F and some of l's objects -/
structure Bor (F : Hp) (l : LH) (H F1 : Hp) : Prop where
  up : Same F F1
  of : ∀ b o, F1 b = some o → F b = some o ∨ (l b ≠ none ∧ H b = some o)
theorem Bor.refl {F : Hp} {l : LH} {H : Hp} : Bor F l H F := ⟨Same.refl F, fun _ _ e => .inl e⟩
section
variable {K : PySem.W.Frag} {F Fr H F1 : Hp} {l : LH}
open Classical in
/-- all of l stays as it is -/
noncomputable def frB (Fr H F1 : Hp) (l : LH) : Hp := fun b => if l b ≠ none ∧ F1 b = none then H b else Fr b
theorem Bor.rep (R : Rep K F Fr l H) (B : Bor F l H F1) : Rep K F1 (frB Fr H F1 l) (fun _ => none) H where
  fz := fun b o e => by
    rcases B.of b o e with q | ⟨_, q⟩
    · exact R.fz b o q
    · exact q
  fr := fun b o e => by
    unfold frB at e
    split at e
    · exact e
    · exact R.fr b o e
  fd := fun b o e => by
    refine ⟨?_, rfl⟩
    unfold frB at e
    split at e
    · rename_i h; exact h.2
    · obtain ⟨h1, h2⟩ := R.fd b o e
      cases q : F1 b with
      | none => rfl
      | some u =>
        rcases B.of b u q with z | ⟨z, _⟩
        · rw [h1] at z; cases z
        · exact absurd h2 z
  lv := fun b o e => nomatch (show (none : Option DO) = some o from e)
  ft := fun b vs e => by
    unfold frB at e
    split at e
    · rename_i h
      cases q : l b with
      | none => exact h.1 q
      | some x =>
        obtain ⟨h1, h2⟩ := R.lv b x q
        cases x with
        | lst ds => obtain ⟨vs, _, z⟩ := h2; rw [e] at z; cases z
        | dT ks ds => obtain ⟨vs, _, _, z⟩ := h2; rw [e] at z; cases z
        | dK ks ds => obtain ⟨vs, _, _, z⟩ := h2; rw [e] at z; cases z
        | ins c ds => obtain ⟨C, dx, vs, _, _, _, z⟩ := h2; rw [e] at z; cases z
        | dN o ks ds => obtain ⟨as, vs, _, _, _, z⟩ := h2; rw [e] at z; cases z
        | fz d =>
          obtain ⟨_, u, z⟩ := h2
          rw [B.up _ _ z] at h
          exact nomatch h.2
    · exact R.ft b vs e
end
section
variable {X : Cx} {e : Expr} {te : DTE} {tt : DTT}
end
end DL

namespace DL
open PySem PySem.Spec PyProof.Rows L2
/-! ### sorted(xs, reverse=b) of a list of words -/
end DL

namespace DL
open PySem PySem.Spec PyProof.Rows L2
/-! ### dicts with plain keys, never written -/
def keyD : D → Option Key
  | .int i => some (.inl i)
  | .str x => some (.inr x)
  | _ => none
theorem keyD_v {K : PySem.W.Frag} {F : Hp} {d : D} {v : V} {k : Key} (r : RelD K F d v) (h : keyD d = some k) : v = kV k := by
  cases r with
  | int i => cases h; rfl
  | str x => cases h; rfl
  | _ => cases h
section
variable {X : Cx} {a b e : Expr} {ta tb te : DTE} {pos p apos cpos : Pos} {tg : Expr}
/-! the values, in turn -/
end
/-! dict of a list of pairs -/
def pairsD : List D → Option (List Key × List D)
  | [] => some ([], [])
  | .tup [k, v] :: r => (keyD k).bind fun q => (pairsD r).map fun z => (q :: z.1, v :: z.2)
  | _ => none
theorem pairs_rel {K : PySem.W.Frag} {F : Hp} : ∀ {xs : List D} {vs : List V} {z : List Key × List D}, RelDs K F xs vs → pairsD xs = some z → ∃ ps us, vs = ps.map V.ref ∧ RelDs K F z.2 us ∧ z.1.length = us.length ∧ Paired (fun p kv => SqT K F p [kV kv.1, kv.2]) ps (z.1.zip us)
  | _, _, z, .nil, h => by cases h; exact ⟨[], [], rfl, .nil, rfl, .nil⟩
  | d :: xs, _, z, .cons r rr, h => by
    cases r with
    | @tup p ws ds h1 rs =>
      cases rs with
      | nil => cases h
      | cons r1 rs =>
        cases rs with
        | nil => cases h
        | cons r2 rs =>
          cases rs with
          | cons _ _ => cases h
          | nil =>
            rename_i k v1 v v2
            rw [pairsD] at h
            cases hk : keyD k with
            | none => rw [hk] at h; cases h
            | some q =>
              rw [hk] at h
              cases hp : pairsD xs with
              | none => rw [hp] at h; cases h
              | some z' =>
                rw [hp] at h
                cases h
                obtain ⟨ps, us, e1, e2, e3, e4⟩ := pairs_rel rr hp
                subst e1
                have ev := keyD_v r1 hk
                subst ev
                exact ⟨p :: ps, v2 :: us, rfl, .cons r2 e2, by rw [List.length_cons, List.length_cons, e3], by rw [List.zip_cons_cons]; exact .cons (tq h1) e4⟩
    | _ => cases h
theorem merge_nd {kvs : List (Key × V)} : ∀ {acc : List (Key × V)}, ((acc ++ kvs).map (·.1)).Nodup → mergeK acc kvs = acc ++ kvs := by
  induction kvs with
  | nil => intro acc _; rw [List.append_nil]; rfl
  | cons kv kvs ih =>
    intro acc h
    have hn : ¬ (acc.any fun x => decide (x.1 = kv.1)) = true := by
      rw [List.any_eq_true]
      rintro ⟨x, hx, e⟩
      have e := of_decide_eq_true e
      rw [List.map_append, List.nodup_append] at h
      exact h.2.2 x.1 (List.mem_map.mpr ⟨x, hx, rfl⟩) kv.1 (List.mem_map.mpr ⟨kv, List.mem_cons_self, rfl⟩) e
    have e : mergeK acc (kv :: kvs) = mergeK (acc ++ [kv]) kvs := by
      show mergeK (putK acc kv.1 kv.2) kvs = _
      unfold putK
      rw [if_neg hn]
    rw [e, ih (by simpa using h), List.append_assoc]
    rfl
def dDictP (te : DTE) : DTE := fun env l Q => aCons te aNil env l fun ds l1 => match ds with
  | [.lst xs] => ∃ z, pairsD xs = some z ∧ z.1.Nodup ∧ Q (.dK z.1 z.2) l1
  | _ => False
theorem upd_upd' {H : Hp} {p : Addr} {x y : HO} : upd (upd H p x) p y = upd H p y := by
  funext b
  by_cases h : b = p
  · subst h; rw [upd_same, upd_same]
  · rw [upd_ne h, upd_ne h, upd_ne h]
theorem de_dictP {X : Cx} {e : Expr} {te : DTE} {pos p : Pos} (hc : X.calm = true) (hg : Gl X "dict") (hm : X.mg "dict" = none) (h : DE X e te)
    (he : starEach [e] X.env = (false, eval e X.env) :: starEach [] X.env := by rfl) (hpl : (backTo pos (starEach [] X.env)).any (·.1) = false := by rfl) : DE X (.Call (.Name "dict" p) [e] [] pos) (dDictP te) := by
  refine ⟨?_⟩
  intro F Fr env l σ H Q hE hR ht
  have ha := da_cons h da_nil he
  have key : WE X (.Call (.Name "dict" p) [e] [] pos) σ H fun v H' => ∃ b F1 l1 ks us ds H1, v = .ref b ∧ H' = upd H1 b (.dK (ks.zip us)) ∧ H1 b = none ∧ Rep X.K F1 Fr l1 H1 ∧ Same F F1 ∧ RelDs X.K F1 ds us ∧ ks.length = us.length ∧ Q (.dK ks ds) l1 := by
    refine (pe_callTy (call_dictP hc) hg hm (by decide +kernel) paW (by decide) (by decide) he hpl).we ?_
    refine (ha F Fr env l σ H (fun ds l1 => match ds with | [.lst xs] => ∃ z, pairsD xs = some z ∧ z.1.Nodup ∧ Q (.dK z.1 z.2) l1 | _ => False) hE hR ht).mono fun vs H1 ⟨F1, ds, l1, s1, r1, R1, q1⟩ => ?_
    · cases r1 with
      | nil => exact q1.elim
      | @cons d v ds' vs' r2 rr =>
        cases rr with
        | cons _ _ => cases d <;> exact q1.elim
        | nil =>
          cases r2 with
          | @lst a ws xs h1 rx =>
            obtain ⟨z, hz, nd, q⟩ := q1
            obtain ⟨ps, us, e1, e2, e3, e4⟩ := pairs_rel rx hz
            subst e1
            refine ⟨a, ps, z.1.zip us, rfl, .inl (.inl (R1.fz _ _ h1)), ?_, fun b nb => ?_⟩
            · have go : ∀ {ps : List Addr} {kvs : List (Key × V)}, Paired (fun p kv => SqT X.K F1 p [kV kv.1, kv.2]) ps kvs → Paired (fun p kv => SqT X.K H1 p [kV kv.1, kv.2]) ps kvs := by
                intro ps kvs q
                induction q with
                | nil => exact .nil
                | cons a _ ih => exact .cons (sqT_mono R1.fz a) ih
              exact go e4
            · refine ⟨b, F1, l1, z.1, us, z.2, H1, rfl, ?_, nb, R1, s1, e2, e3, q⟩
              rw [merge_nd (acc := []) (by rw [List.nil_append, List.map_fst_zip (by omega)]; exact nd), List.nil_append]
          | _ => exact q1.elim
  intro pins s I
  refine thn (key pins s I) fun u s' ⟨x, H', I', rx, b, F1, l1, ks, us, ds, H1, e1, e2, nb, R1, s1, rr, hl, q⟩ => ?_
  subst e1 e2
  obtain ⟨od, I2⟩ := I'.lock upd_same (by exact trivial)
  rw [upd_upd'] at I2
  refine ⟨.ref b, _, I2, rx, ?_⟩
  refine ⟨upd F1 b (.frz od (.dK (ks.zip us))), .dK ks ds, l1, s1.trans (same_upd (R1.F_none nb)), ?_, R1.laid nb _, q⟩
  exact .dK upd_same hl (rr.mono (same_upd (R1.F_none nb)))
end DL

namespace DL
open PySem PySem.Spec PyProof.Rows L2
/-! ### xs.count(x) over data -/
section
variable {X : Cx}
variable {o e : Expr} {to te : DTE} {apos cpos pos p p2 q : Pos}
/-! ### len(set(xs)) of a list of words -/
end
end DL

namespace DL
open PySem PySem.Spec PyProof.Rows L2
/-! ### instances of the program's own classes -/
theorem Rep.extra {K : PySem.W.Frag} {F Fr H : Hp} {l : LH} {p : Addr} (r : Rep K F Fr l H) (n : H p = none) (o : HO) : Rep K F Fr l (upd H p o) where
  fz := fun b x e => by
    rw [upd_ne (fun z => by subst z; rw [r.F_none n] at e; cases e)]
    exact r.fz b x e
  fr := fun b x e => by
    rw [upd_ne (fun z => by subst z; rw [r.Fr_none n] at e; cases e)]
    exact r.fr b x e
  fd := r.fd
  lv := fun b x e => by
    have hb : b ≠ p := fun z => by subst z; rw [r.l_none n] at e; cases e
    obtain ⟨h1, h2⟩ := r.lv b x e
    exact ⟨h1, h2.mono (Same.refl F) (upd_ne hb)⟩
  ft := r.ft
def nthK : List D → Nat → (D → Prop) → Prop
  | [], _, _ => False
  | d :: _, 0, k => k d
  | _ :: r, n + 1, k => nthK r n k
theorem nthK_ok : ∀ {ds : List D} {i : Nat} {k : D → Prop}, nthK ds i k → ∃ d, ds[i]? = some d ∧ k d
  | [], _, _, h => h.elim
  | d :: _, 0, _, h => ⟨d, rfl, h⟩
  | _ :: r, n + 1, k, h => by
    obtain ⟨d, e, q⟩ := nthK_ok (ds := r) (i := n) h
    exact ⟨d, by simpa using e, q⟩
def putI : List D → Nat → D → (List D → Prop) → Prop
  | [], 0, d, k => k [d]
  | [], _ + 1, _, _ => False
  | _ :: r, 0, d, k => k (d :: r)
  | x :: r, n + 1, d, k => putI r n d fun r' => k (x :: r')
def putN {α : Type} : List α → Nat → α → List α
  | [], _, d => [d]
  | _ :: r, 0, d => d :: r
  | x :: r, n + 1, d => x :: putN r n d
theorem putI_ok : ∀ {ds : List D} {i : Nat} {d : D} {k : List D → Prop}, putI ds i d k → i ≤ ds.length ∧ k (putN ds i d)
  | [], 0, _, _, h => ⟨Nat.le_refl _, h⟩
  | [], _ + 1, _, _, h => h.elim
  | _ :: r, 0, d, k, h => ⟨Nat.zero_le _, h⟩
  | x :: r, n + 1, d, k, h => by
    obtain ⟨h1, h2⟩ := putI_ok (ds := r) (i := n) h
    exact ⟨Nat.succ_le_succ h1, h2⟩
theorem RelDs.putN {K : PySem.W.Frag} {F : Hp} {d : D} {v : V} (rd : RelD K F d v) : ∀ {ds : List D} {vs : List V} (i : Nat), RelDs K F ds vs → RelDs K F (putN ds i d) (DL.putN vs i v)
  | _, _, _, .nil => .cons rd .nil
  | _, _, 0, .cons _ t => .cons rd t
  | _, _, n + 1, .cons r t => .cons r (RelDs.putN rd n t)
theorem putN_len {α : Type} : ∀ (vs : List α) (i : Nat) (v : α), i ≤ vs.length → (DL.putN vs i v).length ≤ max vs.length (i + 1)
  | [], i, v, h => by
    show 1 ≤ _
    omega
  | _ :: r, 0, v, h => by
    show r.length + 1 ≤ _
    rw [List.length_cons]
    omega
  | x :: r, n + 1, v, h => by
    have := putN_len r n v (by rw [List.length_cons] at h; omega)
    show (DL.putN r n v).length + 1 ≤ _
    rw [List.length_cons]
    omega
theorem lookup_zip : ∀ {fs : List Str} {vs : List V} {i : Nat} {f : Str} {v : V}, fs.Nodup → fs[i]? = some f → vs[i]? = some v → (fs.zip vs).lookup f = some v
  | [], _, i, f, v, _, h, _ => by simp at h
  | _ :: _, [], i, f, v, _, _, h => by simp at h
  | g :: fs, u :: vs, 0, f, v, _, h1, h2 => by
    simp at h1 h2
    subst h1 h2
    simp
  | g :: fs, u :: vs, i + 1, f, v, nd, h1, h2 => by
    rw [List.nodup_cons] at nd
    simp only [List.getElem?_cons_succ] at h1 h2
    have hm := List.mem_of_getElem? h1
    have ne : ¬ (f == g) = true := fun e => nd.1 (by rw [← beq_iff_eq.mp e]; exact hm)
    rw [List.zip_cons_cons, List.lookup_cons, Bool.eq_false_iff.mpr ne]
    exact lookup_zip nd.2 h1 h2
theorem lookup_zip_none : ∀ {fs : List Str} {vs : List V} {f : Str}, f ∉ fs → (fs.zip vs).lookup f = none
  | [], _, f, _ => by simp
  | _ :: _, [], f, _ => by simp
  | g :: fs, u :: vs, f, h => by
    rw [List.mem_cons, not_or] at h
    rw [List.zip_cons_cons, List.lookup_cons, Bool.eq_false_iff.mpr (fun e => h.1 (beq_iff_eq.mp e))]
    exact lookup_zip_none h.2
theorem putF_zip : ∀ {fs : List Str} {vs : List V} {i : Nat} {f : Str} {v : V}, fs.Nodup → fs[i]? = some f → i ≤ vs.length → vs.length ≤ fs.length → putF f v (fs.zip vs) = fs.zip (DL.putN vs i v)
  | [], _, i, f, v, _, h, _, _ => by simp at h
  | g :: fs, [], 0, f, v, _, h1, _, _ => by
    simp at h1
    subst h1
    rw [List.zip_nil_right]
    show putF g v [] = (g :: fs).zip [v]
    simp [putF]
  | g :: fs, [], i + 1, f, v, _, h1, h2, _ => by simp at h2
  | g :: fs, u :: vs, 0, f, v, nd, h1, h2, h3 => by
    simp at h1
    subst h1
    rw [List.zip_cons_cons]
    show (if g = g then (g, v) :: fs.zip vs else _) = _
    rw [if_pos rfl]
    rfl
  | g :: fs, u :: vs, i + 1, f, v, nd, h1, h2, h3 => by
    rw [List.nodup_cons] at nd
    simp only [List.getElem?_cons_succ] at h1
    rw [List.length_cons] at h2
    rw [List.length_cons, List.length_cons] at h3
    have hm := List.mem_of_getElem? h1
    have ne : ¬ g = f := fun e => nd.1 (by rw [e]; exact hm)
    rw [List.zip_cons_cons]
    show (if g = f then _ else (g, u) :: putF f v (fs.zip vs)) = (g, u) :: fs.zip (DL.putN vs i v)
    rw [if_neg ne, putF_zip nd.2 h1 (by omega) (by omega)]
def atIns (x : D) (l : LH) (c : Cl) (k : Addr → List D → Prop) : Prop := match x with
  | .ref a => getO l a fun o => match o with | .ins c' ds => c' = c ∧ k a ds | _ => False
  | _ => False
theorem atIns_ok {K : PySem.W.Frag} {F Fr H : Hp} {l : LH} {d : D} {v : V} {c : Cl} {C : Addr} {k : Addr → List D → Prop} (hC : PySem.W.nsIn K mainGlobals c.name = some (some (.ref C))) (R : Rep K F Fr l H) (r : RelD K F d v) (q : atIns d l c k) :
    ∃ a ds dx vs, d = .ref a ∧ v = .ref a ∧ k a ds ∧ l a = some (.ins c ds) ∧ RelDs K F ds vs ∧ vs.length ≤ c.fs.length ∧ H a = some (.ins C dx (c.fs.zip vs)) := by
  cases r with
  | ref a =>
    obtain ⟨o, ho, q⟩ := q
    cases o with
    | ins c' ds =>
      obtain ⟨rfl, q⟩ := q
      obtain ⟨C', dx, vs, rr, hC', hl, hH⟩ := (R.lv _ _ ho).2
      rw [hC] at hC'
      cases hC'
      exact ⟨a, ds, dx, vs, rfl, rfl, q, ho, rr, hl, hH⟩
    | _ => exact q.elim
  | _ => exact q.elim
section
variable {X : Cx} {e o : Expr} {es : List Expr} {te to tv : DTE} {t : DTA} {pos p apos : Pos} {f m x : Str} {c : Cl} {C : Addr}
def dFld (c : Cl) (i : Nat) (te : DTE) : DTE := fun env l Q => te env l fun x l1 => atIns x l1 c fun _ ds => nthK ds i fun d => Q d l1
theorem de_fld (i : Nat) (hf : c.fs[i]? = some f) (nd : c.fs.Nodup) (hC : PySem.W.nsIn X.K mainGlobals c.name = some (some (.ref C))) (cl : Cls X.K C) (na : NoAttr X.K C f) (h : DE X e te) (hb : attributeBase e f X.env (eval e X.env) = eval e X.env := by rfl) :
    DE X (.Attribute e f pos) (dFld c i te) := by
  refine ⟨?_⟩
  intro F Fr env l σ H Q hE hR ht
  refine (pe_fld peW hb).we ?_
  refine (h F Fr env l σ H _ hE hR ht).mono fun x H1 ⟨F1, d, l1, s1, r1, R1, q1⟩ => ?_
  obtain ⟨a, ds, dx, vs, rfl, rfl, q, ho, rr, hl, hH⟩ := atIns_ok hC R1 r1 q1
  obtain ⟨d, hd, q⟩ := nthK_ok q
  obtain ⟨v, hv, rv⟩ := rr.get hd
  exact ⟨a, C, dx, _, v, rfl, hH, cl, na, lookup_zip nd hf hv, (LK.mk rv R1 q).weak s1⟩
def sPutF (c : Cl) (i : Nat) (to tv : DTE) : DTS := fun E env l => tv env l fun d l1 => to env l1 fun x l2 => atIns x l2 c fun a ds => putI ds i d fun ds' => E.nx env (uL l2 a (.ins c ds'))
theorem ds_fld {pos' : Pos} (i : Nat) (hf : c.fs[i]? = some f) (nd : c.fs.Nodup) (hz : c.fs.length < 1000) (hC : PySem.W.nsIn X.K mainGlobals c.name = some (some (.ref C))) (cl : Cls X.K C) (na : NoAttr X.K C f) (ho : DE X o to) (hv : DE X e tv)
    (hs : swapsWith e (some (.Attribute o f pos')) pos.line X.env = pure false := by rfl) : DS X (.Assign [.Attribute o f pos'] e pos) (sPutF c i to tv) := by
  refine ⟨?_⟩
  intro F Fr env l σ H E hE hR ht
  refine (ps_fld peW peW hs).ws ?_
  refine (hv F Fr env l σ H _ hE hR ht).mono fun y H1 ⟨F1, d, l1, s1, r1, R1, q1⟩ => ?_
  refine (ho F1 Fr env l1 σ H1 _ (hE.mono s1) R1 q1).mono fun x H2 ⟨F2, d2, l2, s2, r2, R2, q2⟩ => ?_
  obtain ⟨a, ds, dx, vs, rfl, rfl, q, hl0, rr, hl, hH⟩ := atIns_ok hC R2 r2 q2
  obtain ⟨hi, q⟩ := putI_ok q
  have hif := (List.getElem?_eq_some_iff.mp hf).1
  refine ⟨a, C, dx, _, rfl, hH, cl, na, by rw [List.length_zip]; omega, ?_⟩
  rw [putF_zip nd hf (by rw [← rr.length]; exact hi) hl]
  have hlen := putN_len vs i y (by rw [← rr.length]; exact hi)
  exact ⟨F2, env, _, s1.trans s2, hE.mono (s1.trans s2), R2.write hl0 rfl (show DOk X.K F2 _ a (.ins c (putN ds i d)) from ⟨C, dx, _, rr.putN (r1.mono s2) i, hC, by omega, upd_same⟩), q⟩

/-! a def that keeps its reading, run -/
theorem run_fnG {k : Nat} {g : Addr} {fd : FuncData} {ps : List Str} {dsp : DSp} {pins : List (Addr × Obj)} {σ : St} {H : Hp} {s : Shared} {us : List Value} {vs : List V} {F Fr : Hp} {ds : List D} {l : LH} {Q : DK} (G : FnG X.prog X.w X.K X.mg X.base k g fd ps dsp) (hr : Room k X.A) (hgd : X.A.guards = some []) (hb : Binds X.K fd ps [])
    (I : Inv X pins σ H s) (r : Vals vs us) (rd : RelDs X.K F ds vs) (R : Rep X.K F Fr l H) (h : dsp ds l Q) : wpAny (model X.prog X.w) X.A (call (.ref g) us) (EP X pins σ (LK X.K F Fr Q)) X.xe s := by
  have hsp : spOf X.K dsp vs H (LK X.K F Fr Q) L2.E0 := ⟨F, Fr, ds, l, Q, rd, R, h, fun v H' q => q⟩
  have hl : (us ++ []).length = ps.length := by rw [List.append_nil, ← r.length, ← rd.length]; exact G.len _ _ _ h
  have hbd := hb s us I.kIn hl
  rw [List.append_nil] at hbd
  refine wpAny_call (codeAny_mono (G.run X.A X.stack s H ⟨us, []⟩ us vs _ L2.E0 hr hgd I.env0 hbd r hsp) fun res s' hq => ?_)
  cases res with
  | error _ => exact hq.elim
  | ok fl =>
    cases fl with
    | ret u => exact I.after hq
    | next => exact hq.elim
    | brk => exact hq.elim
    | cont => exact hq.elim
def dMeth (c : Cl) (sp : DSp) (to : DTE) (t : DTA) : DTE := fun env l Q => to env l fun x l1 => atIns x l1 c fun _ _ => t env l1 fun ds l2 => callD sp (x :: ds) l2 Q
def dMeth0 (c : Cl) (sp : DSp) (to : DTE) : DTE := fun env l Q => to env l fun x l1 => atIns x l1 c fun _ _ => callD sp [x] l1 Q
section
variable {k : Nat} {g : Addr} {fd : FuncData} {ps : List Str} {dsp : DSp}
theorem de_meth {pl : Sem Bool} (hC : PySem.W.nsIn X.K mainGlobals c.name = some (some (.ref C))) (cl : Cls X.K C) (hm : Meth X.K C m g) (hnf : c.fs.contains m = false) (G : FnG X.prog X.w X.K X.mg X.base k g fd ps dsp) (hr : Room k X.A) (hgd : X.A.guards = some []) (hb : Binds X.K fd ps []) (ho : DE X o to) (ha : DA X (e :: es) t)
    (hst : starEach (e :: es) X.env = (false, eval e X.env) :: starEach es X.env := by rfl) (hpl : (backTo pos (starEach es X.env)).any (·.1) = false := by rfl)
    (ht : eval (.Call (.Attribute o m apos) (e :: es) [] pos) X.env = (do
      let ov ← eval o X.env
      standAt apos.atName
      let (f, first) ← holding [ov] (getMethod ov m pl)
      callWith pos f first (backTo pos (starEach (e :: es) X.env)) (backToKw pos (keywordEach [] X.env))) := by rfl) :
    DE X (.Call (.Attribute o m apos) (e :: es) [] pos) (dMeth c dsp to t) := by
  refine ⟨?_⟩
  intro F Fr env l σ H Q hE hR htt pins s I
  refine PySem.W.methodCall_KW (pl := pl) (thn (ho F Fr env l σ H _ hE hR htt pins s I) fun u s1 ⟨x, H1, I1, rx, F1, d, l1, s1', rd, R1, q1⟩ => ?_) ht
  obtain ⟨a, ds, dx, vs, rfl, rfl, q, hl0, rr, hl, hH⟩ := atIns_ok hC R1 rd q1
  obtain rfl : u = Value.ref a := rx
  refine getmeth_ok I1 hH cl hm (lookup_zip_none (fun z => by rw [List.contains_iff_mem.mpr z] at hnf; cases hnf)) ?_
  refine PySem.W.callWith_K (first := [.ref a]) (h₀ := X.base) I.ok.mod.kin hm.kp (thn (ha F1 Fr env l1 σ H1 _ (hE.mono s1') R1 q pos pins s1 I1) fun us s2 ⟨vs, H2, I2, r, F2, ds2, l2, s2', r2, R2, q2⟩ => ⟨I2.kIn, ?_⟩) hst hpl
  exact thn (run_fnG (us := .ref a :: us) (vs := .ref a :: vs) G hr hgd hb I2 (.cons rfl r) (.cons (.ref a) r2) R2 q2.run) fun u s3 q3 => EP.mono (fun v H q => q.weak (s1'.trans s2')) q3
theorem de_meth0 {pl : Sem Bool} (hC : PySem.W.nsIn X.K mainGlobals c.name = some (some (.ref C))) (cl : Cls X.K C) (hm : Meth X.K C m g) (hnf : c.fs.contains m = false) (G : FnG X.prog X.w X.K X.mg X.base k g fd ps dsp) (hr : Room k X.A) (hgd : X.A.guards = some []) (hb : Binds X.K fd ps []) (ho : DE X o to)
    (ht : eval (.Call (.Attribute o m apos) [] [] pos) X.env = (do
      let ov ← eval o X.env
      standAt apos.atName
      let (f, first) ← holding [ov] (getMethod ov m pl)
      callWith pos f first (backTo pos (starEach [] X.env)) (backToKw pos (keywordEach [] X.env))) := by rfl) :
    DE X (.Call (.Attribute o m apos) [] [] pos) (dMeth0 c dsp to) := by
  refine ⟨?_⟩
  intro F Fr env l σ H Q hE hR htt pins s I
  refine PySem.W.methodCall_KW (pl := pl) (thn (ho F Fr env l σ H _ hE hR htt pins s I) fun u s1 ⟨x, H1, I1, rx, F1, d, l1, s1', rd, R1, q1⟩ => ?_) ht
  obtain ⟨a, ds, dx, vs, rfl, rfl, q, hl0, rr, hl, hH⟩ := atIns_ok hC R1 rd q1
  obtain rfl : u = Value.ref a := rx
  refine getmeth_ok I1 hH cl hm (lookup_zip_none (fun z => by rw [List.contains_iff_mem.mpr z] at hnf; cases hnf)) ?_
  refine PySem.W.callWith_K0 (first := [.ref a]) I1.kIn hm.kp ?_
  exact thn (run_fnG (us := [.ref a]) (vs := [.ref a]) G hr hgd hb I1 (.cons rfl .nil) (.cons (.ref a) .nil) R1 q.run) fun u s3 q3 => EP.mono (fun v H q => q.weak s1') q3
/-- C(..) -/
def dMake (c : Cl) (sp : DSp) (t : DTA) : DTE := fun env l Q => t env l fun ds l1 => ∀ a, l1 a = none → callD sp (.ref a :: ds) (uL l1 a (.ins c [])) fun v l2 => v = .non ∧ Q (.ref a) l2
theorem de_make (hC : PySem.W.nsIn X.K mainGlobals c.name = some (some (.ref C))) (M : Mk X.K C g) (G : FnG X.prog X.w X.K X.mg X.base k g fd ps dsp) (hr : Room (k + 1) X.A) (hgd : X.A.guards = some []) (hg : Gl X x) (hmg : X.mg x = some (.ref C)) (hb : Binds X.K fd ps []) (ha : DA X (e :: es) t)
    (hdb : (x == ("__debug__" : Str)) = false := by decide) (he : starEach (e :: es) X.env = (false, eval e X.env) :: starEach es X.env := by rfl) (hpl : (backTo pos (starEach es X.env)).any (·.1) = false := by rfl) :
    DE X (.Call (.Name x p) (e :: es) [] pos) (dMake c dsp t) := by
  refine ⟨?_⟩
  intro F Fr env l σ H Q hE hR ht pins s I
  refine wpAny_Call_Name_kw (ld_glob I hg hmg ?_ hdb)
  refine PySem.W.callWith_K (h₀ := X.base) I.ok.mod.kin M.kp (thn (ha F Fr env l σ H _ hE hR ht pos pins s I) fun us s1 ⟨vs, H1, I1, r, F1, ds, l1, s1', r1, R1, q1⟩ => ⟨I1.kIn, ?_⟩) he hpl
  have n1 : H1 (s1.heap.objs.size + 1) = none := I1.hok.fresh (Nat.le_succ _)
  have n0 : H1 s1.heap.objs.size = none := I1.hok.fresh (Nat.le_refl _)
  have I2 := Inv.made (C := C) I1
  have R2 : Rep X.K F1 Fr (uL l1 (s1.heap.objs.size + 1) (.ins c [])) (upd (upd H1 s1.heap.objs.size (.own (s1.heap.objs.size + 1))) (s1.heap.objs.size + 1) (.ins C s1.heap.objs.size [])) :=
    (R1.extra n0 _).made ((upd_ne (Nat.succ_ne_self _)).trans n1) (show DOk X.K F1 _ _ (.ins c []) from ⟨C, _, [], .nil, hC, Nat.zero_le _, by rw [upd_same, List.zip_nil_right]⟩)
  have q2 := (q1 (s1.heap.objs.size + 1) (R1.l_none n1)).run
  have r2 : Vals (V.ref (s1.heap.objs.size + 1) :: vs) (Value.ref (s1.heap.objs.size + 1) :: us) := .cons rfl r
  have hsp : spOf X.K dsp (V.ref (s1.heap.objs.size + 1) :: vs) _ (fun v H2 => v = .non ∧ LK X.K F1 Fr Q (.ref (s1.heap.objs.size + 1)) H2) L2.E0 :=
    ⟨F1, Fr, _, _, _, .cons (.ref _) r1, R2, q2, fun v H' ⟨F3, d3, l3, s3, r3, R3, e3, q3⟩ => by
      subst e3
      cases r3
      exact ⟨rfl, F3, _, l3, s3, .ref _, R3, q3⟩⟩
  have hl : (Value.ref (s1.heap.objs.size + 1) :: us).length = ps.length := by
    have e := r2.length
    rw [← e, List.length_cons, ← r1.length, ← List.length_cons (a := D.ref (s1.heap.objs.size + 1))]
    exact G.len _ _ _ q2
  have hbd := hb _ (Value.ref (s1.heap.objs.size + 1) :: us) I2.kIn (by rw [List.append_nil]; exact hl)
  rw [List.append_nil] at hbd
  refine wpAny_call (make_map (f := g) I1.kIn M.makes M.init (beq_iff_eq.mp M.fn) (codeAny_mono (G.run _ X.stack _ _ ⟨Value.ref (s1.heap.objs.size + 1) :: us, []⟩ (Value.ref (s1.heap.objs.size + 1) :: us) _ _ L2.E0 (hr.make C us []) hgd
    (I2.env0.make C us []) hbd r2 hsp) fun res s' hq' => ?_))
  cases res with
  | error e => exact hq'.elim
  | ok fl =>
    cases fl with
    | ret u =>
      obtain ⟨v, H', I3, rv, ev, q3⟩ := I2.after hq'
      subst ev
      exact ⟨rv, ⟨V.ref (s1.heap.objs.size + 1), H', I3, rfl, q3.weak s1'⟩⟩
    | next => exact False.elim hq'
    | brk => exact False.elim hq'
    | cont => exact False.elim hq'
end
/-! constants of the module, raise that is never reached -/
theorem de_glob {n : Int} {tk : Tok} (hg : Gl X x) (hm : X.mg x = some (.int n tk)) (hd : (x == ("__debug__" : Str)) = false := by decide) : DE X (.Name x pos) (dC (.int n)) :=
  ⟨fun F Fr env l σ H Q he hr ht => (pe_glob (v := .int n) hg hm ⟨_, rfl⟩ hd).we (LK.mk (.int n) hr ht)⟩
def sNever : DTS := fun _ _ _ => False
theorem ds_never {st : Stmt} : DS X st sNever := ⟨fun F Fr env l σ H E he hr ht => ht.elim⟩
end
end DL

namespace DL
open PySem PySem.Spec PyProof.Rows L2
/-! ### dicts: keys plain or tuples of plain ones -/
def keysD : List D → Option (List Key)
  | [] => some []
  | d :: r => (keyD d).bind fun k => (keysD r).map fun s => k :: s
def keyT : D → Option (List Key)
  | .tup ds => keysD ds
  | _ => none
theorem keysD_rel {K : PySem.W.Frag} {F : Hp} : ∀ {ds : List D} {vs : List V} {k : List Key}, RelDs K F ds vs → keysD ds = some k → vs = k.map kV
  | _, _, k, .nil, h => by cases h; rfl
  | d :: ds, _, k, .cons r rr, h => by
    rw [keysD] at h
    cases hk : keyD d with
    | none => rw [hk] at h; cases h
    | some q =>
      rw [hk] at h
      cases hp : keysD ds with
      | none => rw [hp] at h; cases h
      | some s =>
        rw [hp] at h
        cases h
        rw [keysD_rel rr hp, keyD_v r hk]
        rfl
theorem keyT_rel {K : PySem.W.Frag} {F : Hp} {d : D} {v : V} {k : List Key} (r : RelD K F d v) (h : keyT d = some k) : ∃ b, v = .ref b ∧ F b = some (.tup (k.map kV)) := by
  cases r with
  | tup h1 rr =>
    have e := keysD_rel rr h
    subst e
    exact ⟨_, rfl, h1⟩
  | _ => cases h
/-- a word as a key -/
def wkey (w : List Int) : List Key := w.map Sum.inl
theorem keysD_ints : ∀ w : List Int, keysD (w.map D.int) = some (wkey w)
  | [] => rfl
  | x :: w => by
    rw [List.map_cons, keysD, keysD_ints w]
    rfl
theorem keyT_word (w : List Int) : keyT (wordD w) = some (wkey w) := keysD_ints w
theorem wkey_inj {u v : List Int} : wkey u = wkey v ↔ u = v := by
  unfold wkey
  exact List.map_inj_right fun a b e => Sum.inl.inj e
section
variable {κ : Type} [DecidableEq κ] {K : PySem.W.Frag} {F : Hp}
def getA : List κ → List D → κ → Option D
  | k :: ks, d :: ds, q => if k = q then some d else getA ks ds q
  | _, _, _ => none
def OptRel (K : PySem.W.Frag) (F : Hp) : Option D → Option V → Prop
  | some d, some v => RelD K F d v
  | none, none => True
  | _, _ => False
theorem getA_rel : ∀ {ks : List κ} {ds : List D} {vs : List V} {q : κ}, RelDs K F ds vs → OptRel K F (getA ks ds q) (valV (ks.zip vs) q)
  | [], _, _, _, _ => by
    rw [List.zip_nil_left]
    unfold getA
    exact trivial
  | _ :: _, [], _, _, .nil => by
    rw [List.zip_nil_right]
    unfold getA
    exact trivial
  | k :: ks, d :: ds, _, q, .cons (v := v) r rr => by
    rw [List.zip_cons_cons]
    unfold getA
    by_cases h : k = q
    · rw [if_pos h, valV_pos (p := (k, v)) h]
      exact r
    · rw [if_neg h, valV_neg (p := (k, v)) h]
      exact getA_rel rr
def repA : List κ → List D → κ → D → List D
  | k :: ks, d :: ds, q, x => (if k = q then x else d) :: repA ks ds q x
  | _, _, _, _ => []
def putKs (ks : List κ) (q : κ) : List κ := if q ∈ ks then ks else ks ++ [q]
def putDs (ks : List κ) (ds : List D) (q : κ) (x : D) : List D := if q ∈ ks then repA ks ds q x else ds ++ [x]
theorem rep_rel {x : D} {v : V} (rx : RelD K F x v) : ∀ {ks : List κ} {ds : List D} {vs : List V} {q : κ}, ks.length = vs.length → RelDs K F ds vs →
    ∃ ws, RelDs K F (repA ks ds q x) ws ∧ ks.length = ws.length ∧ (ks.zip vs).map (fun kv => if kv.1 = q then (kv.1, v) else kv) = ks.zip ws
  | [], [], [], q, _, .nil => ⟨[], .nil, rfl, rfl⟩
  | [], _, _ :: _, q, h, _ => by simp at h
  | _ :: _, _, [], q, h, _ => by simp at h
  | k :: ks, d :: ds, u :: vs, q, h, .cons r rr => by
    obtain ⟨ws, h1, h2, h3⟩ := rep_rel rx (q := q) (by simpa using h) rr
    refine ⟨(if k = q then v else u) :: ws, .cons ?_ h1, by rw [List.length_cons, List.length_cons, h2], ?_⟩
    · by_cases e : k = q
      · rw [if_pos e, if_pos e]; exact rx
      · rw [if_neg e, if_neg e]; exact r
    · rw [List.zip_cons_cons, List.map_cons, h3, List.zip_cons_cons]
      by_cases e : k = q
      · simp [e]
      · simp [e]
theorem put_rel {x : D} {v : V} (rx : RelD K F x v) {ks : List κ} {ds : List D} {vs : List V} {q : κ} (hl : ks.length = vs.length) (rr : RelDs K F ds vs) :
    ∃ ws, RelDs K F (putDs ks ds q x) ws ∧ (putKs ks q).length = ws.length ∧ putK (ks.zip vs) q v = (putKs ks q).zip ws := by
  have any : ((ks.zip vs).any fun kv => decide (kv.1 = q)) = decide (q ∈ ks) := by
    rw [Bool.eq_iff_iff, List.any_eq_true, decide_eq_true_eq]
    constructor
    · rintro ⟨kv, h, e⟩
      rw [← of_decide_eq_true e]
      exact (List.of_mem_zip (a := kv.1) (b := kv.2) h).1
    · intro h
      obtain ⟨i, hi⟩ := List.getElem?_of_mem h
      have hi' := (List.getElem?_eq_some_iff.mp hi).1
      refine ⟨(q, vs[i]'(by omega)), ?_, by simp⟩
      refine List.mem_of_getElem? (i := i) ?_
      rw [List.getElem?_zip_eq_some]
      exact ⟨hi, List.getElem?_eq_getElem _⟩
  unfold putDs putKs putK
  rw [any]
  by_cases h : q ∈ ks
  · rw [if_pos h, if_pos h, if_pos (by rw [decide_eq_true h])]
    obtain ⟨ws, h1, h2, h3⟩ := rep_rel rx (q := q) hl rr
    exact ⟨ws, h1, h2, h3⟩
  · rw [if_neg h, if_neg h, if_neg (by rw [decide_eq_false h]; exact Bool.false_ne_true)]
    exact ⟨vs ++ [v], rr.append (.cons rx .nil), by rw [List.length_append, List.length_append, hl]; rfl, by rw [List.zip_append hl]; rfl⟩
end
/-- x[y], whatever there is -/
def dictK (x : D) (l : LH) (y : D) (k : Option D → Prop) : Prop := match x with
  | .dT ks ds => ∃ q, keyT y = some q ∧ k (getA ks ds q)
  | .dK ks ds => ∃ q, keyD y = some q ∧ k (getA ks ds q)
  | .ref a => getO l a fun o => match o with | .dT ks ds => ∃ q, keyT y = some q ∧ k (getA ks ds q) | .dK ks ds => ∃ q, keyD y = some q ∧ k (getA ks ds q) | _ => False
  | _ => False
theorem dictK_ok {K : PySem.W.Frag} {F Fr H : Hp} {l : LH} {x y : D} {v u : V} {k : Option D → Prop} (R : Rep K F Fr l H) (rx : RelD K F x v) (ry : RelD K F y u) (q : dictK x l y k) : ∃ a od o, v = .ref a ∧ DGet H a u o ∧ OptRel K F od o ∧ k od := by
  have T : ∀ {p : Addr} {ks : List (List Key)} {ds : List D} {vs : List V}, Rd H p (.dT (ks.zip vs)) → RelDs K F ds vs → (∃ q, keyT y = some q ∧ k (getA ks ds q)) → ∃ a od o, V.ref p = .ref a ∧ DGet H a u o ∧ OptRel K F od o ∧ k od := by
    rintro p ks ds vs h rr ⟨q, e1, e2⟩
    obtain ⟨b, rfl, hb⟩ := keyT_rel ry e1
    exact ⟨p, _, _, rfl, .inr ⟨_, q, b, h, rfl, R.fz _ _ hb, rfl⟩, getA_rel rr, e2⟩
  have P : ∀ {p : Addr} {ks : List Key} {ds : List D} {vs : List V}, Rd H p (.dK (ks.zip vs)) → RelDs K F ds vs → (∃ q, keyD y = some q ∧ k (getA ks ds q)) → ∃ a od o, V.ref p = .ref a ∧ DGet H a u o ∧ OptRel K F od o ∧ k od := by
    rintro p ks ds vs h rr ⟨q, e1, e2⟩
    exact ⟨p, _, _, rfl, .inl ⟨_, q, h, keyD_v ry e1, rfl⟩, getA_rel rr, e2⟩
  cases rx with
  | dT h hl rr => exact T (.inr ⟨_, R.fz _ _ h⟩) rr q
  | dK h hl rr => exact P (.inr ⟨_, R.fz _ _ h⟩) rr q
  | ref a =>
    obtain ⟨o, ho, q⟩ := q
    cases o with
    | dT ks ds =>
      obtain ⟨vs, rr, hl, hH⟩ := (R.lv _ _ ho).2
      exact T (.inl hH) rr q
    | dK ks ds =>
      obtain ⟨vs, rr, hl, hH⟩ := (R.lv _ _ ho).2
      exact P (.inl hH) rr q
    | _ => exact q.elim
  | _ => exact q.elim
section
variable {X : Cx} {a b e o : Expr} {ta tb te to tx : DTE} {pos p apos cpos : Pos} {k : Nat}
/-- x[y] of a dict -/
def dGetD (ta tb : DTE) : DTE := fun env l Q => ta env l fun x l1 => tb env l1 fun y l2 => dictK x l2 y fun od => match od with | some d => Q d l2 | none => False
theorem de_getD (hr : Room k X.A) (ha : DE X a ta) (hb : DE X b tb) (hs : NoSl b := by exact fun _ _ => rfl) : DE X (.Subscript a b pos) (dGetD ta tb) := by
  refine ⟨?_⟩
  intro F Fr env l σ H Q hE hR ht
  have hu : X.A.units + 1 < cLine := by have := hr.un; omega
  refine (pe_dget hu peW peW hs).we ?_
  refine (ha F Fr env l σ H _ hE hR ht).mono fun x H1 ⟨F1, d1, l1, s1, r1, R1, q1⟩ => ?_
  refine (hb F1 Fr env l1 σ H1 _ (hE.mono s1) R1 q1).mono fun y H2 ⟨F2, d2, l2, s2, r2, R2, q2⟩ => ?_
  obtain ⟨a, od, o, rfl, g, ro, q3⟩ := dictK_ok R2 (r1.mono s2) r2 q2
  cases od with
  | none => exact q3.elim
  | some d =>
    cases o with
    | none => exact ro.elim
    | some v => exact ⟨a, v, rfl, g, (LK.mk ro R2 q3).weak (s1.trans s2)⟩
theorem OptRel.getD {K : PySem.W.Frag} {F : Hp} {od : Option D} {o : Option V} {d : D} {v : V} (r : OptRel K F od o) (rd : RelD K F d v) : RelD K F (od.getD d) (o.getD v) := by
  cases od with
  | none =>
    cases o with
    | none => exact rd
    | some _ => exact r.elim
  | some _ =>
    cases o with
    | none => exact r.elim
    | some _ => exact r
/-- y in d, y not in d -/
def dInD (te to : DTE) : DTE := fun env l Q => te env l fun y l1 => to env l1 fun x l2 => dictK x l2 y fun od => Q (.bl od.isSome) l2
def dNotInD (te to : DTE) : DTE := fun env l Q => te env l fun y l1 => to env l1 fun x l2 => dictK x l2 y fun od => Q (.bl (!od.isSome)) l2
theorem OptRel.is {K : PySem.W.Frag} {F : Hp} {od : Option D} {o : Option V} (r : OptRel K F od o) : o.isSome = od.isSome := by
  cases od <;> cases o <;> first | rfl | exact r.elim
theorem two_in (he : DE X e te) (ho : DE X o to) {F Fr : Hp} {env : DSt} {l : LH} {σ : St} {H : Hp} {Q : DK} {g : Bool → Bool} (hE : RepE X.K F env σ) (hR : Rep X.K F Fr l H) (ht : te env l fun y l1 => to env l1 fun x l2 => dictK x l2 y fun od => Q (.bl (g od.isSome)) l2) :
    WE X e σ H fun y H1 => WE X o σ H1 fun x H2 => ∃ a o, x = .ref a ∧ DGet H2 a y o ∧ LK X.K F Fr Q (.bl (g o.isSome)) H2 := by
  refine (he F Fr env l σ H _ hE hR ht).mono fun y H1 ⟨F1, d1, l1, s1, r1, R1, q1⟩ => ?_
  refine (ho F1 Fr env l1 σ H1 _ (hE.mono s1) R1 q1).mono fun x H2 ⟨F2, d2, l2, s2, r2, R2, q2⟩ => ?_
  obtain ⟨a, od, o, e1, gd, ro, q3⟩ := dictK_ok R2 r2 (r1.mono s2) q2
  refine ⟨a, o, e1, gd, ?_⟩
  rw [ro.is]
  exact (LK.mk (.bl _) R2 q3).weak (s1.trans s2)
theorem dt_inD (hr : Room k X.A) (he : DE X e te) (ho : DE X o to) (h1 : behindInMarks .In o = false := by rfl) : DT X (.Compare e [.In] [o] pos) (dTV (dInD te to)) := by
  refine ⟨?_⟩
  intro F Fr env l σ H Q hE hR ht
  have hu : X.A.units + 1 < cLine := by have := hr.un; omega
  refine (pt_cmp (pc_din hu peW peW) (h1 := h1)).wt ?_
  refine (two_in (g := id) (Q := fun x l1 => match x with | .bl b => Q b l1 | _ => False) he ho hE hR ht).mono fun y H1 w => w.mono fun x H2 ⟨a, o, e1, g, F3, d3, l3, s3, r3, R3, q3⟩ => ?_
  cases r3
  exact ⟨a, o, e1, g, _, rfl, F3, l3, s3, R3, q3⟩
theorem dt_notInD (hr : Room k X.A) (he : DE X e te) (ho : DE X o to) (h1 : behindInMarks .NotIn o = false := by rfl) : DT X (.Compare e [.NotIn] [o] pos) (dTV (dNotInD te to)) := by
  refine ⟨?_⟩
  intro F Fr env l σ H Q hE hR ht
  have hu : X.A.units + 1 < cLine := by have := hr.un; omega
  refine (pt_cmp (pc_dnotin hu peW peW) (h1 := h1)).wt ?_
  refine (two_in (g := fun b => !b) (Q := fun x l1 => match x with | .bl b => Q b l1 | _ => False) he ho hE hR ht).mono fun y H1 w => w.mono fun x H2 ⟨a, o, e1, g, F3, d3, l3, s3, r3, R3, q3⟩ => ?_
  cases r3
  exact ⟨a, o, e1, g, _, rfl, F3, l3, s3, R3, q3⟩
/-- d[y] = v -/
def putDK (x y d : D) (l : LH) (Q : LH → Prop) : Prop := match x with
  | .ref a => getO l a fun o => match o with
    | .dT ks ds => ∃ q, keyT y = some q ∧ ks.length < sizeLine ∧ Q (uL l a (.dT (putKs ks q) (putDs ks ds q d)))
    | .dK ks ds => ∃ q, keyD y = some q ∧ ks.length < sizeLine ∧ Q (uL l a (.dK (putKs ks q) (putDs ks ds q d)))
    | _ => False
  | _ => False
def sPutD (to ti tv : DTE) : DTS := fun E env l => tv env l fun d l1 => to env l1 fun x l2 => ti env l2 fun y l3 => putDK x y d l3 fun l4 => E.nx env l4
theorem ds_putD {i v : Expr} {ti tv : DTE} {pos' : Pos} (hr : Room k X.A) (ho : DE X o to) (hi : DE X i ti) (hv : DE X v tv) (hs : swapsWith v (some (.Subscript o i pos')) pos.line X.env = pure false := by rfl) : DS X (.Assign [.Subscript o i pos'] v pos) (sPutD to ti tv) := by
  refine ⟨?_⟩
  intro F Fr env l σ H E hE hR ht
  have hu : X.A.units + 1 < cLine := by have := hr.un; omega
  refine (ps_dput hu peW peW peW hs).ws ?_
  refine (hv F Fr env l σ H _ hE hR ht).mono fun w H1 ⟨F1, d, l1, s1, r1, R1, q1⟩ => ?_
  refine (ho F1 Fr env l1 σ H1 _ (hE.mono s1) R1 q1).mono fun x H2 ⟨F2, d2, l2, s2, r2, R2, q2⟩ => ?_
  refine (hi F2 Fr env l2 σ H2 _ (hE.mono (s1.trans s2)) R2 q2).mono fun y H3 ⟨F3, d3, l3, s3, r3, R3, q3⟩ => ?_
  have S := s1.trans (s2.trans s3)
  have rw1 := r1.mono (s2.trans s3)
  cases r2 with
  | ref a =>
    obtain ⟨u, ho, q3⟩ := q3
    cases u with
    | dT ks ds =>
      obtain ⟨q, hq, hz, q3⟩ := q3
      obtain ⟨vs, rr, hl, hH⟩ := (R3.lv _ _ ho).2
      obtain ⟨b, rfl, hb⟩ := keyT_rel r3 hq
      obtain ⟨ws, w1, w2, w3⟩ := put_rel (q := q) rw1 hl rr
      refine ⟨a, _, rfl, DPut.t hH (R3.fz _ _ hb) (by rw [List.length_zip]; omega), F3, env, _, S, hE.mono S, ?_, q3⟩
      rw [w3]
      exact R3.write ho rfl (show DOk X.K F3 _ a (.dT _ _) from ⟨ws, w1, w2, upd_same⟩)
    | dK ks ds =>
      obtain ⟨q, hq, hz, q3⟩ := q3
      obtain ⟨vs, rr, hl, hH⟩ := (R3.lv _ _ ho).2
      obtain rfl := keyD_v r3 hq
      obtain ⟨ws, w1, w2, w3⟩ := put_rel (q := q) rw1 hl rr
      refine ⟨a, _, rfl, DPut.k hH (by rw [List.length_zip]; omega), F3, env, _, S, hE.mono S, ?_, q3⟩
      rw [w3]
      exact R3.write ho rfl (show DOk X.K F3 _ a (.dK _ _) from ⟨ws, w1, w2, upd_same⟩)
    | _ => exact q3.elim
  | _ => exact q3.elim
/-- {} -/
def dNewT : DTE := fun _ l Q => newL (.dT [] []) l Q
def dNewK : DTE := fun _ l Q => newL (.dK [] []) l Q
theorem de_newT : DE X (.Dict [] [] pos) dNewT := by
  refine ⟨?_⟩
  intro F Fr env l σ H Q hE hR ht
  refine pe_dnewT.we fun p np => ?_
  exact ⟨F, .ref p, _, Same.refl F, .ref p, hR.made np (show DOk X.K F _ p (.dT [] []) from ⟨[], .nil, rfl, upd_same⟩), ht p (hR.l_none np)⟩
theorem de_newK : DE X (.Dict [] [] pos) dNewK := by
  refine ⟨?_⟩
  intro F Fr env l σ H Q hE hR ht
  refine pe_dnewK.we fun p np => ?_
  exact ⟨F, .ref p, _, Same.refl F, .ref p, hR.made np (show DOk X.K F _ p (.dK [] []) from ⟨[], .nil, rfl, upd_same⟩), ht p (hR.l_none np)⟩
end
end DL

namespace DL
open PySem PySem.Spec PyProof.Rows L2
/-! ### what is frozen, deep -/
theorem Rep.freezeH {K : PySem.W.Frag} {F Fr H : Hp} {l : LH} (r : Rep K F Fr l H) {a : Addr} {o : DO} (h : l a = some o) (nf : isFz o = false) (u : HO) : Rep K (upd F a u) Fr (dL l a) (upd H a u) where
  fz := fun b x q => by
    by_cases hb : b = a
    · subst hb; rw [upd_same] at q ⊢; exact q
    · rw [upd_ne hb] at q ⊢; exact r.fz b x q
  fr := fun b x q => by
    rw [upd_ne (fun z => by subst z; rw [(r.fd b x q).2] at h; cases h)]
    exact r.fr b x q
  fd := fun b x q => by
    have hb : b ≠ a := fun z => by subst z; rw [(r.fd b x q).2] at h; cases h
    unfold dL
    rw [upd_ne hb, if_neg hb]
    exact r.fd b x q
  lv := fun b x q => by
    unfold dL at q
    by_cases hb : b = a
    · rw [if_pos hb] at q; cases q
    · rw [if_neg hb] at q
      obtain ⟨h1, h2⟩ := r.lv b x q
      exact ⟨fun z => by rw [upd_ne hb]; exact h1 z, h2.mono (same_upd ((r.lv a o h).1 nf)) (upd_ne hb)⟩
  ft := r.ft
theorem Rep.drop {K : PySem.W.Frag} {F Fr H : Hp} {l : LH} (r : Rep K F Fr l H) (a : Addr) : Rep K F Fr (dL l a) H where
  fz := r.fz
  fr := r.fr
  fd := fun b x q => by
    refine ⟨(r.fd b x q).1, ?_⟩
    unfold dL
    split
    · rfl
    · exact (r.fd b x q).2
  lv := fun b x q => by
    unfold dL at q
    split at q
    · cases q
    · exact r.lv b x q
  ft := r.ft
def fzList (f : D → LH → DK → Prop) : List D → LH → (List D → LH → Prop) → Prop
  | [], l, k => k [] l
  | d :: ds, l, k => f d l fun d' l1 => fzList f ds l1 fun ds' l2 => k (d' :: ds') l2
def fzN : Nat → D → LH → DK → Prop
  | 0, d, l, k => k d l
  | n + 1, .ref a, l, k => getO l a fun o => match o with
    | .lst ds => fzList (fzN n) ds (dL l a) fun ds' l' => k (.lst ds') l'
    | .dT ks ds => k (.dT ks ds) (dL l a)
    | .dK ks ds => k (.dK ks ds) (dL l a)
    | .ins _ _ => k (.ref a) l
    | .dN _ _ _ => k (.ref a) l
    | .fz d => k d (dL l a)
  | n + 1, .lst ds, l, k => fzList (fzN n) ds l fun ds' l' => k (.lst ds') l'
  | n + 1, .tup ds, l, k => fzList (fzN n) ds l fun ds' l' => k (.tup ds') l'
  | _ + 1, d, l, k => k d l
section
variable {X : Cx} {pins : List (Addr × Obj)} {σ : St} {s : Shared} {Fr : Hp}
theorem fzList_ok {f : D → LH → DK → Prop} (hf : ∀ {d : D} {l : LH} {k : DK} {F H : Hp} {v : V}, Inv X pins σ H s → Rep X.K F Fr l H → RelD X.K F d v → f d l k → ∃ H' F' d' l', Inv X pins σ H' s ∧ Same F F' ∧ Rep X.K F' Fr l' H' ∧ RelD X.K F' d' v ∧ k d' l') :
    ∀ {ds : List D} {l : LH} {k : List D → LH → Prop} {F H : Hp} {vs : List V}, Inv X pins σ H s → Rep X.K F Fr l H → RelDs X.K F ds vs → fzList f ds l k → ∃ H' F' ds' l', Inv X pins σ H' s ∧ Same F F' ∧ Rep X.K F' Fr l' H' ∧ RelDs X.K F' ds' vs ∧ k ds' l'
  | [], l, k, F, H, _, I, R, .nil, q => ⟨H, F, [], l, I, Same.refl F, R, .nil, q⟩
  | d :: ds, l, k, F, H, _, I, R, .cons r rr, q => by
    obtain ⟨H1, F1, d1, l1, I1, s1, R1, r1, q1⟩ := hf I R r q
    obtain ⟨H2, F2, ds2, l2, I2, s2, R2, r2, q2⟩ := fzList_ok hf I1 R1 (rr.mono s1) q1
    exact ⟨H2, F2, d1 :: ds2, l2, I2, s1.trans s2, R2, .cons (r1.mono s2) r2, q2⟩
theorem lock_dT {F H : Hp} {l : LH} {a : Addr} {ks : List (List Key)} {ds : List D} (I : Inv X pins σ H s) (R : Rep X.K F Fr l H) (ho : l a = some (.dT ks ds)) : ∃ H' F' u, Inv X pins σ H' s ∧ Same F F' ∧ Rep X.K F' Fr (dL l a) H' ∧ RelD X.K F' (.dT ks ds) (.ref a) ∧ F' a = some u := by
  obtain ⟨vs, rr, hl, hH⟩ := (R.lv _ _ ho).2
  obtain ⟨od, I2⟩ := I.lock hH (by exact trivial)
  have s1 := same_upd (o := .frz od (.dT (ks.zip vs))) ((R.lv _ _ ho).1 rfl)
  exact ⟨_, _, _, I2, s1, R.freezeH ho rfl _, .dT upd_same hl (rr.mono s1), upd_same⟩
theorem lock_dK {F H : Hp} {l : LH} {a : Addr} {ks : List Key} {ds : List D} (I : Inv X pins σ H s) (R : Rep X.K F Fr l H) (ho : l a = some (.dK ks ds)) : ∃ H' F' u, Inv X pins σ H' s ∧ Same F F' ∧ Rep X.K F' Fr (dL l a) H' ∧ RelD X.K F' (.dK ks ds) (.ref a) ∧ F' a = some u := by
  obtain ⟨vs, rr, hl, hH⟩ := (R.lv _ _ ho).2
  obtain ⟨od, I2⟩ := I.lock hH (by exact trivial)
  have s1 := same_upd (o := .frz od (.dK (ks.zip vs))) ((R.lv _ _ ho).1 rfl)
  exact ⟨_, _, _, I2, s1, R.freezeH ho rfl _, .dK upd_same hl (rr.mono s1), upd_same⟩
theorem fzN_ok : ∀ (n : Nat) {d : D} {l : LH} {k : DK} {F H : Hp} {v : V}, Inv X pins σ H s → Rep X.K F Fr l H → RelD X.K F d v → fzN n d l k → ∃ H' F' d' l', Inv X pins σ H' s ∧ Same F F' ∧ Rep X.K F' Fr l' H' ∧ RelD X.K F' d' v ∧ k d' l'
  | 0, d, l, k, F, H, v, I, R, r, q => ⟨H, F, d, l, I, Same.refl F, R, r, q⟩
  | n + 1, d, l, k, F, H, v, I, R, r, q => by
    cases r with
    | ref a =>
      obtain ⟨o, ho, q⟩ := q
      cases o with
      | lst ds =>
        obtain ⟨vs, rr, hH⟩ := (R.lv _ _ ho).2
        have nF := (R.lv _ _ ho).1 rfl
        have s1 := same_upd (o := .lst vs) nF
        obtain ⟨H2, F2, ds2, l2, I2, s2, R2, r2, q2⟩ := fzList_ok (fzN_ok n) I (R.freeze ho rfl hH) (rr.mono s1) q
        exact ⟨H2, F2, .lst ds2, l2, I2, s1.trans s2, R2, .lst (s2 _ _ upd_same) r2, q2⟩
      | dT ks ds =>
        obtain ⟨H', F', u, I2, s1, R2, r2, _⟩ := lock_dT I R ho
        exact ⟨H', F', _, _, I2, s1, R2, r2, q⟩
      | dK ks ds =>
        obtain ⟨H', F', u, I2, s1, R2, r2, _⟩ := lock_dK I R ho
        exact ⟨H', F', _, _, I2, s1, R2, r2, q⟩
      | ins c ds => exact ⟨H, F, _, _, I, Same.refl F, R, .ref a, q⟩
      | dN o ks ds => exact ⟨H, F, _, _, I, Same.refl F, R, .ref a, q⟩
      | fz d => exact ⟨H, F, _, _, I, Same.refl F, R.drop a, (R.lv _ _ ho).2.1, q⟩
    | lst h1 rr =>
      obtain ⟨H2, F2, ds2, l2, I2, s2, R2, r2, q2⟩ := fzList_ok (fzN_ok n) I R rr q
      exact ⟨H2, F2, .lst ds2, l2, I2, s2, R2, .lst (s2 _ _ h1) r2, q2⟩
    | tup h1 rr =>
      obtain ⟨H2, F2, ds2, l2, I2, s2, R2, r2, q2⟩ := fzList_ok (fzN_ok n) I R rr q
      exact ⟨H2, F2, .tup ds2, l2, I2, s2, R2, .tup (s2 _ _ h1) r2, q2⟩
    | non => exact ⟨H, F, _, l, I, Same.refl F, R, .non, q⟩
    | bl b => exact ⟨H, F, _, l, I, Same.refl F, R, .bl b, q⟩
    | int b => exact ⟨H, F, _, l, I, Same.refl F, R, .int b, q⟩
    | str b => exact ⟨H, F, _, l, I, Same.refl F, R, .str b, q⟩
    | scr b => exact ⟨H, F, _, l, I, Same.refl F, R, .scr b, q⟩
    | dT a b c => exact ⟨H, F, _, l, I, Same.refl F, R, .dT a b c, q⟩
    | dK a b c => exact ⟨H, F, _, l, I, Same.refl F, R, .dK a b c, q⟩
    | exc a b => exact ⟨H, F, _, l, I, Same.refl F, R, .exc a b, q⟩
    | exc1 a b c d => exact ⟨H, F, _, l, I, Same.refl F, R, .exc1 a b c d, q⟩
    | kt a b c d => exact ⟨H, F, _, l, I, Same.refl F, R, .kt a b c d, q⟩
end
section
variable {X : Cx} {e o : Expr} {te to : DTE} {pos apos cpos tpos p : Pos}
def dFz (n : Nat) (te : DTE) : DTE := fun env l Q => te env l fun d l1 => fzN n d l1 Q
theorem de_fz (n : Nat) (h : DE X e te) : DE X e (dFz n te) := by
  refine ⟨?_⟩
  intro F Fr env l σ H Q hE hR ht pins s I
  refine thn (h F Fr env l σ H _ hE hR ht pins s I) fun u s1 ⟨v, H1, I1, rv, F1, d, l1, s1', r1, R1, q1⟩ => ?_
  obtain ⟨H2, F2, d2, l2, I2, s2, R2, r2, q2⟩ := fzN_ok n I1 R1 r1 q1
  exact ⟨v, H2, I2, rv, F2, d2, l2, s1'.trans s2, r2, R2, q2⟩
/-- freezing a field of an instance: x.f, a list, as what is never written any more -/
def dFzF (c : Cl) (i : Nat) (te : DTE) : DTE := fun env l Q => te env l fun x l1 => atIns x l1 c fun a ds => nthK ds i fun d => match d with | .ref b => fzN 1 (.ref b) l1 fun d' l2 => putI ds i d' fun ds' => l2 a = some (.ins c ds) ∧ Q d' (uL l2 a (.ins c ds')) | _ => False
theorem putN_at {α : Type} : ∀ {vs : List α} {i : Nat} {v : α}, vs[i]? = some v → putN vs i v = vs
  | [], i, v, h => by simp at h
  | x :: r, 0, v, h => by
    simp at h
    subst h
    rfl
  | x :: r, n + 1, v, h => by
    show x :: putN r n v = x :: r
    rw [putN_at (by simpa using h)]
theorem de_fzF {c : Cl} {C : Addr} {f : Str} (i : Nat) (hf : c.fs[i]? = some f) (nd : c.fs.Nodup) (hC : PySem.W.nsIn X.K mainGlobals c.name = some (some (.ref C))) (cl : Cls X.K C) (na : NoAttr X.K C f) (h : DE X e te) (hb : attributeBase e f X.env (eval e X.env) = eval e X.env := by rfl) :
    DE X (.Attribute e f pos) (dFzF c i te) := by
  refine ⟨?_⟩
  intro F Fr env l σ H Q hE hR ht pins s I
  let Q1 : DK := fun d l1 => ∃ a ds b, d = .ref b ∧ l1 a = some (.ins c ds) ∧ ds[i]? = some d ∧ fzN 1 d l1 fun d' l2 => putI ds i d' fun ds' => l2 a = some (.ins c ds) ∧ Q d' (uL l2 a (.ins c ds'))
  have h1 : WE X (.Attribute e f pos) σ H (LK X.K F Fr Q1) := by
    refine (pe_fld peW hb).we ?_
    refine (h F Fr env l σ H _ hE hR ht).mono fun x H1 ⟨F1, d, l1, s1, r1, R1, q1⟩ => ?_
    obtain ⟨a, ds, dx, vs, rfl, rfl, q, ho, rr, hl, hH⟩ := atIns_ok hC R1 r1 q1
    obtain ⟨d, hd, q⟩ := nthK_ok q
    obtain ⟨v, hv, rv⟩ := rr.get hd
    cases d with
    | ref b => exact ⟨a, C, dx, _, v, rfl, hH, cl, na, lookup_zip nd hf hv, F1, .ref b, l1, s1, rv, R1, a, ds, b, rfl, ho, hd, q⟩
    | _ => exact q.elim
  refine thn (h1 pins s I) fun u s1 ⟨v, H1, I1, rv, F1, d, l1, s1', r1, R1, a, ds, b, eb, ho, hd, q⟩ => ?_
  subst eb
  obtain ⟨H2, F2, d2, l2, I2, s2, R2, r2, q2⟩ := fzN_ok 1 I1 R1 r1 q
  obtain ⟨hi, ho2, q2⟩ := putI_ok q2
  obtain ⟨C2, dx2, vs2, rr2, hC2, hl2, hH2⟩ := (R2.lv _ _ ho2).2
  rw [hC] at hC2
  cases hC2
  refine ⟨v, H2, I2, rv, F2, d2, _, s1'.trans s2, r2, ?_, q2⟩
  obtain ⟨w, hw, rw1⟩ := rr2.get hd
  have same : upd H2 a (.ins C dx2 (c.fs.zip vs2)) = H2 := by
    funext b
    by_cases hb : b = a
    · subst hb; rw [upd_same, hH2]
    · rw [upd_ne hb]
  have ew : w = v := by
    cases r1
    cases rw1
    rfl
  subst ew
  have := R2.write ho2 rfl (u := .ins C dx2 (c.fs.zip vs2)) (show DOk X.K F2 _ a (.ins c (putN ds i d2)) from ⟨C, dx2, _, rr2.putN r2 i, hC, by rw [putN_at hw]; exact hl2, by rw [putN_at hw]; exact upd_same⟩)
  rw [same] at this
  exact this
end
end DL

namespace DL
open PySem PySem.Spec PyProof.Rows L2
/-! ### d.items() of a dict with tuple keys -/
section
variable {X : Cx} {pins : List (Addr × Obj)} {σ : St} {H : Hp} {s : Shared} {d : Addr} {o : Obj}
end
section
variable {X : Cx} {e : Expr} {te : DTE} {apos cpos tpos pos p : Pos} {elts : List Expr} {kk : Nat}
/-! ### dict(d) of a dict with tuple keys -/
section
variable {X : Cx}
end
/-! the readings -/
theorem dL_uL' {l : LH} {b : Addr} {o : DO} (nb : l b = none) : dL (uL l b o) b = l := by
  funext c
  unfold dL
  by_cases hc : c = b
  · subst hc; rw [if_pos rfl, nb]
  · rw [if_neg hc, uL_ne hc]
end
end DL

namespace DL
open PySem PySem.Spec PyProof.Rows L2
/-! ### < over data -/
section
variable {X : Cx} {a b e o : Expr} {ta tb te to : DTE} {pos p apos cpos : Pos} {k : Nat}
/-! ### x in xs, data; x in s, texts -/
def kInD (neg : Bool) : D → D → LH → DK → Prop := fun x y l Q => resL x l fun x => resL y l fun y => match y with
  | .lst ds => okD x ∧ okD (.lst ds) ∧ Q (.bl ((ds.any fun z => eqD z x) != neg)) l
  | _ => False
theorem any_toPys (ds : List D) (x : D) : ((toPys ds).any fun z => PyData.eqv z (toPy x)) = ds.any fun z => eqD z x := by
  rw [toPys_map, List.any_map]
  rfl
theorem kNotInD_ok : KOp X (rNotInD X.K) (kInD true) := by
  intro F Fr l H Q d e v u Q' R rd re hq q
  obtain ⟨d', q, h1⟩ := resL_ok R rd q
  obtain ⟨e', q, h2⟩ := resL_ok R re q
  cases e' with
  | lst ds =>
    obtain ⟨c1, c2, q⟩ := q
    refine ⟨_, _, h1 (SeqAt.canLay_of_shaped c1), h2 (SeqAt.canLay_of_shaped c2), c1, c2, hq _ _ (LK.mk (.bl _) R ?_)⟩
    rw [any_toPys]
    rwa [Bool.bne_true] at q
  | _ => exact q.elim
def dNotInL : DTE → DTE → DTE := dOp (kInD true)
theorem dt_notInL (hr : Room k X.A) (ha : DE X a ta) (hb : DE X b tb) (hm : behindInMarks .NotIn b = false := by rfl) : DT X (.Compare a [.NotIn] [b] pos) (dTV (dNotInL ta tb)) := dt_cmp (op_notInD (by have := hr.un; omega)) kNotInD_ok ha hb hm
/-! ### str of an int too -/
def rStr2 (K : PySem.W.Frag) : List V → Hp → VK → Prop := fun xs H Q => (∃ i, xs = [.int i] ∧ i.natAbs.log2 < 1920 ∧ Q (.str (toString i)) H) ∨ rStr K xs H Q
def kStr2 : List D → LH → DK → Prop := fun ds l Q => match ds with
  | [.int i] => i.natAbs.log2 < 1920 ∧ Q (.str (toString i)) l
  | ds => kStr ds l Q
theorem kStr2_ok : KCall X (rStr2 X.K) kStr2 := by
  intro F Fr l H Q ds vs Q' R rd hq q
  cases rd with
  | nil => exact q.elim
  | @cons d v ds' vs' r1 rr =>
    cases rr with
    | cons _ _ => cases d <;> exact q.elim
    | nil =>
      cases r1 with
      | int i => exact .inl ⟨i, rfl, q.1, hq _ _ (LK.mk (.str _) R q.2)⟩
      | non => exact .inr (kStr_ok F Fr l H Q _ _ Q' R (.cons .non .nil) hq q)
      | bl b => exact .inr (kStr_ok F Fr l H Q _ _ Q' R (.cons (.bl b) .nil) hq q)
      | str b => exact .inr (kStr_ok F Fr l H Q _ _ Q' R (.cons (.str b) .nil) hq q)
      | ref b => exact .inr (kStr_ok F Fr l H Q _ _ Q' R (.cons (.ref b) .nil) hq q)
      | tup h1 h2 => exact .inr (kStr_ok F Fr l H Q _ _ Q' R (.cons (.tup h1 h2) .nil) hq q)
      | scr h1 => exact .inr (kStr_ok F Fr l H Q _ _ Q' R (.cons (.scr h1) .nil) hq q)
      | lst h1 h2 => exact .inr (kStr_ok F Fr l H Q _ _ Q' R (.cons (.lst h1 h2) .nil) hq q)
      | dT h1 h2 h3 => exact .inr (kStr_ok F Fr l H Q _ _ Q' R (.cons (.dT h1 h2 h3) .nil) hq q)
      | dK h1 h2 h3 => exact .inr (kStr_ok F Fr l H Q _ _ Q' R (.cons (.dK h1 h2 h3) .nil) hq q)
      | exc h1 h2 => exact .inr (kStr_ok F Fr l H Q _ _ Q' R (.cons (.exc h1 h2) .nil) hq q)
      | exc1 h1 h2 h3 h4 => exact .inr (kStr_ok F Fr l H Q _ _ Q' R (.cons (.exc1 h1 h2 h3 h4) .nil) hq q)
      | kt h1 h2 h3 h4 => exact .inr (kStr_ok F Fr l H Q _ _ Q' R (.cons (.kt h1 h2 h3 h4) .nil) hq q)
theorem de_str2 (hr : Room k X.A) (hgd : X.A.guards = some []) (hg : Gl X "str") (hm : X.mg "str" = none) (h : DE X e te) (he : starEach [e] X.env = (false, eval e X.env) :: starEach [] X.env := by rfl) : DE X (.Call (.Name "str" p) [e] [] pos) (dCall kStr2 (aCons te aNil)) :=
  de_callT (call_str_int.or (call_strSeq hr hgd)) kStr2_ok hg hm (by decide +kernel) (da_cons h da_nil he) (by decide) (by decide) he
/-! ### xs.index(x) -/
/-! ### len, of dicts too -/
theorem da_consT {a : List Expr} {b : Nat} {c : Pos} {es : List Expr} {te : DTE} {u : DTA} (ha : DE X (.Tuple a b c) te) (hr : DA X es u) : DA X (.Tuple a b c :: es) (aCons te u) := da_cons ha hr rfl
theorem da_consL {a : List Expr} {c : Pos} {es : List Expr} {te : DTE} {u : DTA} (ha : DE X (.List a c) te) (hr : DA X es u) : DA X (.List a c :: es) (aCons te u) := da_cons ha hr rfl
end
end DL

namespace DL
open PySem PySem.Spec PyProof.Rows L2
/-! ### written data, as one -/
section
variable {X : Cx}
end
end DL

namespace DL
open PySem PySem.Spec PyProof.Rows L2
/-! ### list.insert -/
section
variable {X : Cx}
/-! ### list(range(n)) -/
/-! ### range downwards -/
/-! ### for over a list that may be written, as long as it stays -/
/-! ### a new list of two, to be changed -/
end
end DL

namespace DL
open PySem PySem.Spec PyProof.Rows L2
/-! the end: the law's def, called by the claim -/
/-- from an abstract heap that tracks at most the script -/
theorem law_core {P : Program} {w : World} {K : PySem.W.Frag} {mg mb : Str → Option Value} {k : Nat} {fa a : Addr} {fd : FuncData} {x : Str} {dsp : DSp} {s1 : Shared} {vs : List Value} {ns : List Int}
    (KX : K.In s1.heap) (hns : s1.heap.Ns mainGlobals mg) (hb : s1.heap.Ns builtinsNs mb) (hbb : ∀ x : Str, x ≠ "__name__" → mb x = bootBuiltins x) (hlim : s1.heap.NoLimit) (hg : s1.gens = #[])
    (ha : s1.heap.get? a = some { cls := .type "list", data := .seq vs.toArray }) (hr : Room k callerA)
    (G : ∀ base : Heap, K.In base → base.Ns mainGlobals mg → FnG P w K mg base k fa fd [x] dsp) (hbind : ∀ (s : Shared) (u : Value), BindsTo s fd ⟨[u], []⟩ [(x, u)])
    (hsp : dsp [.scr ns] (fun _ => none) fun d _ => d = .bl true)
    (H : Hp) (hO : Only H) (hS : SqL K H a (ns.map V.int)) (hok : HOk P w H s1.heap) (hA : ∀ b, H b ≠ none → b = a) (hK : H a ≠ none → K.lookup a = none) :
    codeAny (model P w) callerA (.call (.ref fa) ⟨[.ref a], []⟩) (fun r s' => r = .ok (.ret (.bool true)) ∧ OldK s1.heap s'.heap ∧ s'.os = s1.os ∧ AllBare s'.gens) s1 := by
  have tracked : ∀ {b : Addr}, H b ≠ none → s1.heap.get? b = some { cls := .type "list", data := .seq vs.toArray } := fun {b} h => by rw [hA b h]; exact ha
  have free : ∀ {b : Addr} {o : Obj} {es : Array DictEntry} {ep : Nat}, s1.heap.get? b = some o → o.data = .dict es ep → H b = none := fun {b o es ep} e d => by
    by_cases q : H b = none
    · exact q
    · rw [tracked q] at e
      cases e
      exact nomatch d
  have toBase : ∀ {b : Addr} {m : Str → Option Value}, s1.heap.Ns b m → (hidT s1.heap H).Ns b m := fun ⟨o, es, ep, e, d, r⟩ => ⟨o, es, ep, hidT_get e (free e d), d, r⟩
  have kbase : K.In (hidT s1.heap H) := fun b o e => hidT_get (KX b o e) (by
    by_cases q : H b = none
    · exact q
    · have eb := hA b q
      subst eb
      rw [hK q] at e
      cases e)
  have md : Mod K mg (hidT s1.heap H) := ⟨kbase, toBase hns, ⟨mb, toBase hb, hbb⟩, hlim.elim fun mc h => ⟨mc, toBase h.1, h.2⟩⟩
  have e0 : Env0 P w K mg (hidT s1.heap H) callerA [] s1 H := ⟨rfl, md, fun b o e => of_hidT e, Nat.le_of_eq (hidT_size _ _), trivial, (fun b hb => nomatch (show b ∈ ([] : List Addr) from hb)), hok, .of_eq hg⟩
  have rep : Rep K H (fun _ => none) (fun _ => none) H := ⟨fun _ _ e => e, (fun _ _ e => nomatch e), (fun _ _ e => nomatch e), (fun _ _ e => nomatch e), (fun _ _ e => nomatch e)⟩
  have sp : spOf K dsp [.ref a] H (fun v _ => v = .bl true) L2.E0 := ⟨H, fun _ => none, [.scr ns], fun _ => none, fun d _ => d = .bl true, .cons (.scr hS) .nil, rep, hsp, fun v H' ⟨F', d, l, _, r, _, e⟩ => by subst e; cases r; rfl⟩
  refine codeAny_mono ((G _ kbase (toBase hns)).run callerA [] s1 H ⟨[.ref a], []⟩ [.ref a] [.ref a] _ _ hr rfl e0 (hbind s1 (.ref a)) (.cons rfl .nil) sp) fun r s' h => ?_
  cases r with
  | error e => exact h.elim
  | ok fl =>
    cases fl with
    | next => exact h.elim
    | brk => exact h.elim
    | cont => exact h.elim
    | ret u =>
      obtain ⟨v, H', os, bare, un, hok', rv, q⟩ := h
      replace q : v = .bl true := q
      subst q
      cases (show u = Value.bool true from rv)
      refine ⟨rfl, OldK.of_keep fun b o e => ?_, os, bare⟩
      by_cases q : H b = none
      · exact un.keep b o e q (fun z => nomatch (show b ∈ ([] : List Addr) from z)) (fun z => nomatch (show b ∈ ([] : List Addr) from z))
      · rcases hO b with z | ⟨ob, xs, z⟩
        · exact absurd z q
        · have z1 := (hok b _ z).1
          have z2 := (hok' b _ (un.frzs b ob _ z)).1
          rw [e] at z1
          cases z1
          exact z2
theorem law_callG {P : Program} {w : World} {K : PySem.W.Frag} {mg mb : Str → Option Value} {k : Nat} {fa a : Addr} {fd : FuncData} {x : Str} {dsp : DSp} {s1 : Shared} {vs : List Value} {ns : List Int}
    (KX : K.In s1.heap) (hns : s1.heap.Ns mainGlobals mg) (hb : s1.heap.Ns builtinsNs mb) (hbb : ∀ x : Str, x ≠ "__name__" → mb x = bootBuiltins x) (hlim : s1.heap.NoLimit) (hg : s1.gens = #[])
    (ha : s1.heap.get? a = some { cls := .type "list", data := .seq vs.toArray }) (hi : IntsAre vs ns) (hl : ns.length ≤ sizeLine) (hr : Room k callerA)
    (G : ∀ base : Heap, K.In base → base.Ns mainGlobals mg → FnG P w K mg base k fa fd [x] dsp) (hbind : ∀ (s : Shared) (u : Value), BindsTo s fd ⟨[u], []⟩ [(x, u)])
    (hsp : dsp [.scr ns] (fun _ => none) fun d _ => d = .bl true) :
    codeAny (model P w) callerA (.call (.ref fa) ⟨[.ref a], []⟩) (fun r s' => r = .ok (.ret (.bool true)) ∧ OldK s1.heap s'.heap ∧ s'.os = s1.os ∧ AllBare s'.gens) s1 := by
  have rv := vals_of_ints hi
  have lenV := hi.length
  by_cases hk : K.lookup a = none
  · let H : Hp := upd (fun _ => none) a (.frz { cls := .type "list", data := .seq vs.toArray } (.lst (ns.map V.int)))
    have other : ∀ {b : Addr}, b ≠ a → H b = none := fun h => upd_ne h
    have same : H a = _ := upd_same
    refine law_core KX hns hb hbb hlim hg ha hr G hbind hsp H (fun b => ?_) (.inl (.inr ⟨_, same⟩)) (fun b u z => ?_) (fun b z => ?_) fun _ => hk
    · by_cases e : b = a
      · subst e; exact .inr ⟨_, _, same⟩
      · exact .inl (other e)
    · by_cases e : b = a
      · subst e
        rw [same] at z
        cases z
        exact ⟨ha, by rw [List.length_map]; exact hl, vs, _, rv, ha⟩
      · rw [other e] at z
        cases z
    · by_cases e : b = a
      · exact e
      · exact absurd (other e) z
  · cases q : K.lookup a with
    | none => exact absurd q hk
    | some o =>
      have e := KX a o q
      rw [ha] at e
      cases e
      refine law_core KX hns hb hbb hlim hg ha hr G hbind hsp (fun _ => none) (fun _ => .inl rfl) (.inr ⟨_, vs.toArray, _, q, rfl, rfl, rfl, by rw [List.size_toArray, lenV]; exact hl, by simpa using rv⟩) (fun b u z => nomatch (show (none : Option HO) = some u from z)) (fun b z => absurd rfl z) fun z => absurd rfl z
theorem walk_ofG {l : PySem.W.OpenLaw} {n k : Nat} {q : Program} {loose : List Str} {XP : (Str → Option Value) → Heap → Prop} {YP : World → Heap → Prop} {d : DefRec} {K : Params → PySem.W.Frag} {dsp : DSp} {x : Str}
    (hn : l.most = some n) (hn2 : n ≤ sizeLine) (hdf : d.params.defaults = []) (hr : Room k callerA) (hY : ∀ (w : World) (h : Heap), YP w h → (K w.params).In h)
    (F : ∀ (w : World) (mg : Str → Option Value) (fa : Addr) (h : Heap), (K w.params).In h → h.Ns mainGlobals mg → mg d.name = some (.ref fa) →
      ∃ fd : FuncData, (∀ (s : Shared) (u : Value), BindsTo s fd ⟨[u], []⟩ [(x, u)]) ∧ ∀ base : Heap, (K w.params).In base → base.Ns mainGlobals mg → FnG l.prog w (K w.params) mg base k fa fd [x] dsp)
    (hsp : ∀ ns : List Int, ns.length ≤ n → dsp [.scr ns] (fun _ => none) fun d _ => d = .bl true) :
    PySem.W.WalkO q loose XP YP l.row.toRowW d [] (fun f vs => PySem.call f vs) := by
  refine Att.attach_call hn hdf fun w s₀ s₁ mg mb fa o pm cd doc a vs ns G Y ho hd hcd hmg hobj hints hlen hg => ?_
  have KX := hY w _ Y
  obtain ⟨fd, hb, hF⟩ := F w mg fa _ KX G.T.g hmg
  exact law_callG KX G.T.g G.T.b G.T.builtins G.T.nolimit hg hobj hints (Nat.le_trans hlen hn2) hr hF hb (hsp ns hlen)
end DL

/-! != of two lists of dicts whose keys are tuples, whose values are numbers -/
namespace PySem.SeqAt
open AutoSeq1 (wpAny_loadPart')
open MeetsSeq MeetsSeq2 MeetsSeq3 SeqRoads2
section
variable {prog : Program} {w : World}
end
end PySem.SeqAt
namespace PySem.W
open Lean Elab Tactic Meta PySem PySem.Calls PyProof.Rows PyProof.V PySem.Spec
section
variable {prog : Program} {w : World} {K : Type} [DecidableEq K] {knd : HeapKind prog w K} {A : Around} {E : Value → Shared → Prop} {s : Shared}
end
end PySem.W
namespace DL
open PySem PySem.Spec PyProof.Rows L2
section
variable {X : Cx} {a b : Expr} {ta tb : DTE} {pos : Pos} {k : Nat}
end
end DL

/-! for i, x in enumerate(t), t a tuple -/
namespace PySem
open Sem (wp)
open AutoSeq1 (wpAny_loadPart')
section
variable {prog : Program} {w : World} {A : Around} {E : Value → Shared → Prop} {s : Shared}
end
end PySem
namespace DL
open PySem PySem.Spec PyProof.Rows L2
section
variable {X : Cx}
end
end DL

/-! a comprehension over a list that may be written, as long as it is as it was -/
namespace DL
open PySem PySem.Spec PyProof.Rows L2
section
variable {X : Cx} {elt tg iter : Expr} {ifs : List Expr} {scope : Scope} {own : List (Str × Nat)} {pos : Pos} {tx : DTE} {g : DTG} {tt : DTT} {te : DTE}
variable (hc : X.calm = true) (hN : X.N.Nodup) (hi : DE X iter tx) (ok : BlkOk X.N X.env.scope scope own)
    (hg : ∀ (s : Shared) (H : Hp) (C : Addr) (cl : List (Str × Addr)) (fp : List Addr), DG (X.blk s H scope (compEnvC scope cl C X.env) fp) tg (own.map (·.2)) g)
    (ht : ∀ (s : Shared) (H : Hp) (C : Addr) (cl : List (Str × Addr)) (fp : List Addr), DTs (X.blk s H scope (compEnvC scope cl C X.env) fp) ifs tt)
    (he : ∀ (s : Shared) (H : Hp) (C : Addr) (cl : List (Str × Addr)) (fp : List Addr), DE (X.blk s H scope (compEnvC scope cl C X.env) fp) elt te)
include hi hg ht he
include hc hN ok
end
end DL

/-! enumerate of a tuple in a comprehension; is True; lists of lists that may be written, compared -/
namespace DL
open PySem PySem.Spec PyProof.Rows L2
section
variable {X : Cx}
/-! is True -/
/-! a list of lists that may be written, as they stand -/
end
end DL

/-! min(list of numbers, default=number) -/
namespace DL
open PySem PySem.Spec PyProof.Rows L2
section
variable {X : Cx} {k : Nat}
end
end DL

/-! list(enumerate(x)), x a list or a tuple -/
namespace PySem.W
open PySem PySem.Calls PyProof.Rows PyProof.V PySem.Spec
section
variable {prog : Program} {w : World} {A : Around} {E : Value → Shared → Prop} {s : Shared}
end
/-- what stands while list() takes the pairs -/
def EnSt (St : Nat → Heap → Prop) (e it S : Addr) (i : Nat) (h : Heap) : Prop := St i h ∧ ((∃ old, IsEnum h e it i old) ∨ ∃ old T f oT, IsEnumHeld h e it i old T f ∧ h.get? T = some oT ∧ T ≠ e ∧ T ≠ it ∧ T ≠ S)
structure EnG (P : Nat → Value → Prop) (lo : Addr) (h : Heap) (as : List Addr) : Prop where
  rise : as.Pairwise (· < ·)
  above : ∀ a ∈ as, lo ≤ a
  pairs : ∀ (j : Nat) (a : Addr), as[j]? = some a → ∃ t x, P j x ∧ h.get? a = some { cls := .type "tuple", data := .seq #[.int j t, x] }
theorem EnG.there {P : Nat → Value → Prop} {lo : Addr} {h : Heap} {as : List Addr} (g : EnG P lo h as) {a : Addr} (ha : a ∈ as) : a < h.objs.size := by
  obtain ⟨j, hj⟩ := List.mem_iff_getElem?.mp ha
  obtain ⟨_, _, _, e⟩ := g.pairs j a hj
  exact Heap.lt_size e
section
variable {prog : Program} {w : World} {A : Around} {s : Shared} {R : Result → Shared → Prop} {fp : List Addr} {n : Nat} {P : Nat → Value → Prop} {St : Nat → Heap → Prop}
theorem EnSt.keep {e it S : Addr} {i : Nat} {h h' : Heap} (D : Draws prog w A.in1 it fp n P St) (hSf : S ∉ fp) (hSe : S ≠ e) (x : EnSt St e it S i h) (hk : ∀ b o, b ≠ S → h.get? b = some o → h'.get? b = some o) : EnSt St e it S i h' := by
  obtain ⟨st, he⟩ := x
  refine ⟨D.frame _ _ _ st fun b hb o y => hk b o (fun z => hSf (z ▸ hb)) y, ?_⟩
  rcases he with ⟨old, he⟩ | ⟨old, T, f, oT, he, hT, r1, r2, r3⟩
  · exact .inl ⟨old, hk _ _ (Ne.symm hSe) he⟩
  · exact .inr ⟨old, T, f, oT, hk _ _ (Ne.symm hSe) he, hk _ _ r3 hT, r1, r2, r3⟩
end
section
variable {prog : Program} {w : World} {A : Around} {E : Value → Shared → Prop} {s : Shared}
variable {R : Result → Shared → Prop} {fp : List Addr} {n : Nat} {P : Nat → Value → Prop} {St : Nat → Heap → Prop}
end
end PySem.W

/-! list(enumerate(x)) as an expression -/
namespace DL
open PySem PySem.Spec PyProof.Rows L2
section
variable {X : Cx}
end
end DL

/-! list(zip(x, y)), x and y lists -/
namespace PySem.W
open PySem PySem.Calls PyProof.Rows PyProof.V PySem.Spec
/-- what stands while list() takes the pairs of two lists -/
def ZlSt (z TI TO i1 i2 l1 l2 S : Addr) (xs ys : Array Value) (i : Nat) (h : Heap) : Prop :=
  IsPair h TI (.ref i1) (.ref i2) ∧ h.IsListIter i1 l1 i ∧ h.IsListIter i2 l2 i ∧ h.IsList l1 xs ∧ h.IsList l2 ys ∧
    ((IsZip h z TI TO .none ∧ ∃ a b, IsPair h TO a b) ∨ ∃ T f oT, IsZipHeld h z TI TO T f ∧ h.get? T = some oT ∧ T ≠ z ∧ T ≠ i1 ∧ T ≠ i2 ∧ T ≠ S)
structure ZlG (xs ys : Array Value) (lo : Addr) (h : Heap) (as : List Addr) : Prop where
  rise : as.Pairwise (· < ·)
  above : ∀ a ∈ as, lo ≤ a
  pairs : ∀ (j : Nat) (a : Addr), as[j]? = some a → ∃ x y, (xs[j]? = some x ∧ ys[j]? = some y) ∧ h.get? a = some { cls := .type "tuple", data := .seq #[x, y] }
theorem ZlG.there {xs ys : Array Value} {lo : Addr} {h : Heap} {as : List Addr} (g : ZlG xs ys lo h as) {a : Addr} (ha : a ∈ as) : a < h.objs.size := by
  obtain ⟨j, hj⟩ := List.mem_iff_getElem?.mp ha
  obtain ⟨_, _, _, e⟩ := g.pairs j a hj
  exact Heap.lt_size e
section
variable {prog : Program} {w : World} {A : Around} {s : Shared} {R : Result → Shared → Prop} {z TI TO i1 i2 l1 l2 S : Addr} {xs ys : Array Value}
theorem ZlSt.keep {i : Nat} {h h' : Heap} (hS : S ∉ [z, TI, TO, i1, i2, l1, l2]) (st : ZlSt z TI TO i1 i2 l1 l2 S xs ys i h) (hk : ∀ b o, b ≠ S → h.get? b = some o → h'.get? b = some o) : ZlSt z TI TO i1 i2 l1 l2 S xs ys i h' := by
  simp only [List.mem_cons, List.not_mem_nil, or_false, not_or] at hS
  obtain ⟨dz, dTI, dTO, di1, di2, dl1, dl2⟩ := hS
  obtain ⟨hTI, h1, h2, hl1, hl2, hz⟩ := st
  refine ⟨hk _ _ (Ne.symm dTI) hTI, h1.at fun o e => hk _ o (Ne.symm di1) e, h2.at fun o e => hk _ o (Ne.symm di2) e, hl1.at fun o e => hk _ o (Ne.symm dl1) e, hl2.at fun o e => hk _ o (Ne.symm dl2) e, ?_⟩
  rcases hz with ⟨hz, a, b, hTO⟩ | ⟨T, f, oT, hz, hT, r1, r2, r3, r4⟩
  · exact .inl ⟨hk _ _ (Ne.symm dz) hz, a, b, hk _ _ (Ne.symm dTO) hTO⟩
  · exact .inr ⟨T, f, oT, hk _ _ (Ne.symm dz) hz, hk _ _ r4 hT, r1, r2, r3, r4⟩
end
section
variable {prog : Program} {w : World} {A : Around} {E : Value → Shared → Prop} {s : Shared}
variable {R : Result → Shared → Prop} {z TI TO i1 i2 l1 l2 S : Addr} {xs ys : Array Value}
end
end PySem.W

/-! list(zip(x, y)) as an expression -/
namespace DL
open PySem PySem.Spec PyProof.Rows L2
section
variable {X : Cx}
end
end DL

/-! x in (y, z) -/
namespace DL
open PySem PySem.Spec PyProof.Rows L2
section
variable {X : Cx} {a b : Expr} {ta tb : DTE} {pos : Pos} {k : Nat}
def rInTu (neg : Bool) (K : PySem.W.Frag) : R2 := fun x y H Q => ∃ d ds, Dp K H x d ∧ Dp K H y (.tuple ds) ∧ SeqAt.shaped d = true ∧ SeqAt.shaped (.tuple ds) = true ∧ Q (.bl ((ds.any fun z => PyData.eqv z d) != neg)) H
theorem op_inTu (hu : X.A.units + 65 < cLine) : OpR X (compareOp .In) (rInTu false X.K) := by
  intro pins s σ H x y v u Q I rx ry h
  obtain ⟨d, ds, hd, he, sd, se, q⟩ := h
  obtain ⟨as, r1⟩ := Dp.reads I d x v hd rx
  obtain ⟨bs, r2⟩ := Dp.reads I (.tuple ds) y u he ry
  rw [Bool.bne_false] at q
  exact SeqAt.in_tuple_reads r2 r1 (SeqAt.canLay_of_shaped se) (SeqAt.canLay_of_shaped sd) (room_in_shaped sd hu) ⟨.bl _, H, I, rfl, q⟩
def kInTu (neg : Bool) : D → D → LH → DK → Prop := fun x y l Q => resL x l fun x => resL y l fun y => match y with
  | .tup ds => okD x ∧ okD (.tup ds) ∧ Q (.bl ((ds.any fun z => eqD z x) != neg)) l
  | _ => False
theorem kInTu_ok {neg : Bool} : KOp X (rInTu neg X.K) (kInTu neg) := by
  intro F Fr l H Q d e v u Q' R rd re hq q
  obtain ⟨d', q, h1⟩ := resL_ok R rd q
  obtain ⟨e', q, h2⟩ := resL_ok R re q
  cases e' with
  | tup ds =>
    obtain ⟨c1, c2, q⟩ := q
    refine ⟨_, _, h1 (SeqAt.canLay_of_shaped c1), h2 (SeqAt.canLay_of_shaped c2), c1, c2, hq _ _ (LK.mk (.bl _) R ?_)⟩
    rw [any_toPys]
    exact q
  | _ => exact q.elim
def dInTu : DTE → DTE → DTE := dOp (kInTu false)
theorem dt_inTu (hr : Room k X.A) (ha : DE X a ta) (hb : DE X b tb) (hm : behindInMarks .In b = false := by rfl) : DT X (.Compare a [.In] [b] pos) (dTV (dInTu ta tb)) := dt_cmp (op_inTu (by have := hr.un; omega)) kInTu_ok ha hb hm
end
end DL

/-! isinstance(e, (T, U)) of built-in types -/
namespace DL
open PySem PySem.Spec PyProof.Rows L2
section
variable {X : Cx} {e : Expr} {te : DTE} {pos : Pos}
def dIsI2 (T U : Ty) (te : DTE) : DTE := fun env l Q => te env l fun d l1 => tyK d l1 fun t => Q (.bl (isTy t T || isTy t U)) l1
theorem de_isI2 {x y z : Str} {p p2 p3 tpos : Pos} {kk : Nat} (T U : Ty) (hx : x = "isinstance" := by rfl) (hg : Gl X x) (hm : X.mg x = none) (hv : bootBuiltins x = some (.builtin "isinstance"))
    (hg2 : Gl X y) (hm2 : X.mg y = none) (hv2 : bootBuiltins y = some (.type (tyName T))) (hn2 : y ≠ "__name__") (hd2 : (y == ("__debug__" : Str)) = false)
    (hg3 : Gl X z) (hm3 : X.mg z = none) (hv3 : bootBuiltins z = some (.type (tyName U))) (hn3 : z ≠ "__name__") (hd3 : (z == ("__debug__" : Str)) = false) (h : DE X e te)
    (he : starEach (e :: [.Tuple [.Name y p2, .Name z p3] kk tpos]) X.env = (false, eval e X.env) :: starEach [.Tuple [.Name y p2, .Name z p3] kk tpos] X.env := by rfl) :
    DE X (.Call (.Name x p) [e, .Tuple [.Name y p2, .Name z p3] kk tpos] [] pos) (dIsI2 T U te) := by
  refine ⟨?_⟩
  intro F Fr env l σ H Q hE hR ht
  subst hx
  refine (pe_callB call_isiT hg hm hv (pa_cons peW (pa_cons (pe_tup (pa_cons (pe_bltn (v := .ty (tyName T)) hg2 hm2 hv2 rfl hn2 hd2) (pa_cons (pe_bltn (v := .ty (tyName U)) hg3 hm3 hv3 rfl hn3 hd3) pa_nil))) pa_nil) he) (by decide) (by decide) he).we ?_
  refine (h F Fr env l σ H _ hE hR ht).mono fun x H1 ⟨F1, d, l1, s1, r1, R1, q1⟩ => ?_
  refine ⟨show 2 ≤ sizeLine by decide, fun a n0 => ?_⟩
  obtain ⟨t, q2, ty⟩ := tyK_ok (R1.extra n0 (.tup [.ty (tyName T), .ty (tyName U)])) r1 q1
  refine ⟨x, a, [.ty (tyName T), .ty (tyName U)], _, [.type (tyName T), .type (tyName U)], isTy t T || isTy t U, rfl, upd_same, .cons (ClsVty _) (.cons (ClsVty _) .nil), ty, ?_, F1, _, l1, s1, .bl _, R1.extra n0 _, q2⟩
  refine kitAny_cons (kit_ty (isTy_ok t T)) (fun e1 => ?_) fun e1 => ?_
  · refine kitAny_cons (kit_ty (isTy_ok t U)) (fun e2 => ?_) fun e2 => ?_
    · rw [e1, e2]; exact kitAny_nil
    · rw [e1, e2]; rfl
  · rw [e1]; rfl
end
end DL

/-! divmod by a great number -/
namespace DL
open PySem PySem.Spec PyProof.Rows L2
def kDivmodW : List D → LH → DK → Prop := fun ds l Q => match ds with
  | [.int i, .int j] => CDivP i j ∧ Q (.tup [.int (i / j), .int (i % j)]) l
  | _ => False
theorem kDivmodW_ok {X : Cx} : KCall X (fun xs H Q => ∃ i j, xs = [.int i, .int j] ∧ CDivP i j ∧ ∀ p, H p = none → Q (.ref p) (upd H p (.tup [.int (i / j), .int (i % j)]))) kDivmodW := by
  intro F Fr l H Q ds vs Q' R rd hq q
  cases rd with
  | nil => exact q.elim
  | cons r1 rr =>
    cases r1 <;> try (cases rr <;> exact q.elim)
    cases rr with
    | nil => exact q.elim
    | cons r2 rr =>
      cases rr with
      | cons _ _ => cases r2 <;> exact q.elim
      | nil =>
        cases r2 <;> try exact q.elim
        exact ⟨_, _, rfl, q.1, fun p np => hq _ _ (LK.tup np R (.cons (.int _) (.cons (.int _) .nil)) q.2)⟩
end DL

/-! max and min of a list or a tuple of numbers -/
namespace DL
open PySem PySem.Spec PyProof.Rows L2
end DL

/-! a comprehension over enumerate of a list that may be written -/
namespace DL
open PySem PySem.Spec PyProof.Rows L2
section
variable {X : Cx} {elt tg iter : Expr} {ifs : List Expr} {scope : Scope} {own : List (Str × Nat)} {pos : Pos} {g : DTG} {tt : DTT} {te : DTE}
end
section
variable {X : Cx} {elt e : Expr} {elts : List Expr} {kk : Nat} {tpos p ipos : Pos} {ifs : List Expr} {scope : Scope} {own : List (Str × Nat)} {pos : Pos} {ta : DTA} {g : DTG} {tt : DTT} {te : DTE}
variable (hc : X.calm = true) (hN : X.N.Nodup) (hi : DA X [e] ta) (hgl : Gl X "enumerate") (hm : X.mg "enumerate" = none) (ok : BlkOk X.N X.env.scope scope own)
    (hg : ∀ (s : Shared) (H : Hp) (C : Addr) (cl : List (Str × Addr)) (fp : List Addr), DG (X.blk s H scope (compEnvC scope cl C X.env) fp) (.Tuple elts kk tpos) (own.map (·.2)) g)
    (ht : ∀ (s : Shared) (H : Hp) (C : Addr) (cl : List (Str × Addr)) (fp : List Addr), DTs (X.blk s H scope (compEnvC scope cl C X.env) fp) ifs tt)
    (he : ∀ (s : Shared) (H : Hp) (C : Addr) (cl : List (Str × Addr)) (fp : List Addr), DE (X.blk s H scope (compEnvC scope cl C X.env) fp) elt te)
include hi hgl hm hg ht he
include hc hN ok
end
end DL

/-! division by a number of either sign -/
namespace DL
open PySem PySem.Spec PyProof.Rows L2
section
variable {X : Cx}
end
end DL

/-! any of numbers; a list backwards -/
namespace DL
open PySem PySem.Spec PyProof.Rows L2
end DL

/-! zip of a list or a tuple with a list or a tuple, also a list that may be written -/
namespace ZM
open PySem
/-- the kind of what is gone through: false a list, true a tuple -/
def It (b : Bool) (h : Heap) (it l : Addr) (k : Nat) : Prop := cond b (h.IsTupleIter it l k) (h.IsListIter it l k)
def Sq (b : Bool) (h : Heap) (l : Addr) (xs : Array Value) : Prop := cond b (h.IsTuple l xs) (h.IsList l xs)
theorem It.to {b : Bool} {h h' : Heap} {it l : Addr} {k : Nat} (x : It b h it l k) (e : ∀ o, h.get? it = some o → h'.get? it = some o) : It b h' it l k := by
  cases b with
  | true => exact Heap.IsTupleIter.at x e
  | false => exact Heap.IsListIter.at x e
theorem Sq.to {b : Bool} {h h' : Heap} {l : Addr} {xs : Array Value} (x : Sq b h l xs) (e : ∀ o, h.get? l = some o → h'.get? l = some o) : Sq b h' l xs := by
  cases b with
  | true => exact Heap.IsTuple.at x e
  | false => exact Heap.IsList.at x e
theorem It.but {b : Bool} {h h' : Heap} {it l c : Addr} {k : Nat} (x : It b h it l k) (e : Heap.ExtBut c h h') (n : it ≠ c) : It b h' it l k := x.to fun o q => e _ _ n q
theorem Sq.but {b : Bool} {h h' : Heap} {l c : Addr} {xs : Array Value} (x : Sq b h l xs) (e : Heap.ExtBut c h h') (n : l ≠ c) : Sq b h' l xs := x.to fun o q => e _ _ n q
theorem It.ob {b : Bool} {h : Heap} {it l : Addr} {k : Nat} (x : It b h it l k) : ∃ o, h.get? it = some o ∧ ∀ v, o.data ≠ .cell v := by
  cases b with
  | true => obtain ⟨o, e, _, d⟩ := x; exact ⟨o, e, fun v q => by rw [d] at q; cases q⟩
  | false => obtain ⟨o, e, _, d⟩ := x; exact ⟨o, e, fun v q => by rw [d] at q; cases q⟩
theorem Sq.lt {b : Bool} {h : Heap} {l : Addr} {xs : Array Value} (x : Sq b h l xs) : l < h.objs.size := by
  cases b with
  | true => obtain ⟨o, e, _⟩ := x; exact Heap.lt_size e
  | false => obtain ⟨o, e, _⟩ := x; exact Heap.lt_size e
section
variable {prog : Program} {w : World} {A : Around} {E : Value → Shared → Prop} {s : Shared}
theorem next_one {b : Bool} {it l : Addr} {i : Nat} {items : Array Value} {x : Value} {Q : Value → Shared → Prop} (hit : It b s.heap it l i) (hl : Sq b s.heap l items) (hx : items[i]? = some x)
    (hQ : ∀ g, It b g it l (i + 1) → Heap.SameBut it s.heap g → Q x { s with heap := g }) : wpAny (model prog w) A (Builtin.SmallTypes.nextOf (.ref it)) Q E s := by
  cases b with
  | true => exact RZ.nextOf_tuple_item hit hl hx hQ
  | false => exact wpAny_nextOf_list_item hit hl hx hQ
theorem next_none {b : Bool} {it l : Addr} {i : Nat} {items : Array Value} {Q : Value → Shared → Prop} (un : A.handled = none) (hit : It b s.heap it l i) (hl : Sq b s.heap l items) (hx : items[i]? = none)
    (hE : ∀ g e, Heap.ExtBut it s.heap g → (∃ o, g.get? e = some o ∧ o.cls = .type "StopIteration") → E (.ref e) { s with heap := g }) : wpAny (model prog w) A (Builtin.SmallTypes.nextOf (.ref it)) Q E s := by
  cases b with
  | true => exact RZ.nextOf_tuple_end un hit hl hx hE
  | false => exact wpAny_nextOf_list_end un hit hl hx hE
variable {b1 b2 : Bool} {z TI TO i1 i2 l1 l2 : Addr} {k1 k2 : Nat} {xs ys : Array Value} {a b : Value}
/-- what stands of all but the zip object, its pair and its iterators -/
def Rest (z TO i1 i2 : Addr) (h g : Heap) : Prop := ∀ c o, c ≠ z → c ≠ TO → c ≠ i1 → c ≠ i2 → h.get? c = some o → g.get? c = some o
theorem zip_turn {x y : Value} {Q : Value → Shared → Prop} (D : ZipApart z TI TO i1 i2 l1 l2) (hz : IsZip s.heap z TI TO .none) (pI : IsPair s.heap TI (.ref i1) (.ref i2)) (pO : IsPair s.heap TO a b)
    (t1 : It b1 s.heap i1 l1 k1) (t2 : It b2 s.heap i2 l2 k2) (q1 : Sq b1 s.heap l1 xs) (q2 : Sq b2 s.heap l2 ys) (hx : xs[k1]? = some x) (hy : ys[k2]? = some y)
    (fin : ∀ g, IsZip g z TI TO (rawInt s.heap.objs.size) → IsPair g TO x y → It b1 g i1 l1 (k1 + 1) → It b2 g i2 l2 (k2 + 1) → IsPair g s.heap.objs.size x y → g.objs.size = s.heap.objs.size + 1 → Rest z TO i1 i2 s.heap g → Q (.ref s.heap.objs.size) { s with heap := g }) :
    wpAny (model prog w) A (Builtin.«zip.__next__» ⟨[.ref z], []⟩) (fun e s' => ∃ v, e = .done (.ret v) ∧ Q v s') E s := by
  show wpAny _ _ (field (.ref z) 2 >>= _) _ _ _; refine wpAny_bind (wpAny_field hz rfl (x := .bool false) rfl ?_)
  show wpAny _ _ (field (.ref z) 3 >>= _) _ _ _; refine wpAny_bind (wpAny_field hz rfl (x := .ref TI) rfl (wpAny_bind (wpAny_seqItems pI rfl ?_)))
  show wpAny _ _ (Builtin.SmallTypes.ownedTupleIsFree (.ref z) >>= _) _ _ _; refine wpAny_bind ?_
  unfold Builtin.SmallTypes.ownedTupleIsFree; refine wpAny_bind (wpAny_field hz rfl (x := .none) rfl (wpAny_pure ?_))
  simp only [if_true]; refine wpAny_bind (wpAny_rule (wpAny_bind (wpAny_field hz rfl (x := .ref TO) rfl ?_)))
  refine wpAny_bind (wpAny_setField_rec hz (by simp) fun g1 z1 m1 => ?_)
  have z1 : IsZip g1 z TI TO .ellipsis := z1
  refine wpAny_bind ?_; simp only [List.zipIdx_cons, List.zipIdx_nil, List.forIn_cons, List.forIn_nil]
  refine wpAny_bind (wpAny_bind (wpAny_onRaise ?_)); show wpAny _ _ (Builtin.SmallTypes.nextOf (.ref i1) >>= _) _ _ _
  refine wpAny_bind (next_one (t1.but m1.extBut D.i1z) (q1.but m1.extBut D.l1z) hx fun g2 u1 m2 => wpAny_pure ?_)
  have p2 : IsPair g2 TO a b := m2.extBut _ _ D.TOi1 (m1.extBut _ _ D.TOz pO)
  refine wpAny_bind (wpAny_seqItems p2 rfl (wpAny_bind (wpAny_updateSeq_pair p2 fun g3 p3 m3 => ?_)))
  have p3 : IsPair g3 TO x b := p3
  refine wpAny_bind (wpAny_letGo (wpAny_pure (wpAny_bind (wpAny_bind (wpAny_onRaise ?_)))))
  show wpAny _ _ (Builtin.SmallTypes.nextOf (.ref i2) >>= _) _ _ _
  refine wpAny_bind (next_one (((t2.but m1.extBut D.i2z).but m2.extBut D.i12.symm).but m3.extBut D.TOi2.symm) (((q2.but m1.extBut D.l2z).but m2.extBut D.l2i1).but m3.extBut D.l2TO) hy fun g4 u2 m4 => wpAny_pure ?_)
  have p4 : IsPair g4 TO x b := m4.extBut _ _ D.TOi2 p3
  refine wpAny_bind (wpAny_seqItems p4 rfl (wpAny_bind (wpAny_updateSeq_pair p4 fun g5 p5 m5 => ?_)))
  have p5 : IsPair g5 TO x y := p5
  refine wpAny_bind (wpAny_letGo (wpAny_pure (wpAny_pure (wpAny_bind (wpAny_seqItems p5 rfl (wpAny_bind (wpAny_newTuple ?_)))))))
  have sz : g5.objs.size = s.heap.objs.size := by rw [m5.1, m4.1, m3.1, m2.1, m1.1]
  have z5 : IsZip g5 z TI TO .ellipsis := m5.extBut _ _ D.TOz.symm (m4.extBut _ _ D.i2z.symm (m3.extBut _ _ D.TOz.symm (m2.extBut _ _ D.i1z.symm z1)))
  have r5 : Rest z TO i1 i2 s.heap g5 := fun c o c1 c2 c3 c4 e => m5.extBut _ _ c2 (m4.extBut _ _ c4 (m3.extBut _ _ c2 (m2.extBut _ _ c3 (m1.extBut _ _ c1 e))))
  have u1 : It b1 g5 i1 l1 (k1 + 1) := ((u1.but m3.extBut D.TOi1.symm).but m4.extBut D.i12).but m5.extBut D.TOi1.symm
  have u2 : It b2 g5 i2 l2 (k2 + 1) := u2.but m5.extBut D.TOi2.symm
  have zl : z < g5.objs.size := Heap.lt_size z5
  show wpAny _ _ (Builtin.SmallTypes.ownedTupleHandOut (.ref z) (.ref g5.objs.size) >>= _) _ _ _; refine wpAny_bind ?_
  unfold Builtin.SmallTypes.ownedTupleHandOut
  have z6 : IsZip (g5.push { cls := .type "tuple", data := .seq #[x, y] }) z TI TO .ellipsis := Heap.get?_push_of_some _ z5
  refine wpAny_bind (wpAny_setField_rec z6 (by simp) fun g7 z7 m7 => ?_)
  have z7 : IsZip g7 z TI TO (rawInt g5.objs.size) := z7
  refine wpAny_setField_rec z7 (by simp) fun g8 z8 m8 => ?_
  have z8 : IsZip g8 z TI TO (rawInt g5.objs.size) := z8
  have up : ∀ c o, c ≠ z → g5.get? c = some o → g8.get? c = some o := fun c o c1 e => m8.extBut _ _ c1 (m7.extBut _ _ c1 (Heap.get?_push_of_some _ e))
  have nw : IsPair g8 g5.objs.size x y := m8.extBut _ _ (Nat.ne_of_gt zl) (m7.extBut _ _ (Nat.ne_of_gt zl) (Heap.get?_push_size _ rfl))
  have s8 : g8.objs.size = g5.objs.size + 1 := by rw [m8.1, m7.1, Heap.size_push]
  rw [sz] at z8 nw s8
  refine wpAny_pure ⟨_, rfl, ?_⟩
  show Q (.ref g5.objs.size) _
  rw [sz]
  exact fin g8 z8 (up _ _ D.TOz p5) (u1.to fun o e => up _ o D.i1z e) (u2.to fun o e => up _ o D.i2z e) nw s8 fun c o c1 c2 c3 c4 e => up c o c1 (r5 c o c1 c2 c3 c4 e)
theorem zip_stop {Q : Fin → Shared → Prop} (un : A.handled = none) (D : ZipApart z TI TO i1 i2 l1 l2) (hz : IsZip s.heap z TI TO .none) (pI : IsPair s.heap TI (.ref i1) (.ref i2)) (pO : IsPair s.heap TO a b)
    (t1 : It b1 s.heap i1 l1 k1) (t2 : It b2 s.heap i2 l2 k2) (q1 : Sq b1 s.heap l1 xs) (q2 : Sq b2 s.heap l2 ys) (hend : xs[k1]? = none ∨ ys[k2]? = none)
    (hE : ∀ g e, Rest z TO i1 i2 s.heap g → (∃ o, g.get? e = some o ∧ o.cls = .type "StopIteration") → E (.ref e) { s with heap := g }) :
    wpAny (model prog w) A (Builtin.«zip.__next__» ⟨[.ref z], []⟩) Q E s := by
  show wpAny _ _ (field (.ref z) 2 >>= _) _ _ _; refine wpAny_bind (wpAny_field hz rfl (x := .bool false) rfl ?_)
  show wpAny _ _ (field (.ref z) 3 >>= _) _ _ _; refine wpAny_bind (wpAny_field hz rfl (x := .ref TI) rfl (wpAny_bind (wpAny_seqItems pI rfl ?_)))
  show wpAny _ _ (Builtin.SmallTypes.ownedTupleIsFree (.ref z) >>= _) _ _ _; refine wpAny_bind ?_
  unfold Builtin.SmallTypes.ownedTupleIsFree; refine wpAny_bind (wpAny_field hz rfl (x := .none) rfl (wpAny_pure ?_))
  simp only [if_true]; refine wpAny_bind (wpAny_rule (wpAny_bind (wpAny_field hz rfl (x := .ref TO) rfl ?_)))
  refine wpAny_bind (wpAny_setField_rec hz (by simp) fun g1 z1 m1 => ?_)
  have z1 : IsZip g1 z TI TO .ellipsis := z1
  refine wpAny_bind ?_; simp only [List.zipIdx_cons, List.zipIdx_nil, List.forIn_cons, List.forIn_nil]
  refine wpAny_bind (wpAny_bind (wpAny_onRaise ?_)); show wpAny _ _ (Builtin.SmallTypes.nextOf (.ref i1) >>= _) _ _ _
  cases hx : xs[k1]? with
  | none =>
    refine wpAny_bind (next_none un (t1.but m1.extBut D.i1z) (q1.but m1.extBut D.l1z) hx fun g2 e m2 he => ?_)
    obtain ⟨oe, ho, hc⟩ := he
    have z2 : IsZip g2 z TI TO .ellipsis := m2 _ _ D.i1z.symm z1
    have ez : e ≠ z := fun q => by subst q; rw [z2] at ho; cases ho; simp at hc
    refine wpAny_setField_rec z2 (by simp) fun g3 _ m3 => hE g3 e (fun c o c1 _ c3 _ q => m3.extBut _ _ c1 (m2 _ _ c3 (m1.extBut _ _ c1 q))) ⟨oe, m3.extBut _ _ ez ho, hc⟩
  | some x =>
    have hy : ys[k2]? = none := by rcases hend with h | h; rw [hx] at h; cases h; exact h
    refine wpAny_bind (next_one (t1.but m1.extBut D.i1z) (q1.but m1.extBut D.l1z) hx fun g2 u1 m2 => wpAny_pure ?_)
    have p2 : IsPair g2 TO a b := m2.extBut _ _ D.TOi1 (m1.extBut _ _ D.TOz pO)
    refine wpAny_bind (wpAny_seqItems p2 rfl (wpAny_bind (wpAny_updateSeq_pair p2 fun g3 p3 m3 => ?_)))
    refine wpAny_bind (wpAny_letGo (wpAny_pure (wpAny_bind (wpAny_bind (wpAny_onRaise ?_)))))
    show wpAny _ _ (Builtin.SmallTypes.nextOf (.ref i2) >>= _) _ _ _
    refine wpAny_bind (next_none un (((t2.but m1.extBut D.i2z).but m2.extBut D.i12.symm).but m3.extBut D.TOi2.symm) (((q2.but m1.extBut D.l2z).but m2.extBut D.l2i1).but m3.extBut D.l2TO) hy fun g4 e m4 he => ?_)
    obtain ⟨oe, ho, hc⟩ := he
    have z4 : IsZip g4 z TI TO .ellipsis := m4 _ _ D.i2z.symm (m3.extBut _ _ D.TOz.symm (m2.extBut _ _ D.i1z.symm z1))
    have ez : e ≠ z := fun q => by subst q; rw [z4] at ho; cases ho; simp at hc
    refine wpAny_setField_rec z4 (by simp) fun g5 _ m5 => hE g5 e (fun c o c1 c2 c3 c4 q => m5.extBut _ _ c1 (m4 _ _ c4 (m3.extBut _ _ c2 (m2.extBut _ _ c3 (m1.extBut _ _ c1 q))))) ⟨oe, m5.extBut _ _ ez ho, hc⟩
theorem py_turn {x y : Value} {Q : Option Value → Shared → Prop} (D : ZipApart z TI TO i1 i2 l1 l2) (hz : IsZip s.heap z TI TO .none) (pI : IsPair s.heap TI (.ref i1) (.ref i2)) (pO : IsPair s.heap TO a b)
    (t1 : It b1 s.heap i1 l1 k1) (t2 : It b2 s.heap i2 l2 k2) (q1 : Sq b1 s.heap l1 xs) (q2 : Sq b2 s.heap l2 ys) (hx : xs[k1]? = some x) (hy : ys[k2]? = some y)
    (fin : ∀ g, IsZip g z TI TO (rawInt s.heap.objs.size) → IsPair g TO x y → It b1 g i1 l1 (k1 + 1) → It b2 g i2 l2 (k2 + 1) → IsPair g s.heap.objs.size x y → g.objs.size = s.heap.objs.size + 1 → Rest z TO i1 i2 s.heap g → Q (some (.ref s.heap.objs.size)) { s with heap := g }) :
    wpAny (model prog w) A (pyNext (.ref z)) Q E s := by
  have hT : s.TypeIs (.ref z) "zip" := ⟨_, hz, rfl⟩
  unfold pyNext
  exact wpAny_bind (wpAny_attempt (wpAny_callSpecial?_slot (name := Str.ofString "__next__") hT PySem.F.slot_zip_next
    (wpAny_call_entry PySem.F.slot_zip_next hT PySem.F.entry_zip_next (zip_turn D hz pI pO t1 t2 q1 q2 hx hy fun g a1 a2 a3 a4 a5 a6 a7 => wpAny_pure (fin g a1 a2 a3 a4 a5 a6 a7)) (PySem.F.args_zip_next_1 _))))
theorem py_stop {Q : Option Value → Shared → Prop} (un : A.handled = none) (D : ZipApart z TI TO i1 i2 l1 l2) (hz : IsZip s.heap z TI TO .none) (pI : IsPair s.heap TI (.ref i1) (.ref i2)) (pO : IsPair s.heap TO a b)
    (t1 : It b1 s.heap i1 l1 k1) (t2 : It b2 s.heap i2 l2 k2) (q1 : Sq b1 s.heap l1 xs) (q2 : Sq b2 s.heap l2 ys) (hend : xs[k1]? = none ∨ ys[k2]? = none)
    (fin : ∀ g, Rest z TO i1 i2 s.heap g → Q none { s with heap := g }) : wpAny (model prog w) A (pyNext (.ref z)) Q E s := by
  have hT : s.TypeIs (.ref z) "zip" := ⟨_, hz, rfl⟩
  unfold pyNext
  refine wpAny_bind (wpAny_attempt (wpAny_callSpecial?_slot (name := Str.ofString "__next__") hT PySem.F.slot_zip_next
    (wpAny_call_entry PySem.F.slot_zip_next hT PySem.F.entry_zip_next (zip_stop un D hz pI pO t1 t2 q1 q2 hend fun g e hk he => ?_) (PySem.F.args_zip_next_1 _))))
  obtain ⟨o, ho, hc⟩ := he
  exact wpAny_bind (wpAny_isInstance (T := "StopIteration") (b := true) ⟨o, ho, hc⟩ isSubtype_stop (wpAny_pure (fin _ hk)))
end
/-! the making -/
def itO (b : Bool) (l : Addr) : Obj := cond b { cls := .type "tuple_iterator", data := .fields #[.ref l, .int 0 0] } { cls := .type "list_iterator", data := .fields #[.ref l, .int 0 0] }
def mk1 (b : Bool) (h : Heap) (l1 : Addr) : Heap := h.push (itO b l1)
def mk2 (b1 b2 : Bool) (h : Heap) (l1 l2 : Addr) : Heap := (mk1 b1 h l1).push (itO b2 l2)
def mk3 (b1 b2 : Bool) (h : Heap) (l1 l2 : Addr) : Heap := (mk2 b1 b2 h l1 l2).push { cls := .type "tuple", data := .seq #[.ref h.objs.size, .ref (mk1 b1 h l1).objs.size] }
def mk4 (b1 b2 : Bool) (h : Heap) (l1 l2 : Addr) : Heap := (mk3 b1 b2 h l1 l2).push { cls := .type "tuple", data := .seq #[.none, .none] }
def mk5 (b1 b2 : Bool) (h : Heap) (l1 l2 : Addr) : Heap := (mk4 b1 b2 h l1 l2).push { cls := .type "zip", data := .fields #[.none, .bool false, .bool false, .ref (mk2 b1 b2 h l1 l2).objs.size, .ref (mk3 b1 b2 h l1 l2).objs.size] }
theorem meets_new (b1 b2 : Bool) (l1 l2 : Addr) (xs ys : Array Value) :
    Meets (Builtin.«zip.__new__» ⟨[.type "zip", .ref l1, .ref l2], []⟩) (fun _ R s => Sq b1 s.heap l1 xs ∧ Sq b2 s.heap l2 ys ∧ R (.ok (.ret (.ref (mk4 b1 b2 s.heap l1 l2).objs.size))) { s with heap := mk5 b1 b2 s.heap l1 l2 }) :=
  .of_wp fun prog w A R s h => by
    obtain ⟨hp, g, d, tk, os⟩ := s
    obtain ⟨q1, q2, h⟩ := h
    have hs := sub_zip
    have q3 : Sq b2 (hp.push (itO b1 l1)) l2 ys := q2.to fun o e => Heap.get?_push_of_some _ e
    cases b1 <;> cases b2
    · have L1 : Heap.IsList (Shared.heap ⟨hp, g, d, tk, os⟩) l1 xs := q1
      have L2 : Heap.IsList (Shared.heap ⟨hp.push { cls := .type "list_iterator", data := .fields #[.ref l1, .int 0 0] }, g, d, tk, os⟩) l2 ys := q3
      wp_walk using wpAny_pyIter_list L1, wpAny_pyIter_list L2
      exact ⟨_, rfl, h⟩
    · have L1 : Heap.IsList (Shared.heap ⟨hp, g, d, tk, os⟩) l1 xs := q1
      have L2 : Heap.IsTuple (Shared.heap ⟨hp.push { cls := .type "list_iterator", data := .fields #[.ref l1, .int 0 0] }, g, d, tk, os⟩) l2 ys := q3
      wp_walk using wpAny_pyIter_list L1, wpAny_pyIter_tuple L2
      exact ⟨_, rfl, h⟩
    · have L1 : Heap.IsTuple (Shared.heap ⟨hp, g, d, tk, os⟩) l1 xs := q1
      have L2 : Heap.IsList (Shared.heap ⟨hp.push { cls := .type "tuple_iterator", data := .fields #[.ref l1, .int 0 0] }, g, d, tk, os⟩) l2 ys := q3
      wp_walk using wpAny_pyIter_tuple L1, wpAny_pyIter_list L2
      exact ⟨_, rfl, h⟩
    · have L1 : Heap.IsTuple (Shared.heap ⟨hp, g, d, tk, os⟩) l1 xs := q1
      have L2 : Heap.IsTuple (Shared.heap ⟨hp.push { cls := .type "tuple_iterator", data := .fields #[.ref l1, .int 0 0] }, g, d, tk, os⟩) l2 ys := q3
      wp_walk using wpAny_pyIter_tuple L1, wpAny_pyIter_tuple L2
      exact ⟨_, rfl, h⟩
theorem it_new {b : Bool} {g : Heap} {it l : Addr} (h : g.get? it = some (itO b l)) : It b g it l 0 := by
  cases b with
  | true => exact ⟨_, h, rfl, rfl⟩
  | false => exact ⟨_, h, rfl, rfl⟩
theorem itO_live (b : Bool) (l : Addr) : (itO b l).isFreed = false := by cases b <;> rfl
section
variable {prog : Program} {w : World} {A : Around} {E : Value → Shared → Prop} {s : Shared}
theorem call_zipM {b1 b2 : Bool} {l1 l2 : Addr} {xs ys : Array Value} {Q : Value → Shared → Prop} (q1 : Sq b1 s.heap l1 xs) (q2 : Sq b2 s.heap l2 ys)
    (fin : ∀ g, IsZip g (s.heap.objs.size + 4) (s.heap.objs.size + 2) (s.heap.objs.size + 3) .none → IsPair g (s.heap.objs.size + 2) (.ref s.heap.objs.size) (.ref (s.heap.objs.size + 1)) → IsPair g (s.heap.objs.size + 3) .none .none →
      It b1 g s.heap.objs.size l1 0 → It b2 g (s.heap.objs.size + 1) l2 0 → (∀ c o, s.heap.get? c = some o → g.get? c = some o) → Q (.ref (s.heap.objs.size + 4)) { s with heap := g }) :
    wpAny (model prog w) A (call (.type "zip") [.ref l1, .ref l2]) Q E s := by
  refine callType_new PySem.F.called_zip (by decide) (PySem.F.typeCall_zip_2 _ _) (PySem.F.newCall_zip_2 _ _) (fun obj => PySem.F.args_object_init_3 obj _ _) PySem.F.entry_zip_new (meets_new b1 b2 l1 l2 xs ys) ⟨q1, q2, ?_⟩
  have n1 : (mk1 b1 s.heap l1).objs.size = s.heap.objs.size + 1 := Heap.size_push ..
  have n2 : (mk2 b1 b2 s.heap l1 l2).objs.size = s.heap.objs.size + 2 := (Heap.size_push ..).trans (by rw [n1])
  have n3 : (mk3 b1 b2 s.heap l1 l2).objs.size = s.heap.objs.size + 3 := (Heap.size_push ..).trans (by rw [n2])
  have n4 : (mk4 b1 b2 s.heap l1 l2).objs.size = s.heap.objs.size + 4 := (Heap.size_push ..).trans (by rw [n3])
  have d5 : (mk5 b1 b2 s.heap l1 l2).get? (mk4 b1 b2 s.heap l1 l2).objs.size = some { cls := .type "zip", data := .fields #[.none, .bool false, .bool false, .ref (mk2 b1 b2 s.heap l1 l2).objs.size, .ref (mk3 b1 b2 s.heap l1 l2).objs.size] } := Heap.get?_push_size _ rfl
  have d4 : (mk5 b1 b2 s.heap l1 l2).get? (mk3 b1 b2 s.heap l1 l2).objs.size = some { cls := .type "tuple", data := .seq #[.none, .none] } := Heap.get?_push_of_some _ (Heap.get?_push_size _ rfl)
  have d3 : (mk5 b1 b2 s.heap l1 l2).get? (mk2 b1 b2 s.heap l1 l2).objs.size = some { cls := .type "tuple", data := .seq #[.ref s.heap.objs.size, .ref (mk1 b1 s.heap l1).objs.size] } := Heap.get?_push_of_some _ (Heap.get?_push_of_some _ (Heap.get?_push_size _ rfl))
  have d2 : (mk5 b1 b2 s.heap l1 l2).get? (mk1 b1 s.heap l1).objs.size = some (itO b2 l2) := Heap.get?_push_of_some _ (Heap.get?_push_of_some _ (Heap.get?_push_of_some _ (Heap.get?_push_size _ (itO_live b2 l2))))
  have d1 : (mk5 b1 b2 s.heap l1 l2).get? s.heap.objs.size = some (itO b1 l1) := Heap.get?_push_of_some _ (Heap.get?_push_of_some _ (Heap.get?_push_of_some _ (Heap.get?_push_of_some _ (Heap.get?_push_size _ (itO_live b1 l1)))))
  show _ ∧ _
  rw [n2, n3, n4] at d5
  rw [n1, n2] at d3
  rw [n3] at d4
  rw [n1] at d2
  rw [n4]
  exact ⟨⟨_, d5, rfl⟩, fin _ d5 d3 d4 (it_new d1) (it_new d2) fun c o x => Heap.get?_push_of_some _ (Heap.get?_push_of_some _ (Heap.get?_push_of_some _ (Heap.get?_push_of_some _ (Heap.get?_push_of_some _ x))))⟩
end
end ZM

/-! zip of mixed kinds, in a loop -/
namespace ZM
open PySem PySem.Spec PyProof.Rows L2
def SqX (b : Bool) (K : PySem.W.Frag) (H : Hp) (a : Addr) (xs : List V) : Prop := cond b (SqT K H a xs) (SqL K H a xs)
section
variable {X : Cx} {pins : List (Addr × Obj)} {σ : L2.St} {H : Hp} {s : Shared} {a : Addr} {xs ys : List V}
theorem sq_get {b : Bool} (I : Inv X pins σ H s) (h : SqX b X.K H a xs) : ∃ its, Vals xs its ∧ Sq b s.heap a its.toArray := by
  cases b with
  | true => obtain ⟨its, rv, p, _⟩ := I.tuple h; exact ⟨its, rv, p⟩
  | false => obtain ⟨its, rv, p, _⟩ := I.list h; exact ⟨its, rv, p.isList⟩
theorem sq_one {b : Bool} (I : Inv X pins σ H s) (h : SqX b X.K H a xs) (h' : SqX b X.K H a ys) : xs = ys := by
  cases b with
  | true => exact I.tuple_inj h h'
  | false => exact I.list_inj h h'
end
def ItzM (K : PySem.W.Frag) (b1 b2 : Bool) (a c : Addr) : L2.It :=
  ⟨fun i H => ∃ (xs ys : List V) (x y : V), SqX b1 K H a xs ∧ SqX b2 K H c ys ∧ xs[i]? = some x ∧ ys[i]? = some y,
    fun i H v H' => ∃ T x y, v = .ref T ∧ H T = none ∧ H' = upd H T (.tup [x, y]) ∧ (∀ xs, SqX b1 K H a xs → xs[i]? = some x) ∧ ∀ ys, SqX b2 K H c ys → ys[i]? = some y,
    fun i H => ∃ xs ys : List V, SqX b1 K H a xs ∧ SqX b2 K H c ys ∧ (xs.length ≤ i ∨ ys.length ≤ i)⟩
theorem five {α : Type} {c a1 a2 a3 a4 a5 : α} (h : c ∈ [a1, a2, a3, a4, a5]) : c = a1 ∨ c = a2 ∨ c = a3 ∨ c = a4 ∨ c = a5 := by simpa using h
theorem turn_zipM {P : Program} {w : World} {K : PySem.W.Frag} {elts : List Expr} {kk : Nat} {tpos : Pos} {b1 b2 : Bool} {a b z TI TO i1 i2 : Addr} (D : ZipApart z TI TO i1 i2 a b) :
    Turn P w K (.Tuple elts kk tpos) (ItzM K b1 b2 a b) [z, TI, TO, i1, i2] z (fun i h => IsZip h z TI TO .none ∧ IsPair h TI (.ref i1) (.ref i2) ∧ (∃ x y, IsPair h TO x y) ∧ It b1 h i1 a i ∧ It b2 h i2 b i) where
  mem := by simp
  obj := fun i h st c hc => by
    obtain ⟨hz, pI, ⟨x, y, pO⟩, t1, t2⟩ := st
    rcases five hc with rfl | rfl | rfl | rfl | rfl
    · exact ⟨_, hz, fun v q => nomatch q⟩
    · exact ⟨_, pI, fun v q => nomatch q⟩
    · exact ⟨_, pO, fun v q => nomatch q⟩
    · exact t1.ob
    · exact t2.ob
  keep := fun i h h' st k => by
    obtain ⟨hz, pI, ⟨x, y, pO⟩, t1, t2⟩ := st
    exact ⟨k z (by simp) _ hz, k TI (by simp) _ pI, ⟨x, y, k TO (by simp) _ pO⟩, t1.to fun o q => k i1 (by simp) o q, t2.to fun o q => k i2 (by simp) o q⟩
  item := by
    intro X hP hw hK hc i pins s σ H E I hf st hg
    subst hP hw hK
    obtain ⟨hz, pI, ⟨x0, y0, pO⟩, t1, t2⟩ := st
    obtain ⟨xs, ys, x, y, g1, g2, hx, hy⟩ := hg
    obtain ⟨its, rv, p⟩ := sq_get I g1
    obtain ⟨its2, rv2, p2⟩ := sq_get I g2
    obtain ⟨u, hu, ru⟩ := rv.get hx
    obtain ⟨u2, hu2, ru2⟩ := rv2.get hy
    have zl : z < s.heap.objs.size := Heap.lt_size hz
    refine py_turn D hz pI pO t1 t2 p p2 (x := u) (y := u2) (by simpa using hu) (by simpa using hu2) fun g z' pO' t1' t2' nw sz rest => ?_
    refine ⟨_, rfl, wpAny_letOwnedTupleGo_zip (s := { s with heap := g }) z' fun gh z2 sb => ?_⟩
    have nw2 : gh.get? s.heap.objs.size = some { cls := .type "tuple", data := .seq #[u, u2] } := (sb.2 _ (Nat.ne_of_gt zl)).trans nw
    have ok : ObjOk X.prog X.w (upd H s.heap.objs.size (.tup [x, y])) gh s.heap.objs.size (.tup [x, y]) := ⟨by show 2 ≤ sizeLine; decide, [u, u2], .cons ru (.cons ru2 .nil), ⟨_, nw2, rfl, _, rfl⟩⟩
    have I1 : Inv X pins σ (upd H s.heap.objs.size (.tup [x, y])) { s with heap := gh } := I.turnedNew (t' := s.toks) (ch := [z, TI, TO, i1, i2]) (fun c o hb q => by
      simp only [List.mem_cons, List.not_mem_nil, or_false, not_or] at hb
      exact (sb.2 c hb.1).trans (rest c o hb.1 hb.2.2.1 hb.2.2.2.1 hb.2.2.2.2 q)) hf (Nat.le_refl _) ok
    refine ⟨.ref s.heap.objs.size, _, I1, rfl, ⟨_, x, y, rfl, I.hok.fresh (Nat.le_refl _), rfl, fun l hl => by rw [sq_one I hl g1]; exact hx, fun l hl => by rw [sq_one I hl g2]; exact hy⟩, ⟨z2, ?_, ⟨u, u2, ?_⟩, ?_, ?_⟩, fun c hcm => ?_⟩
    · exact (sb.2 _ D.TIz).trans (rest _ _ D.TIz D.TITO D.TIi1 D.TIi2 pI)
    · exact (sb.2 _ D.TOz).trans pO'
    · exact t1'.to fun o q => (sb.2 _ D.i1z).trans q
    · exact t2'.to fun o q => (sb.2 _ D.i2z).trans q
    · have lt : c < s.heap.objs.size := by
        rcases five hcm with rfl | rfl | rfl | rfl | rfl
        · exact zl
        · exact Heap.lt_size pI
        · exact Heap.lt_size pO
        · obtain ⟨_, e, _⟩ := t1.ob; exact Heap.lt_size e
        · obtain ⟨_, e, _⟩ := t2.ob; exact Heap.lt_size e
      rw [upd_ne (Nat.ne_of_lt lt)]
      exact (hf c hcm).1
  done := by
    intro X hP hw hK hc i pins s σ H E I hf st hg
    subst hP hw hK
    obtain ⟨hz, pI, ⟨x0, y0, pO⟩, t1, t2⟩ := st
    obtain ⟨xs, ys, g1, g2, hend⟩ := hg
    obtain ⟨its, rv, p⟩ := sq_get I g1
    obtain ⟨its2, rv2, p2⟩ := sq_get I g2
    have l1 := rv.length
    have l2 := rv2.length
    have he : its.toArray[i]? = none ∨ its2.toArray[i]? = none := hend.imp (fun q => by simp; omega) fun q => by simp; omega
    exact py_stop (I.ok.hd hc) D hz pI pO t1 t2 p p2 he fun g rest => ⟨rfl, I.turnedL (t' := s.toks) (ch := [z, TI, TO, i1, i2]) (fun c o hb q => by
      simp only [List.mem_cons, List.not_mem_nil, or_false, not_or] at hb
      exact rest c o hb.1 hb.2.2.1 hb.2.2.2.1 hb.2.2.2.2 q) hf⟩
  self := fun A i s Q E st h => wpAny_pyIter_zip st.1 h
def iZipM (K : PySem.W.Frag) (ta : TA) : TI := fun σ H R => ta σ H fun vs H1 => ∃ a b b1 b2 xs ys, vs = [.ref a, .ref b] ∧ SqX b1 K H1 a xs ∧ SqX b2 K H1 b ys ∧ R (ItzM K b1 b2 a b) H1
theorem pi_zipM {X : Cx} {e e2 : Expr} {ta : TA} {p pos tpos : Pos} {elts : List Expr} {kk : Nat} (hg : Gl X "zip") (hm : X.mg "zip" = none) (ha : PA X [e, e2] ta)
    (hs : starEach [e, e2] X.env = (false, eval e X.env) :: starEach [e2] X.env := by rfl) (hpl : (backTo pos (starEach [e2] X.env)).any (·.1) = false := by rfl) :
    PI X (.Tuple elts kk tpos) (.Call (.Name "zip" p) [e, e2] [] pos) (iZipM X.K ta) := by
  refine ⟨fun pins s σ H R I h => ?_⟩
  refine Call_ (ld_blt I hg hm PyProof.Rows.boot_zip (PyProof.Rows.callWith_type1 (thn (ha.run pos pins s σ H _ I h) fun us s1 ⟨vs, H1, I1, r1, q1⟩ => ?_) hs hpl))
  obtain ⟨a, b, b1, b2, xs, ys, ex, g1, g2, q⟩ := q1
  subst ex
  cases r1 with
  | cons r rr =>
    cases rr with
    | cons r' rr =>
      cases rr
      cases r
      cases r'
      have new5 : ∀ c, c ∈ [s1.heap.objs.size + 4, s1.heap.objs.size + 2, s1.heap.objs.size + 3, s1.heap.objs.size, s1.heap.objs.size + 1] → FpOk X pins H1 c := fun c hcm => by
        have le : s1.heap.objs.size ≤ c := by
          rcases five hcm with rfl | rfl | rfl | rfl | rfl
          · exact Nat.le_add_right _ _
          · exact Nat.le_add_right _ _
          · exact Nat.le_add_right _ _
          · exact Nat.le_refl _
          · exact Nat.le_add_right _ _
        exact I1.fpOk le (I1.hok.fresh le)
      obtain ⟨its, rv, p1⟩ := sq_get I1 g1
      obtain ⟨its2, rv2, p2⟩ := sq_get I1 g2
      refine call_zipM p1 p2 fun g hz pI pO t1 t2 rest => wpAny_pyIter_zip hz ?_
      exact ⟨s1.heap.objs.size + 4, [s1.heap.objs.size + 4, s1.heap.objs.size + 2, s1.heap.objs.size + 3, s1.heap.objs.size, s1.heap.objs.size + 1], _, _, H1, rfl, I1.kept (t' := s1.toks) rest, turn_zipM (PySem.W.ktu_apart s1.heap.objs.size a b p1.lt p2.lt), ⟨hz, pI, ⟨_, _, pO⟩, t1, t2⟩, new5, q⟩
end ZM
namespace DL
open PySem PySem.Spec PyProof.Rows L2
theorem sqX_mono {b : Bool} {K : PySem.W.Frag} {F F' : Hp} (h : Same F F') {a : Addr} {xs : List V} (q : ZM.SqX b K F a xs) : ZM.SqX b K F' a xs := by
  cases b with
  | true => exact sqT_mono h q
  | false => exact sqL_mono h q
def seqOf : D → Option (List D)
  | .lst xs => some xs
  | .tup xs => some xs
  | _ => none
theorem seq_rel {K : PySem.W.Frag} {F : Hp} {d : D} {v : V} {xs : List D} (r : RelD K F d v) (h : seqOf d = some xs) : ∃ a b vs, v = .ref a ∧ ZM.SqX b K F a vs ∧ RelDs K F xs vs := by
  cases r with
  | @tup p vs ds h1 rr => cases h; exact ⟨p, true, vs, rfl, tq h1, rr⟩
  | @lst p vs ds h1 rr => cases h; exact ⟨p, false, vs, rfl, .inl (.inl h1), rr⟩
  | _ => cases h
section
variable {X : Cx}
end
end DL

/-! enumerate(zip(x, y)): the pair that zip gave out may still stand -/
namespace EZ
open PySem ZM
section
variable {prog : Program} {w : World} {A : Around} {E : Value → Shared → Prop} {s : Shared} {b1 b2 : Bool} {z TI TO i1 i2 l1 l2 : Addr} {k1 k2 : Nat} {xs ys : Array Value} {a b f0 : Value} {f1 : Bool}
end
end EZ
namespace EZ
open PySem ZM
open AutoSeq1 (wpAny_loadPart')
theorem meets_new {zz TI TO : Addr} :
    Meets (Builtin.«enumerate.__new__» ⟨[.type "enumerate", .ref zz], []⟩) (fun _ R s => IsZip s.heap zz TI TO .none ∧
      R (.ok (.ret (.ref s.heap.objs.size))) { s with heap := s.heap.push { cls := .type "enumerate", data := .fields #[.none, .bool false, .ref zz, rawInt 0, .none, .none] } }) :=
  .of_wp fun prog w A R s h => by
    obtain ⟨hp, g, d, tk, os⟩ := s; obtain ⟨hl, h⟩ := h
    have hsub := sub_enumerate
    have hL : IsZip (Shared.heap ⟨hp, g, d, tk, os⟩) zz TI TO .none := hl
    wp_walk using wpAny_loadPart' hl
    refine wpAny_stack_any fun st => wpAny_pure ?_
    split
    · rename_i c _ _ _ _ _
      cases (c == Value.type "enumerate")
      · wp_walk using wpAny_loadPart' hl, wpAny_pyIter_zip hL
        exact ⟨_, rfl, h⟩
      · wp_walk using wpAny_loadPart' hl, wpAny_pyIter_zip hL
        exact ⟨_, rfl, h⟩
    · wp_walk using wpAny_loadPart' hl, wpAny_pyIter_zip hL
      exact ⟨_, rfl, h⟩
section
variable {prog : Program} {w : World} {A : Around} {E : Value → Shared → Prop} {s : Shared}
end
end EZ

/-! for over enumerate(zip(x, y)) -/
namespace EZ
open PySem PySem.Spec PyProof.Rows L2 ZM
end EZ
namespace DL
open PySem PySem.Spec PyProof.Rows L2
end DL

/-! sorted(list of numbers) -/
namespace DL
open PySem PySem.Spec PyProof.Rows L2
end DL

/-! DLX: what may raise: readings that take a wish about what is raised -/
namespace DL
open PySem PySem.Spec PyProof.Rows L2

abbrev DWish := DSt → D → LH → Prop
/-- the data of what is raised -/
def ExRel (K : PySem.W.Frag) (F : Hp) (x : D) (cls : Value) (d : Option Addr) : Prop := match x with
  | .exc k => ∃ C, PySem.W.nsIn K mainGlobals (exN k) = some (some (.ref C)) ∧ cls = .ref C ∧ d = none
  | .exc1 k e => ∃ C dx v, PySem.W.nsIn K mainGlobals (exN k) = some (some (.ref C)) ∧ cls = .ref C ∧ d = some dx ∧ F dx = some (.xd [(exF k, v)]) ∧ RelD K F e v
  | _ => False
theorem ExRel.rel {K : PySem.W.Frag} {F : Hp} {x : D} {cls : Value} {d : Option Addr} {a : Addr} (h : ExRel K F x cls d) (n : F a = none) : RelD K (upd F a (ExH cls d a)) x (.ref a) := by
  cases x with
  | exc k =>
    obtain ⟨C, h1, rfl, rfl⟩ := h
    exact .exc h1 upd_same
  | exc1 k e =>
    obtain ⟨C, dx, v, h1, rfl, rfl, h2, h3⟩ := h
    refine .exc1 h1 upd_same ?_ (h3.mono (same_upd n))
    rw [upd_ne (fun z => by rw [z, n] at h2; cases h2)]
    exact h2
  | _ => exact h.elim
def LX (K : PySem.W.Frag) (F Fr : Hp) (wx : DWish) : WX := fun cls d σ H => ∃ F' env l x, Same F F' ∧ RepE K F' env σ ∧ Rep K F' Fr l H ∧ ExRel K F' x cls d ∧ wx env x l
def LXE (K : PySem.W.Frag) (F Fr : Hp) (wd : D → LH → Prop) : XK := fun cls d H => ∃ F' l x, Same F F' ∧ Rep K F' Fr l H ∧ ExRel K F' x cls d ∧ wd x l
theorem takes_mono {X : Cx} {F F1 Fr : Hp} {wx : DWish} (s : Same F F1) (tk : Takes X (LX X.K F Fr wx)) : Takes X (LX X.K F1 Fr wx) :=
  tk.imp fun _ _ _ _ ⟨F', e, l, x, s', r⟩ => ⟨F', e, l, x, s.trans s', r⟩

structure DXE (X : Cx) (e : Expr) (t : DWish → DTE) : Prop where
  run : ∀ wx F Fr env l σ H Q, Takes X (LX X.K F Fr wx) → RepE X.K F env σ → Rep X.K F Fr l H → t wx env l Q → WE X e σ H (LK X.K F Fr Q)
structure DXA (X : Cx) (e : List Expr) (t : DWish → DTA) : Prop where
  run : ∀ wx F Fr env l σ H Q, Takes X (LX X.K F Fr wx) → RepE X.K F env σ → Rep X.K F Fr l H → t wx env l Q → WA X e σ H (LA X.K F Fr Q)
structure DXS (X : Cx) (st : Stmt) (t : DWish → DTS) : Prop where
  run : ∀ wx F Fr env l σ H E, Takes X (LX X.K F Fr wx) → RepE X.K F env σ → Rep X.K F Fr l H → t wx E env l → WS X st (LE X.K F Fr E) σ H
structure DXSs (X : Cx) (st : List Stmt) (t : DWish → DTS) : Prop where
  run : ∀ wx F Fr env l σ H E, Takes X (LX X.K F Fr wx) → RepE X.K F env σ → Rep X.K F Fr l H → t wx E env l → WSs X st (LE X.K F Fr E) σ H
section
variable {X : Cx} {e : Expr} {es : List Expr} {st : Stmt} {sts : List Stmt}
theorem dx_e {t : DTE} (h : DE X e t) : DXE X e (fun _ => t) := ⟨fun wx F Fr env l σ H Q _ he hr ht => h F Fr env l σ H Q he hr ht⟩
theorem dx_a {t : DTA} (h : DA X es t) : DXA X es (fun _ => t) := ⟨fun wx F Fr env l σ H Q _ he hr ht => h F Fr env l σ H Q he hr ht⟩
theorem dx_s {t : DTS} (h : DS X st t) : DXS X st (fun _ => t) := ⟨fun wx F Fr env l σ H Q _ he hr ht => h F Fr env l σ H Q he hr ht⟩
theorem dx_ss {t : DTS} (h : DSs X sts t) : DXSs X sts (fun _ => t) := ⟨fun wx F Fr env l σ H Q _ he hr ht => h F Fr env l σ H Q he hr ht⟩
end

/-! ### defs that may raise -/
def spOfX (K : PySem.W.Frag) (dsp : (D → LH → Prop) → DSp) : Sp := fun vs H Q E => ∃ F Fr ds l Qd wd, RelDs K F ds vs ∧ Rep K F Fr l H ∧ dsp wd ds l Qd ∧ (∀ v H', LK K F Fr Qd v H' → Q v H') ∧ ∀ cls d H', LXE K F Fr wd cls d H' → E cls d H'
def fnDX (tb : DWish → DTS) (np nl : Nat) (wd : D → LH → Prop) : DSp := fnD (tb fun _ => wd) np nl
structure FnX (P : Program) (w : World) (K : PySem.W.Frag) (mg : Str → Option Value) (base : Heap) (k : Nat) (f : Addr) (fd : FuncData) (ps : List Str) (dsp : (D → LH → Prop) → DSp) : Prop where
  len : ∀ wd ds l Q, dsp wd ds l Q → ds.length = ps.length
  run : ∀ (A : Around) (outer : List Env) (s : Shared) (H : Hp) (args : Args) (us : List Value) (vs : List V) (Q : VK) (E : XK), Room k A → A.guards = some [] → Env0 P w K mg base A outer s H → BindsTo s fd args (ps.zip us) → Vals vs us → spOfX K dsp vs H Q E →
    codeAny (model P w) A (.call (.ref f) args) (CR (L2.CX P w) outer P w H s Q E) s
section
variable {P : Program} {w : World} {K : PySem.W.Frag} {mg : Str → Option Value} {base : Heap}
theorem FnX.mono {j k : Nat} {f : Addr} {fd : FuncData} {ps : List Str} {dsp : (D → LH → Prop) → DSp} (G : FnX P w K mg base j f fd ps dsp) (h : j ≤ k) : FnX P w K mg base k f fd ps dsp :=
  ⟨G.len, fun A outer s H args us vs Q E hr => G.run A outer s H args us vs Q E (hr.mono h)⟩
/-- where nothing is raised -/
theorem FnX.plain {k : Nat} {f : Addr} {fd : FuncData} {ps : List Str} {dsp : (D → LH → Prop) → DSp} (G : FnX P w K mg base k f fd ps dsp) : FnG P w K mg base k f fd ps (dsp fun _ _ => False) := by
  refine ⟨G.len _, fun A outer s H args us vs Q E hr hgd e0 hbd r hsp => ?_⟩
  obtain ⟨F, Fr, ds, l, Qd, rd, R, q, hq⟩ := hsp
  refine codeAny_mono (G.run A outer s H args us vs Q L2.E0 hr hgd e0 hbd r ⟨F, Fr, ds, l, Qd, _, rd, R, q, hq, fun cls d H' z => ?_⟩) fun res s' hq => ?_
  · obtain ⟨_, _, _, _, _, _, z⟩ := z
    exact z.elim
  · cases res with
    | error _ =>
      obtain ⟨_, _, _, _, _, _, _, _, _, _, _, _, z⟩ := hq
      exact z.elim
    | ok fl => cases fl <;> exact hq
theorem fnx_ok {x qual : Str} {st : Stmt} {f : Addr} {fd : FuncData} {N ps : List Str} {k nl : Nat} {tb : DWish → DTS} (G : Fun K x qual st f fd) (S : FnScope N ps (defScope st)) (hn : nl = N.length - ps.length)
    (hb : ∀ (cdv : Value) (A : Around) (outer : List Env) (s : Shared) (H : Hp) (E : XK), Room k (A.deeper (envOfC qual (defScope st) s.heap.objs.size f cdv)) → (A.deeper (envOfC qual (defScope st) s.heap.objs.size f cdv)).guards = some [] →
      PassesOwn (model P w) (cxOf (L2.CX P w) P w K mg base N qual (defScope st) f cdv A outer s H E).A (cxOf (L2.CX P w) P w K mg base N qual (defScope st) f cdv A outer s H E).env (cxOf (L2.CX P w) P w K mg base N qual (defScope st) f cdv A outer s H E).xe →
      DXSs (cxOf (L2.CX P w) P w K mg base N qual (defScope st) f cdv A outer s H E) (defBody st) tb) :
    FnX P w K mg base (k + 1) f fd ps (fnDX tb ps.length nl) := by
  obtain ⟨oc, od, kV, doc, pm, an, cdv, ct, osl, rfl, lk, hcd⟩ := G.ex
  refine ⟨fun wd ds l Q h => h.1, fun A outer s H args us vs Q E hr hgd e0 hbd r hsp => ?_⟩
  obtain ⟨F, Fr, ds, l, Qd, wd, rd, R, ⟨h1, q⟩, hq, hE⟩ := hsp
  have hlen : vs.length = ps.length := by rw [← rd.length, h1]
  have inK : K.In s.heap := e0.mod.kin.keeps fun b o e => (e0.bs b o e).1
  have hlim : s.heap.NoLimit := e0.mod.nolimit.keeps fun b o e => (e0.bs b o e).1
  have kinds : ∀ y ∈ ps.zip us, (defScope st).names.lookup y.1 = some .local ∨ ((defScope st).names.lookup y.1 = some .cell ∧ ((cellsFrom (s.heap.objs.size + 1) (defScope st).names []).lookup y.1).isSome = true) := by
    rintro ⟨n, v⟩ hy
    exact (S.par n (List.of_mem_zip hy).1).imp id fun q => ⟨q, PySem.W.cellsFrom_some _ _ _ (.inl q)⟩
  refine codeAny_call_function hr.depth (inK _ _ lk) rfl S.co S.gen rfl (PySem.W.codeRec_of inK hcd) (hbd _ _ _ _ (wpAny_newFunctionEnv_cells S.kind kinds fun env he s1 ic => ?_))
  subst he
  refine ⟨hlim.keeps ic.toInCall.keep, codeAny_func ?_⟩
  have I : Inv (cxOf (L2.CX P w) P w K mg base N qual (defScope st) f cdv A outer s H E) [] (start N vs) H s1 := inv_start S hr.hd e0 hlen r ic
  have est : L2.start N vs = vs.map some ++ List.replicate nl none := by
    unfold L2.start
    rw [hn, hlen]
  have tk : Takes (cxOf (L2.CX P w) P w K mg base N qual (defScope st) f cdv A outer s H E) (LX K F Fr fun _ => wd) :=
    (takes_of (E := E) rfl rfl rfl rfl).imp fun c d σ H' ⟨F', env, l', x, s', _, R', er, w'⟩ => hE c d H' ⟨F', l', x, s', R', er, w'⟩
  have body : WSs (cxOf (L2.CX P w) P w K mg base N qual (defScope st) f cdv A outer s H E) (defBody st) (LE K F Fr ⟨fun _ l => Qd .non l, Qd, fun _ _ => False, fun _ _ => False⟩) (L2.start N vs) H := by
    rw [est]
    exact (hb cdv A outer s H E (hr.deeper _) hgd (passes_of rfl)).run (fun _ => wd) F Fr _ l _ H _ tk (RepE.start rd nl) R q
  refine wpAny_mono (pssW.run [] s1 _ H _ I body) (fun fl s' hs => ?_) fun e s' hs => hs
  have fin : ∀ {σ' : St} {H' : Hp} {v : V} {u : Value}, Inv (cxOf (L2.CX P w) P w K mg base N qual (defScope st) f cdv A outer s H E) [] σ' H' s' → RelV v u → Q v H' → CE outer P w H s Q u s' := fun J rv q => ⟨_, _, J.os, J.bare, J.base, J.hok, rv, q⟩
  cases fl with
  | ret u => obtain ⟨v, σ', H', J, rv, q⟩ := hs; exact fin J rv (hq v H' q)
  | next =>
    obtain ⟨σ', H', J, F', e', l', s', re, R', q⟩ := hs
    exact fin (v := .non) (u := .none) J rfl (hq .non H' ⟨F', .non, l', s', .non, R', q⟩)
  | brk => obtain ⟨σ', H', J, F', e', l', s', re, R', q⟩ := hs; exact q.elim
  | cont => obtain ⟨σ', H', J, F', e', l', s', re, R', q⟩ := hs; exact q.elim
end

section
variable {X : Cx} {e o : Expr} {es : List Expr} {to : DTE} {t : DWish → DTA} {pos p apos : Pos} {x m : Str} {c : Cl} {C : Addr} {k : Nat} {g f : Addr} {fd : FuncData} {ps : List Str} {dsp : (D → LH → Prop) → DSp}
theorem run_fnX {pins : List (Addr × Obj)} {σ : St} {H : Hp} {s : Shared} {us : List Value} {vs : List V} {F Fr : Hp} {env : DSt} {ds : List D} {l : LH} {Q : DK} {wx : DWish} (G : FnX X.prog X.w X.K X.mg X.base k g fd ps dsp) (hr : Room k X.A) (hgd : X.A.guards = some []) (hb : Binds X.K fd ps [])
    (I : Inv X pins σ H s) (r : Vals vs us) (rd : RelDs X.K F ds vs) (R : Rep X.K F Fr l H) (tk : Takes X (LX X.K F Fr wx)) (he : RepE X.K F env σ) (h : dsp (wx env) ds l Q) : wpAny (model X.prog X.w) X.A (call (.ref g) us) (EP X pins σ (LK X.K F Fr Q)) X.xe s := by
  have hsp : spOfX X.K dsp vs H (LK X.K F Fr Q) (LXE X.K F Fr (wx env)) := ⟨F, Fr, ds, l, Q, wx env, rd, R, h, fun v H' q => q, fun _ _ _ z => z⟩
  have hl : (us ++ []).length = ps.length := by rw [List.append_nil, ← r.length, ← rd.length]; exact G.len _ _ _ _ h
  have hbd := hb s us I.kIn hl
  rw [List.append_nil] at hbd
  refine wpAny_call (codeAny_mono (G.run X.A X.stack s H ⟨us, []⟩ us vs _ _ hr hgd I.env0 hbd r hsp) fun res s' hq => ?_)
  cases res with
  | error u => exact tk u s' (XE.of_call I (fun cls d H' ⟨F', l', x', s1, R', er, w⟩ => ⟨F', env, l', x', s1, he.mono s1, R', er, w⟩) hq)
  | ok fl =>
    cases fl with
    | ret u => exact I.after hq
    | next => exact hq.elim
    | brk => exact hq.elim
    | cont => exact hq.elim
def xDef (sp : (D → LH → Prop) → DSp) (wx : DWish) (t : DTA) : DTE := fun env l Q => t env l fun ds l1 => callD (sp (wx env)) ds l1 Q
theorem dx_call (G : FnX X.prog X.w X.K X.mg X.base k f fd ps dsp) (hr : Room k X.A) (hgd : X.A.guards = some []) (hg : Gl X x) (hm : X.mg x = some (.ref f)) (hk : PySem.W.keepIn X.K (.ref f) = true) (hb : Binds X.K fd ps []) (ha : DXA X (e :: es) t)
    (hdb : (x == ("__debug__" : Str)) = false := by decide) (he : starEach (e :: es) X.env = (false, eval e X.env) :: starEach es X.env := by rfl) (hpl : (backTo pos (starEach es X.env)).any (·.1) = false := by rfl) : DXE X (.Call (.Name x p) (e :: es) [] pos) (fun wx => xDef dsp wx (t wx)) := by
  refine ⟨?_⟩
  intro wx F Fr env l σ H Q tk hE hR ht pins s I
  refine wpAny_Call_Name_kw (ld_glob I hg hm ?_ hdb)
  refine PySem.W.callWith_K (h₀ := X.base) I.ok.mod.kin hk (thn (ha.run wx F Fr env l σ H _ tk hE hR ht pos pins s I) fun us s1 ⟨vs, H1, I1, r, F1, ds, l1, s1', r1, R1, q1⟩ => ⟨I1.kIn, ?_⟩) he hpl
  exact thn (run_fnX (us := us) (vs := vs) G hr hgd hb I1 r r1 R1 (takes_mono s1' tk) (hE.mono s1') q1.run) fun u s3 q3 => EP.mono (fun v H q => q.weak s1') q3
def xMeth (c : Cl) (sp : (D → LH → Prop) → DSp) (wx : DWish) (to : DTE) (t : DTA) : DTE := fun env l Q => to env l fun x l1 => atIns x l1 c fun _ _ => t env l1 fun ds l2 => callD (sp (wx env)) (x :: ds) l2 Q
def xMeth0 (c : Cl) (sp : (D → LH → Prop) → DSp) (wx : DWish) (to : DTE) : DTE := fun env l Q => to env l fun x l1 => atIns x l1 c fun _ _ => callD (sp (wx env)) [x] l1 Q
theorem dx_meth {pl : Sem Bool} (hC : PySem.W.nsIn X.K mainGlobals c.name = some (some (.ref C))) (cl : Cls X.K C) (hm : Meth X.K C m g) (hnf : c.fs.contains m = false) (G : FnX X.prog X.w X.K X.mg X.base k g fd ps dsp) (hr : Room k X.A) (hgd : X.A.guards = some []) (hb : Binds X.K fd ps []) (ho : DE X o to) (ha : DXA X (e :: es) t)
    (hst : starEach (e :: es) X.env = (false, eval e X.env) :: starEach es X.env := by rfl) (hpl : (backTo pos (starEach es X.env)).any (·.1) = false := by rfl)
    (ht : eval (.Call (.Attribute o m apos) (e :: es) [] pos) X.env = (do
      let ov ← eval o X.env
      standAt apos.atName
      let (f, first) ← holding [ov] (getMethod ov m pl)
      callWith pos f first (backTo pos (starEach (e :: es) X.env)) (backToKw pos (keywordEach [] X.env))) := by rfl) :
    DXE X (.Call (.Attribute o m apos) (e :: es) [] pos) (fun wx => xMeth c dsp wx to (t wx)) := by
  refine ⟨?_⟩
  intro wx F Fr env l σ H Q tk hE hR htt pins s I
  refine PySem.W.methodCall_KW (pl := pl) (thn (ho F Fr env l σ H _ hE hR htt pins s I) fun u s1 ⟨x, H1, I1, rx, F1, d, l1, s1', rd, R1, q1⟩ => ?_) ht
  obtain ⟨a, ds, dx, vs, rfl, rfl, q, hl0, rr, hl, hH⟩ := atIns_ok hC R1 rd q1
  obtain rfl : u = Value.ref a := rx
  refine getmeth_ok I1 hH cl hm (lookup_zip_none (fun z => by rw [List.contains_iff_mem.mpr z] at hnf; cases hnf)) ?_
  refine PySem.W.callWith_K (first := [.ref a]) (h₀ := X.base) I.ok.mod.kin hm.kp (thn (ha.run wx F1 Fr env l1 σ H1 _ (takes_mono s1' tk) (hE.mono s1') R1 q pos pins s1 I1) fun us s2 ⟨vs, H2, I2, r, F2, ds2, l2, s2', r2, R2, q2⟩ => ⟨I2.kIn, ?_⟩) hst hpl
  exact thn (run_fnX (us := .ref a :: us) (vs := .ref a :: vs) G hr hgd hb I2 (.cons rfl r) (.cons (.ref a) r2) R2 (takes_mono (s1'.trans s2') tk) (hE.mono (s1'.trans s2')) q2.run) fun u s3 q3 => EP.mono (fun v H q => q.weak (s1'.trans s2')) q3
theorem dx_meth0 {pl : Sem Bool} (hC : PySem.W.nsIn X.K mainGlobals c.name = some (some (.ref C))) (cl : Cls X.K C) (hm : Meth X.K C m g) (hnf : c.fs.contains m = false) (G : FnX X.prog X.w X.K X.mg X.base k g fd ps dsp) (hr : Room k X.A) (hgd : X.A.guards = some []) (hb : Binds X.K fd ps []) (ho : DE X o to)
    (ht : eval (.Call (.Attribute o m apos) [] [] pos) X.env = (do
      let ov ← eval o X.env
      standAt apos.atName
      let (f, first) ← holding [ov] (getMethod ov m pl)
      callWith pos f first (backTo pos (starEach [] X.env)) (backToKw pos (keywordEach [] X.env))) := by rfl) :
    DXE X (.Call (.Attribute o m apos) [] [] pos) (fun wx => xMeth0 c dsp wx to) := by
  refine ⟨?_⟩
  intro wx F Fr env l σ H Q tk hE hR htt pins s I
  refine PySem.W.methodCall_KW (pl := pl) (thn (ho F Fr env l σ H _ hE hR htt pins s I) fun u s1 ⟨x, H1, I1, rx, F1, d, l1, s1', rd, R1, q1⟩ => ?_) ht
  obtain ⟨a, ds, dx, vs, rfl, rfl, q, hl0, rr, hl, hH⟩ := atIns_ok hC R1 rd q1
  obtain rfl : u = Value.ref a := rx
  refine getmeth_ok I1 hH cl hm (lookup_zip_none (fun z => by rw [List.contains_iff_mem.mpr z] at hnf; cases hnf)) ?_
  refine PySem.W.callWith_K0 (first := [.ref a]) I1.kIn hm.kp ?_
  exact thn (run_fnX (us := [.ref a]) (vs := [.ref a]) G hr hgd hb I1 (.cons rfl .nil) (.cons (.ref a) .nil) R1 (takes_mono s1' tk) (hE.mono s1') q.run) fun u s3 q3 => EP.mono (fun v H q => q.weak s1') q3
end
end DL

namespace DL
open PySem PySem.Spec PyProof.Rows L2
/-! ### argument lists, displays, statements -/
section
variable {X : Cx} {e : Expr} {es : List Expr} {te : DWish → DTE} {u : DWish → DTA} {pos : Pos} {st : Stmt} {rest : List Stmt} {t v : DWish → DTS}
theorem dxa_nil : DXA X [] (fun _ => aNil) := dx_a da_nil
theorem dxa_cons (ha : DXE X e te) (hr : DXA X es u) (hs : starEach (e :: es) X.env = (false, eval e X.env) :: starEach es X.env := by rfl) : DXA X (e :: es) (fun wx => aCons (te wx) (u wx)) := by
  refine ⟨?_⟩
  intro wx F Fr env l σ H Q tk he hR ht
  refine (pa_cons peW paW hs).wa ?_
  refine (ha.run wx F Fr env l σ H _ tk he hR ht).mono fun x H1 ⟨F1, d, l1, s1, r1, R1, q1⟩ => ?_
  refine (hr.run wx F1 Fr env l1 σ H1 _ (takes_mono s1 tk) (he.mono s1) R1 q1).mono fun xs H2 ⟨F2, ds, l2, s2, r2, R2, q2⟩ => ?_
  exact ⟨F2, d :: ds, l2, s1.trans s2, .cons (r1.mono s2) r2, R2, q2⟩
theorem dx_tup {x1} (h : DXA X es u) : DXE X (.Tuple es x1 pos) (fun wx => dTup (u wx)) := by
  refine ⟨?_⟩
  intro wx F Fr env l σ H Q tk he hR ht
  refine (pe_tup paW).we ?_
  refine (h.run wx F Fr env l σ H _ tk he hR ht).mono fun x H1 ⟨F1, ds, l1, s1, r1, R1, q1, q2⟩ => ?_
  exact ⟨by rw [← r1.length]; exact q1, fun p np => (LK.tup np R1 r1 q2).weak s1⟩
theorem dx_lstM (h : DXA X es u) : DXE X (.List es pos) (fun wx => dLstM (u wx)) := by
  refine ⟨?_⟩
  intro wx F Fr env l σ H Q tk he hR ht
  refine (pe_lst paW).we ?_
  refine (h.run wx F Fr env l σ H _ tk he hR ht).mono fun x H1 ⟨F1, ds, l1, s1, r1, R1, q1, q2⟩ => ?_
  exact ⟨by rw [← r1.length]; exact q1, fun p np => (LK.mut np R1 r1 q2).weak s1⟩
theorem dxs_one (h : DXS X st t) : DXSs X [st] t := ⟨fun wx F Fr env l σ H E tk he hr ht => (pss_one psW).wss (h.run wx F Fr env l σ H E tk he hr ht)⟩
theorem dxs_cons (h1 : DXS X st t) (h2 : DXSs X rest v) : DXSs X (st :: rest) (fun wx => sSeq (t wx) (v wx)) := by
  refine ⟨?_⟩
  intro wx F Fr env l σ H E tk he hr ht
  refine (pss_cons psW pssW).wss ?_
  refine (h1.run wx F Fr env l σ H _ tk he hr ht).mono (fun σ1 H1 ⟨F1, env1, l1, s1, he1, R1, q1⟩ => ?_) (fun _ _ q => q) (fun _ _ q => q) (fun _ _ q => q)
  exact (h2.run wx F1 Fr env1 l1 σ1 H1 E (takes_mono s1 tk) he1 R1 q1).mono (fun _ _ q => LS.weak s1 q) (fun _ _ q => LK.weak s1 q) (fun _ _ q => LS.weak s1 q) (fun _ _ q => LS.weak s1 q)
theorem dxs_nS {sts : List Stmt} (h : DXSs X sts t) : DXSs X sts (fun wx => nS (t wx)) := ⟨fun wx F Fr env l σ H E tk he hr ht => h.run wx F Fr env l σ H E tk he hr ht.run⟩
theorem dxs_ret (h : DXE X e te) : DXS X (.Return (some e) pos) (fun wx => sRet (te wx)) := ⟨fun wx F Fr env l σ H E tk he hr ht => (ps_ret peW).ws (h.run wx F Fr env l σ H _ tk he hr ht)⟩
theorem dxs_expr (h : DXE X e te) (hs : swapsWith e none pos.line X.env = pure false := by rfl) : DXS X (.Expr e pos) (fun wx => sExpr (te wx)) := by
  refine ⟨?_⟩
  intro wx F Fr env l σ H E tk he hr ht
  refine (ps_expr peW hs).ws ?_
  exact (h.run wx F Fr env l σ H _ tk he hr ht).mono fun x H1 ⟨F1, d, l1, s1, r1, R1, q1⟩ => ⟨F1, env, l1, s1, he.mono s1, R1, q1⟩
theorem dxs_if {c : Expr} {a b : List Stmt} {tt : DTT} (hc : DT X c tt) (ha : DXSs X a t) (hb : DXSs X b v) : DXS X (.If c a b pos) (fun wx => sIf tt (t wx) (v wx)) := by
  refine ⟨?_⟩
  intro wx F Fr env l σ H E tk he hr ht
  refine (ps_if ptW pssW pssW).ws ?_
  refine (hc F Fr env l σ H _ he hr ht).mono fun x H1 ⟨F1, l1, s1, R1, q1⟩ => ?_
  cases x with
  | true => exact L2.iteT ((ha.run wx F1 Fr env l1 σ H1 E (takes_mono s1 tk) (he.mono s1) R1 (ifB_T q1)).mono (fun _ _ q => LS.weak s1 q) (fun _ _ q => LK.weak s1 q) (fun _ _ q => LS.weak s1 q) (fun _ _ q => LS.weak s1 q))
  | false => exact L2.iteF ((hb.run wx F1 Fr env l1 σ H1 E (takes_mono s1 tk) (he.mono s1) R1 (ifB_F q1)).mono (fun _ _ q => LS.weak s1 q) (fun _ _ q => LK.weak s1 q) (fun _ _ q => LS.weak s1 q) (fun _ _ q => LS.weak s1 q))
theorem dxs_set {i : Nat} {x : Str} {pos' : Pos} (hN : X.N.Nodup) (hi : X.N[i]? = some x) (hx : Loc X.env.scope x) (h : DXE X e te) (hs : swapsWith e (some (.Name x pos')) pos.line X.env = pure false := by rfl) (hf : X.fn x = true ∨ X.env.scope.names.lookup x = some .local := by first | exact .inl rfl | exact .inr rfl | assumption) : DXS X (.Assign [.Name x pos'] e pos) (fun wx => sSet i (te wx)) := by
  refine ⟨?_⟩
  intro wx F Fr env l σ H E tk he hr ht
  refine (ps_set hN hi hx peW hs hf).ws ?_
  refine (h.run wx F Fr env l σ H _ tk he hr ht).mono fun x H1 ⟨F1, d, l1, s1, r1, R1, q1⟩ => ?_
  replace q1 : setK env i d fun env' => E.nx env' l1 := q1
  rw [setK_eq] at q1
  exact ⟨F1, _, l1, s1, (he.mono s1).set r1 i, R1, q1⟩
theorem dxs_for {tg iter : Expr} {body : List Stmt} {ti : DTI} {g : DTG} {tb : DWish → DTS} {vs : List Nat} (hp : PassesOwn (model X.prog X.w) X.A X.env X.xe) (hc : X.calm = true) (hi : DI X tg iter ti) (hg : DG X tg vs g) (hb : DXSs X body tb)
    (hs : ∀ x, foldedSetIterable iter X.env x = pure x := by intro _; rfl) : DXS X (.For tg iter body [] pos) (fun wx => sFor ti g (tb wx)) := by
  refine ⟨?_⟩
  intro wx F Fr env l σ H E tk he hr ht
  refine (ps_for hp hc piW pgW pssW hs).ws ?_
  refine (hi F Fr env l σ H _ he hr ht).mono fun J H1 ⟨F1, l1, ds, s1, R1, jk, q1⟩ => ?_
  refine ⟨fun i m σ H => m = ds.length - i ∧ i ≤ ds.length ∧ ∃ F' env l, Same F1 F' ∧ RepE X.K F' env σ ∧ Rep X.K F' Fr l H ∧ forL g (tb wx) (ds.drop i) E env l, ⟨_, rfl, Nat.zero_le _, F1, env, l1, Same.refl _, he.mono s1, R1, q1⟩, ?_⟩
  rintro i m σ H ⟨rfl, hi, F2, env, l, s2, he2, R2, q2⟩
  obtain ⟨j1, j2⟩ := jk i F2 Fr l H s2 R2
  by_cases hlt : i < ds.length
  · rw [List.drop_eq_getElem_cons hlt] at q2
    obtain ⟨go, y⟩ := j2 ds[i] (List.getElem?_eq_getElem hlt)
    refine .inr ⟨go, fun σ H => ∃ F' env l, Same F1 F' ∧ RepE X.K F' env σ ∧ Rep X.K F' Fr l H ∧ forL g (tb wx) (ds.drop (i + 1)) E env l, fun σ' H' h => ⟨_, by omega, rfl, hlt, h⟩, fun x H' hy => ?_⟩
    obtain ⟨F3, s3, rx, R3⟩ := y x H' hy
    refine (hg F3 Fr env l σ H' _ _ _ (he2.mono s3) R3 rx q2).mono fun σ4 H4 ⟨_, F4, env4, l4, s4, he4, R4, q4⟩ => ?_
    have S : Same F1 F4 := s2.trans (s3.trans s4)
    refine (hb.run wx F4 Fr env4 l4 σ4 H4 _ (takes_mono (s1.trans S) tk) he4 R4 q4).mono (fun σ5 H5 q => ?_) (fun _ _ q => LK.weak (s1.trans S) q) (fun _ _ q => LS.weak (s1.trans S) q) (fun σ5 H5 q => ?_)
    · obtain ⟨F5, env5, l5, s5, he5, R5, q5⟩ := q
      exact ⟨F5, env5, l5, S.trans s5, he5, R5, q5⟩
    · obtain ⟨F5, env5, l5, s5, he5, R5, q5⟩ := q
      exact ⟨F5, env5, l5, S.trans s5, he5, R5, q5⟩
  · have e : i = ds.length := by omega
    subst e
    rw [List.drop_length] at q2
    exact .inl ⟨j1 (Nat.le_refl _), F2, env, l, s1.trans s2, he2, R2, q2⟩
theorem dxs_while {c : Expr} {body : List Stmt} {tt : DTT} {tb : DWish → DTS} (hp : PassesOwn (model X.prog X.w) X.A X.env X.xe) (hc : DT X c tt) (hb : DXSs X body tb) : DXS X (.While c body [] pos) (fun wx => sWhile tt (tb wx)) := by
  refine ⟨?_⟩
  intro wx F Fr env l σ H E tk he hr ht
  obtain ⟨W, ⟨m, w0⟩, step⟩ := ht
  refine (ps_while hp ptW pssW).ws ?_
  refine ⟨fun m σ H => ∃ F' env l, Same F F' ∧ RepE X.K F' env σ ∧ Rep X.K F' Fr l H ∧ W m env l, ⟨m, F, env, l, Same.refl F, he, hr, w0⟩, ?_⟩
  rintro m σ H ⟨F1, env, l, s1, he1, R1, w1⟩
  refine (hc F1 Fr env l σ H _ he1 R1 (step m env l w1)).mono fun x H1 ⟨F2, l2, s2, R2, q2⟩ => ?_
  have S := s1.trans s2
  cases x with
  | true =>
    refine L2.iteT ⟨fun σ H => ∃ m', m' < m ∧ ∃ F' env l, Same F F' ∧ RepE X.K F' env σ ∧ Rep X.K F' Fr l H ∧ W m' env l, fun σ' H' h => h, ?_⟩
    refine (hb.run wx F2 Fr env l2 σ H1 _ (takes_mono S tk) (he1.mono s2) R2 (ifB_T q2)).mono (fun σ5 H5 q => ?_) (fun _ _ q => LK.weak S q) (fun _ _ q => LS.weak S q) (fun σ5 H5 q => ?_)
    · obtain ⟨F5, env5, l5, s5, he5, R5, m', hm, q5⟩ := q
      exact ⟨m', hm, F5, env5, l5, S.trans s5, he5, R5, q5⟩
    · obtain ⟨F5, env5, l5, s5, he5, R5, m', hm, q5⟩ := q
      exact ⟨m', hm, F5, env5, l5, S.trans s5, he5, R5, q5⟩
  | false => exact L2.iteF ⟨F2, env, l2, S, he1.mono s2, R2, ifB_F q2⟩
end

/-! ### raise -/
/-- what is asked of a class of exceptions that has no __init__ of its own -/
structure XCls (K : PySem.W.Frag) (C : Addr) : Prop where
  ex : PySem.W.excIn K C [.type "ValueError", .type "Exception", .type "BaseException", .type "object"] "ValueError.__new__" = true
  kp : PySem.W.keepIn K (.ref C) = true
  sub : PySem.W.subIn K (.ref C) (.type "BaseException") = some true
  ty : PySem.W.typeIn K (.ref C) = some (.type "type")
/-- what isinstance asks of a class of exceptions -/
structure XIs (K : PySem.W.Frag) (C : Addr) : Prop where
  cl : (PySem.W.clsIn K C).isSome = true
  ga : PySem.W.findIn K (.ref C) "__getattribute__" = some (some (.builtin "BaseException.__getattribute__"))
  gt : PySem.W.findIn K (.ref C) "__getattr__" = some none
  sub : PySem.W.subIn K (.ref C) (.type "BaseException") = some true
  ha : PySem.W.findIn K (.ref C) "__class__" = some (some (.builtin "object.__class__"))
  hn : PySem.W.specialIn K (.builtin "object.__class__") "__get__" = some (some (.builtin "getset_descriptor.__get__"))
  htk : PySem.W.takesIn K (.builtin "object.__class__") = some true
  hm : PySem.W.mroIn K C (.type "object") = some true
section
variable {X : Cx} {x m : Str} {C : Addr} {k j : Nat} {p p2 pos pos' : Pos}
def xRaise (k : Nat) (wx : DWish) : DTS := fun _ env l => wx env (.exc k) l
theorem dxs_raise (k : Nat) (hc : X.calm = true) (gC : X.mg x = some (.ref C)) (hns : PySem.W.nsIn X.K mainGlobals (exN k) = some (some (.ref C))) (T : XCls X.K C) (hg : Gl X x) (hdb : (x == ("__debug__" : Str)) = false := by decide) :
    DXS X (.Raise (some (.Call (.Name x p) [.Constant (.str m) j p2] [] pos)) none pos') (fun wx => xRaise k wx) := by
  refine ⟨?_⟩
  intro wx F Fr env l σ H E tk he hr ht
  exact (ps_raise hc tk (pmk_own PySem.F.excBase_ValueError T.ex gC T.kp (raises_own T.sub T.ty) hg hdb)).ws (D := LE X.K F Fr E) ⟨F, env, l, .exc k, Same.refl F, he, hr, ⟨C, hns, rfl, rfl⟩, ht⟩
end

/-! ### what a table says of the classes -/
def exL : List (Nat × Bool) → Nat → (Bool → Prop) → Prop
  | [], _, _ => False
  | (j, b) :: r, k, Q => match Nat.beq j k with
    | true => Q b
    | false => exL r k Q
def exTab (tab : List (Nat × Bool)) (x : D) (Q : Bool → Prop) : Prop := match x with
  | .exc k => exL tab k Q
  | .exc1 k _ => exL tab k Q
  | _ => False
def XTab (K : PySem.W.Frag) (P : Addr → Bool → Prop) : List (Nat × Bool) → Prop
  | [] => True
  | (k, b) :: r => (∃ C, PySem.W.nsIn K mainGlobals (exN k) = some (some (.ref C)) ∧ P C b) ∧ XTab K P r
theorem exL_ok {K : PySem.W.Frag} {P : Addr → Bool → Prop} {k : Nat} {Q : Bool → Prop} : ∀ {tab : List (Nat × Bool)}, XTab K P tab → exL tab k Q → ∃ b C, PySem.W.nsIn K mainGlobals (exN k) = some (some (.ref C)) ∧ P C b ∧ Q b
  | [], _, q => q.elim
  | (j, b) :: r, ⟨⟨C, h1, h2⟩, t⟩, q => by
    unfold exL at q
    cases e : Nat.beq j k with
    | true =>
      rw [e] at q
      have e' : j = k := Nat.eq_of_beq_eq_true e
      subst e'
      exact ⟨b, C, h1, h2, q⟩
    | false =>
      rw [e] at q
      exact exL_ok t q
theorem exTab_ok {K : PySem.W.Frag} {F : Hp} {P : Addr → Bool → Prop} {x : D} {cls : Value} {d : Option Addr} {Q : Bool → Prop} {tab : List (Nat × Bool)} (T : XTab K P tab) (er : ExRel K F x cls d) (q : exTab tab x Q) : ∃ b C, cls = .ref C ∧ P C b ∧ Q b := by
  cases x with
  | exc k =>
    obtain ⟨C, h1, rfl, rfl⟩ := er
    obtain ⟨b, C', h1', h2, q⟩ := exL_ok T q
    rw [h1] at h1'
    cases h1'
    exact ⟨b, _, rfl, h2, q⟩
  | exc1 k e =>
    obtain ⟨C, dx, v, h1, rfl, _⟩ := er
    obtain ⟨b, C', h1', h2, q⟩ := exL_ok T q
    rw [h1] at h1'
    cases h1'
    exact ⟨b, _, rfl, h2, q⟩
  | _ => exact er.elim

/-! ### try: the exception that is caught is tracked from then on -/
section
variable {X : Cx} {pins : List (Addr × Obj)} {σ : St} {H : Hp} {s : Shared}
theorem Inv.track {a : Addr} {oe : Obj} {vs : Array Value} {cls : Value} {d : Option Addr} (I : Inv X pins σ H s) (ha : s.heap.get? a = some oe) (hc : oe.cls = cls) (hdd : oe.dict = d) (hd : oe.data = .fields vs) (na : H a = none) (nL : a ≠ X.env.locals) (n0 : X.s_0.heap.get? a = none)
    (np : ∀ p ∈ X.pn ++ pins, p.1 ≠ a) : Inv X pins σ (upd H a (ExH cls d a)) s := by
  refine ⟨I.ok, I.os, I.bare, ⟨I.base.keep, I.base.slot, fun b o e n hx => ?_, I.base.there, fun b xs e => ?_, fun b o u e => ?_, fun b ps e => ?_⟩, I.loc, I.cell, ?_, fun y c e => ?_, fun p hp => ?_, fun b o e => ?_, I.len⟩
  · rw [upd_ne (fun z => by rw [z, n0] at e; cases e)]
    exact I.base.free b o e n hx
  · have q := I.base.tups b xs e
    rw [upd_ne (ne_of_none q na)]
    exact q
  · have q := I.base.frzs b o u e
    rw [upd_ne (ne_of_none q na)]
    exact q
  · obtain ⟨m, q⟩ := I.base.tbls b ps e
    exact ⟨m, by rw [upd_ne (ne_of_none q na)]; exact q⟩
  · rw [upd_ne (Ne.symm nL)]
    exact I.free
  · obtain ⟨v, o, ho, hv⟩ := I.cell y c e
    rw [upd_ne (fun z => by rw [z, ha] at ho; cases ho; rw [hd] at hv; cases hv)]
    exact I.freeC y c e
  · obtain ⟨h1, h2, h3⟩ := I.pin p hp
    exact ⟨h1, by rw [upd_ne (np p hp)]; exact h2, h3⟩
  · by_cases hb : b = a
    · subst hb
      rw [upd_same] at e
      cases e
      exact ⟨⟨oe, vs, ha, hc, hdd, hd⟩, ⟨oe, ha⟩, fun _ _ ⟨o, v, q, r⟩ k => ⟨o, v, k o q, r⟩⟩
    · rw [upd_ne hb] at e
      exact (I.hok b o e).stay (fun c u _ q => q) (fun c q => by rw [upd_ne (ne_of_none q na)]; exact q) fun c xs q => by rw [upd_ne (ne_of_none q na)]; exact q
theorem Inv.suite0 (I : Inv X pins σ H s) (a : Addr) : Inv (X.suite a (X.pn ++ pins)) [] σ H s :=
  ⟨I.ok.suite _ _, I.os, I.bare, I.base, I.loc, I.cell, I.free, I.freeC, fun p hp => I.pin p (by rw [List.append_nil] at hp; exact hp), I.hok, I.len⟩
theorem Inv.unsuite0 {a : Addr} {pn' : List (Addr × Obj)} (I : Inv (X.suite a (X.pn ++ pins)) pn' σ H s) (ok : X.Ok) : Inv X pins σ H s :=
  ⟨ok, I.os, I.bare, I.base, I.loc, I.cell, I.free, I.freeC, fun p hp => I.pin p (List.mem_append_left _ hp), I.hok, I.len⟩
end
def wKeep (K : PySem.W.Frag) (c : Value) (i : Nat) (ts : Addr → TS) (Wout : WX) (D : Ends) : WX := fun cls d σ H =>
  ∃ b, PySem.W.exmOne K cls c = some b ∧ (b = true → ∀ a, H a = none → ts a { nx := fun σ' H' => D.nx (σ'.set i none) H', rt := D.rt, bk := fun σ' H' => D.bk (σ'.set i none) H', ct := fun σ' H' => D.ct (σ'.set i none) H' } (σ.set i (some (.ref a))) (upd H a (ExH cls d a))) ∧
    (b = false → Wout cls d σ H)
section
variable {X : Cx} {x n : Str} {c : Value} {i : Nat} {body suite : List Stmt} {b₀ : Stmt} {np pos pos' : Pos} {tb : WX → TS} {ts : Addr → TS} {Wout : WX}
theorem ps_try_keep (hs : X.stack = X.env :: X.outer) (hf : X.env.frame = some X.env.locals) (hN : X.N.Nodup) (hi : X.N[i]? = some n) (hln : X.env.kindOf n = some .local) (hc : Names X x c) (hex : X.ex = []) (tk : Takes X Wout)
    (hb : ∀ (W : WX) (pn : List (Addr × Obj)) (xe : Value → Shared → Prop), Takes (X.tr pn xe) W → PassesOwn (model X.prog X.w) X.A X.env xe → PSs (X.tr pn xe) body (tb W))
    (hsu : ∀ (a : Addr) (pn : List (Addr × Obj)), PSs (X.suite a pn) (b₀ :: suite) (ts a)) :
    PS X (.Try body [.ExceptHandler (some (.Name x np)) (some n) (b₀ :: suite) pos'] [] [] pos) (fun D σ H => tb (wKeep X.K c i ts Wout D) D σ H) := by
  refine ⟨fun pins s σ H D I h => ?_⟩
  have ok := I.ok
  have hfr : X.A.frames = some (X.env :: X.outer) := by rw [ok.frames, hs]
  have hloc : Loc X.env.scope n := .inl hln
  refine wpAny_Try_except ?_
  refine wpAny_mono ((hb (wKeep X.K c i ts Wout D) (X.pn ++ pins) (fun e s₁ => wpAny (model X.prog X.w) X.A (noteFrame e X.env) (fun _ s₂ => wpAny (model X.prog X.w) X.A (setFlight e none) (fun _ s₃ =>
    wpAny (model X.prog X.w) X.A (handleBy e X.env [.ExceptHandler (some (.Name x np)) (some n) (b₀ :: suite) pos']) (SP X pins D) X.xe s₃) X.xe s₂) X.xe s₁) (fun u s' xx => ?_) PassesOwn.looking).run [] s σ H D (I.toTry _) h) (fun f s1 hsp => ?_) (fun e s1 he => he)
  · -- the catch
    obtain ⟨a, B, sI, pins', σ', H', cls, d, rfl, J', nb, up, sky, na, os, ag, b, hb1, hyes, hno⟩ := xx
    have J : Inv X pins σ' H' sI := J'.ofTry ok
    have sky' : Sky B (X.env :: X.outer) a (Zc cls d) X.env.locals s'.heap := by rw [← hs]; exact sky
    show wpAny (model X.prog X.w) X.A (noteFrame (.ref a) X.env) _ _ _
    refine Sky.land Zc.steady hfr hf sky' fun h3 fl3 up3 => ?_
    have J3 : Inv X pins σ' H' { s' with heap := h3 } := J.landed nb fl3.1 (up.trans up3) os ag
    obtain ⟨oe3, vs3, he3, hz3, hd3⟩ := fl3.there
    have notFr : ∀ {h : Heap} {o : Obj} {vs : Array Value}, h.FunFrames B (X.env :: X.outer) → h.get? a = some o → o.data = .fields vs → a ∉ frs (X.env :: X.outer) := fun {h o vs} ff e dd hm => by
      obtain ⟨_, o', e', hnf⟩ := ff.mem hm
      rw [e] at e'; cases e'
      exact hnf _ dd
    have nfr := notFr fl3.2.2.1 he3 hd3
    have nL : a ≠ X.env.locals := fun z => nfr (List.mem_filterMap.mpr ⟨X.env, List.mem_cons_self, by rw [hf, z]⟩)
    have nI : sI.heap.get? a = none := by
      cases q : sI.heap.get? a with
      | none => rfl
      | some o =>
        have z := nb a o q (by rw [show frs X.stack = frs (X.env :: X.outer) from by rw [hs]]; exact nfr)
        rw [fl3.2.1] at z
        cases z
    have n0 : X.s_0.heap.get? a = none := by
      cases q : X.s_0.heap.get? a with
      | none => rfl
      | some o =>
        obtain ⟨o', z⟩ := J.base.there a o q (by rw [hex]; exact fun z => nomatch z)
        rw [nI] at z
        cases z
    have npin : ∀ p ∈ X.pn ++ pins, p.1 ≠ a := fun p hp z => by
      have q := (J.pin p hp).1
      rw [z, nI] at q
      cases q
    have S3 := Inv.suite0 J3 a
    refine wpAny_handleBy_cons (codeAny_handlers_test ?_) (by intro q; cases q)
    have LT : PySem.W.Looks (model X.prog X.w) h3 (typeOf (.ref a)) cls := fun A Q E s k q => wpAny_typeOf_ref (k _ _ he3) (by rw [hz3.1]; exact q)
    have LM := PySem.W.exm_one (M := model X.prog X.w) (J3.kIn) LT hb1
    have test : ∀ {Q : Value → Shared → Prop} {E : Value → Shared → Prop}, Q c { s' with heap := h3 } → wpAny (model X.prog X.w) (X.A.mark (some (.ref a))) (eval (.Name x np) X.env) Q E { s' with heap := h3 } := fun {Q E} q => by
      obtain ⟨hg, hdbg, hm | ⟨hm, hv, hnn⟩⟩ := hc
      · exact ld_glob (X := X.suite a (X.pn ++ pins)) S3 hg hm q hdbg
      · exact ld_blt (X := X.suite a (X.pn ++ pins)) S3 hg hm hv q hnn hdbg
    refine test (LM.here ?_)
    cases b with
    | true =>
      refine codeAny_handlers_suite_as ?_
      refine HandSPX.lands_againZ fl3 fun h4 fl4 up4 => ?_
      have J4 : Inv X pins σ' H' { s' with heap := h4 } := J.landed nb fl4.1 ((up.trans up3).trans up4) os ag
      obtain ⟨oe4, vs4, he4, hz4, hd4⟩ := fl4.there
      have S4 := Inv.suite0 (Inv.track J4 he4 hz4.1 hz4.2 hd4 na nL n0 npin) a
      refine store_ok (X := X.suite a (X.pn ++ pins)) (v := .ref a) S4 hN hi hloc rfl (fun s5 S5 => ?_) (.inr hln)
      refine wpAny_mono ((hsu a (X.pn ++ pins)).run [] s5 _ _ _ S5 (hyes rfl a na)) (fun f s6 hsp => ?_) (fun _ _ z => False.elim z)
      have end_ : ∀ {σ6 : St} {H6 : Hp} {Q : Shared → Prop}, Inv (X.suite a (X.pn ++ pins)) [] σ6 H6 s6 → (∀ s7, Inv X pins (σ6.set i none) H6 s7 → Q s7) →
          wpAny (model X.prog X.w) X.A (do bindName X.env n .none; unbindBehindTheSuite X.env n pos') (fun _ s7 => Q s7) X.xe s6 := fun {σ6 H6 Q} S6 hq => gone_ok (Inv.unsuite0 S6 ok) hN hi hln hq
      cases f with
      | next =>
        obtain ⟨σ6, H6, S6, q6⟩ := hsp
        exact end_ S6 fun s7 J7 => ⟨_, _, J7, q6⟩
      | brk =>
        obtain ⟨σ6, H6, S6, q6⟩ := hsp
        exact end_ S6 fun s7 J7 => ⟨_, _, J7, q6⟩
      | cont =>
        obtain ⟨σ6, H6, S6, q6⟩ := hsp
        exact end_ S6 fun s7 J7 => ⟨_, _, J7, q6⟩
      | ret u =>
        obtain ⟨v6, σ6, H6, S6, r6, q6⟩ := hsp
        exact end_ S6 fun s7 J7 => ⟨_, _, _, J7, r6, q6⟩
    | false =>
      show wpAny _ X.A (handleBy (.ref a) X.env []) _ _ _
      refine wpAny_handleBy_nil ?_
      obtain ⟨k1, k2, k3, oe, vs, T, oT, ts', he, hz, hd, h1, hr⟩ := id fl3
      unfold PySem.passOn
      refine wpAny_bind (wpAny_field he hd h1 ?_)
      rw [if_neg (show ¬ ((Value.ref T == Value.none) = true) from by simp)]
      have fin : wpAny (model X.prog X.w) X.A (setFlight (.ref a) X.env.frame) (fun _ s4 => wpAny (model X.prog X.w) X.A (throw (.ref a) : Sem Flow) (SP X pins D) X.xe s4) X.xe { s' with heap := h3 } := by
        rw [hf]
        refine HandSPX.setFlight_upZ fl3 fun h4 hh4 up4 => wpAny_throw (tk _ _ ?_)
        exact ⟨a, B, sI, pins, σ', H', cls, d, rfl, J, nb, (up.trans up3).trans up4, .inr (.inr (by rw [hs]; exact hh4)), na, os, ag, hno rfl⟩
      first
        | exact wpAny_bind (wpAny_pure (wpAny_bind fin))
        | exact wpAny_bind fin
  · cases f with
    | next =>
      obtain ⟨σ', H', J', q⟩ := hsp
      exact wpAny_execs_nil ⟨σ', H', J'.ofTry ok, q⟩
    | brk =>
      obtain ⟨σ', H', J', q⟩ := hsp
      exact ⟨σ', H', J'.ofTry ok, q⟩
    | cont =>
      obtain ⟨σ', H', J', q⟩ := hsp
      exact ⟨σ', H', J'.ofTry ok, q⟩
    | ret u =>
      obtain ⟨v, σ', H', J', r, q⟩ := hsp
      exact ⟨v, σ', H', J'.ofTry ok, r, q⟩
end
section
variable {X : Cx} {x n : Str} {c : Value} {i : Nat} {body suite : List Stmt} {b₀ : Stmt} {np pos pos' : Pos} {tb : DWish → DTS} {ts : DTS} {tab : List (Nat × Bool)}
def xTry (tab : List (Nat × Bool)) (i : Nat) (tb : DWish → DTS) (ts : DTS) (wx : DWish) : DTS := fun E env l => tb (fun env' x l' => exTab tab x fun b => match b with
  | true => setK env' i x fun env2 => ts ⟨fun e l => clrK e i fun e' => E.nx e' l, E.rt, fun e l => clrK e i fun e' => E.bk e' l, fun e l => clrK e i fun e' => E.ct e' l⟩ env2 l'
  | false => wx env' x l') E env l
theorem LS.clr {K : PySem.W.Frag} {F F1 Fr : Hp} (s : Same F F1) {Q : DSt → LH → Prop} {σ : St} {H : Hp} (q : LS K F1 Fr (fun e l => clrK e i fun e' => Q e' l) σ H) : LS K F Fr Q (σ.set i none) H := by
  obtain ⟨F2, e, l, s2, re, R, q⟩ := q
  rw [clrK_eq] at q
  exact ⟨F2, _, l, s.trans s2, re.clr i none, R, q⟩
theorem dxs_try (hs : X.stack = X.env :: X.outer) (hf : X.env.frame = some X.env.locals) (hN : X.N.Nodup) (hi : X.N[i]? = some n) (hln : X.env.kindOf n = some .local) (hc : Names X x c) (hex : X.ex = []) (T : XTab X.K (fun C b => PySem.W.exmOne X.K (.ref C) c = some b) tab)
    (hb : ∀ (pn : List (Addr × Obj)) (xe : Value → Shared → Prop), PassesOwn (model X.prog X.w) X.A X.env xe → DXSs (X.tr pn xe) body tb) (hsu : ∀ (a : Addr) (pn : List (Addr × Obj)), DSs (X.suite a pn) (b₀ :: suite) ts) :
    DXS X (.Try body [.ExceptHandler (some (.Name x np)) (some n) (b₀ :: suite) pos'] [] [] pos) (fun wx => xTry tab i tb ts wx) := by
  refine ⟨?_⟩
  intro wx F Fr env l σ H E tk he hr ht
  refine (ps_try_keep (tb := fun W D σ H => ∀ (pn : List (Addr × Obj)) (xe : Value → Shared → Prop), Takes (X.tr pn xe) W → PassesOwn (model X.prog X.w) X.A X.env xe → WSs (X.tr pn xe) body D σ H)
    (ts := fun a D σ H => ∀ pn : List (Addr × Obj), WSs (X.suite a pn) (b₀ :: suite) D σ H) hs hf hN hi hln hc hex tk
    (fun W pn xe tk hp => ⟨fun pins s σ H D I h => h pn xe tk hp pins s I⟩) (fun a pn => ⟨fun pins s σ H D I h => h pn pins s I⟩)).ws ?_
  intro pn xe tk' hp
  refine (hb pn xe hp).run _ F Fr env l σ H E (tk'.imp ?_) he hr ht
  rintro cls d σ' H' ⟨F', env', l', y, s, re, R, er, w⟩
  obtain ⟨b, C, rfl, hm, w⟩ := exTab_ok T er w
  refine ⟨b, hm, fun e a na pn => ?_, fun e => ?_⟩
  · subst e
    have w : setK env' i y _ := w
    rw [setK_eq] at w
    have nF := R.F_none na
    refine ((hsu a pn) _ Fr _ l' _ _ _ ((re.mono (same_upd nF)).set (er.rel nF) i) (R.laid na _) w).mono (fun _ _ q => ?_) (fun _ _ q => ?_) (fun _ _ q => ?_) (fun _ _ q => ?_)
    · exact LS.clr (s.trans (same_upd nF)) q
    · exact LK.weak (s.trans (same_upd nF)) q
    · exact LS.clr (s.trans (same_upd nF)) q
    · exact LS.clr (s.trans (same_upd nF)) q
  · subst e
    exact ⟨F', env', l', y, s, re, R, er, w⟩
end

/-! ### isinstance of an exception -/
def NameV (X : Cx) (y : Str) (u : Value) : Prop := ((∃ C, u = .ref C ∧ X.mg y = some (.ref C)) ∨ (∃ T, u = .type T ∧ X.mg y = none ∧ bootBuiltins y = some (.type T) ∧ y ≠ "__name__")) ∧ Gl X y ∧ (y == ("__debug__" : Str)) = false
def vOf : Value → V
  | .ref a => .ref a
  | .type n => .ty n
  | _ => .non
def NamesV (X : Cx) : List Expr → List Value → Prop
  | [], [] => True
  | .Name y _ :: es, u :: us => NameV X y u ∧ NamesV X es us
  | _, _ => False
section
variable {X : Cx}
theorem nameV_pe {y : Str} {p : Pos} {u : Value} (h : NameV X y u) : PE X (.Name y p) (fun _ H Q => Q (vOf u) H) ∧ ClsV (vOf u) u := by
  obtain ⟨h | h, hg, hd⟩ := h
  · obtain ⟨C, rfl, hm⟩ := h
    exact ⟨pe_glob (v := .ref C) hg hm rfl hd, .own C⟩
  · obtain ⟨T, rfl, hm, hv, hn⟩ := h
    exact ⟨pe_bltn (v := .ty T) hg hm hv rfl hn hd, .ty T⟩
theorem namesV_pa : ∀ {es : List Expr} {us : List Value}, NamesV X es us → PA X es (fun _ H Q => Q (us.map vOf) H) ∧ Paired ClsV (us.map vOf) us
  | [], [], _ => ⟨⟨fun pos pins s σ H Q I h => pa_nil.run pos pins s σ H Q I h⟩, .nil⟩
  | .Name y p :: es, u :: us, h => by
    obtain ⟨h1, h2⟩ := nameV_pe (p := p) h.1
    obtain ⟨h3, h4⟩ := namesV_pa h.2
    exact ⟨⟨fun pos pins s σ H Q I q => (pa_cons h1 h3 (by rfl)).run pos pins s σ H Q I q⟩, .cons h2 h4⟩
  | [], _ :: _, h => h.elim
  | .Name _ _ :: _, [], h => h.elim
/-- an exception that is tracked -/
theorem excAt {pins : List (Addr × Obj)} {σ : St} {H : Hp} {s : Shared} {p C : Addr} {dx : Option Addr} (I : Inv X pins σ H s) (e : H p = some (ExH (.ref C) dx p)) (hd : ∀ a, dx = some a → ∃ fs, H a = some (.xd fs)) : ∃ oe od, PySem.W.InstAt s.heap p oe C od := by
  obtain ⟨⟨oe, vs, h1, h2, h3, h4⟩, _⟩ := I.hok p _ e
  have hno : PySem.W.notCls oe = true := by
    obtain ⟨c, d, dt, sl⟩ := oe
    dsimp only at h4
    subst h4
    rfl
  cases dx with
  | none => exact ⟨oe, none, h1, h2, hno, by rw [h3]; trivial⟩
  | some a =>
    obtain ⟨fs, ha⟩ := hd a rfl
    obtain ⟨mA, ⟨o, es, ep, ho, _⟩, _⟩ := I.hok a _ ha
    exact ⟨oe, some o, h1, h2, hno, by rw [h3]; exact ho⟩
/-- isinstance(e, C), isinstance(e, (C, ..)) -/
def rIsX (K : PySem.W.Frag) : List V → Hp → VK → Prop := fun xs H Q => ∃ (p C : Addr) (dx : Option Addr) (b : Bool), H p = some (ExH (.ref C) dx p) ∧ (∀ a, dx = some a → ∃ fs, H a = some (.xd fs)) ∧ XIs K C ∧ Q (.bl b) H ∧
  ((∃ u, xs = [.ref p, vOf u] ∧ ClsV (vOf u) u ∧ PySem.W.kitOne K (.ref C) u = some b) ∨ ∃ tp us, xs = [.ref p, .ref tp] ∧ H tp = some (.tup (us.map vOf)) ∧ Paired ClsV (us.map vOf) us ∧ PySem.W.kitAny K (.ref C) us = some b)
theorem call_isX : CallR X (.builtin "isinstance") (rIsX X.K) := by
  intro pins s σ H xs us Q I r h
  obtain ⟨p, C, dx, b, hp, hdx, T, q, h | h⟩ := h
  · obtain ⟨u, rfl, k, e⟩ := h
    obtain ⟨u1, u2, rfl, r1, r2⟩ := vals2 r
    cases (show u1 = Value.ref p from r1)
    have e2 := k.eq r2
    subst e2
    obtain ⟨oe, od, A⟩ := excAt I hp hdx
    exact PySem.W.kia_one (PySem.W.kitx_exc T.cl T.ga T.gt T.sub T.ha T.hn T.htk T.hm) I.kIn A e (fun z => nomatch z) fun tk => ⟨.bl b, H, I.tok tk, rfl, q⟩
  · obtain ⟨tp, ws, rfl, hT, k, e⟩ := h
    obtain ⟨u1, u2, rfl, r1, r2⟩ := vals2 r
    cases (show u1 = Value.ref p from r1)
    cases (show u2 = Value.ref tp from r2)
    obtain ⟨oe, od, A⟩ := excAt I hp hdx
    obtain ⟨_, its, rv, o, h1, h2, n, h3⟩ := (show ObjOk X.prog X.w H s.heap tp (.tup (ws.map vOf)) from I.hok tp _ hT)
    have e3 := ClsV.all k rv
    subst e3
    obtain ⟨oc, od', dt, sl⟩ := o
    simp only at h2 h3
    subst h2 h3
    exact PySem.W.kia_tup (PySem.W.kitx_exc T.cl T.ga T.gt T.sub T.ha T.hn T.htk T.hm) I.kIn A h1 e (fun z => nomatch z) fun tk => ⟨.bl b, H, I.tok tk, rfl, q⟩
def dIsX (tab : List (Nat × Bool)) (te : DTE) : DTE := fun env l Q => te env l fun x l1 => exTab tab x fun b => Q (.bl b) l1
theorem exRel_of {K : PySem.W.Frag} {F : Hp} {x : D} {v : V} {tab : List (Nat × Bool)} {Q : Bool → Prop} (r : RelD K F x v) (q : exTab tab x Q) : ∃ p C dx, v = .ref p ∧ F p = some (ExH (.ref C) dx p) ∧ (∀ a, dx = some a → ∃ fs, F a = some (.xd fs)) ∧ ExRel K F x (.ref C) dx := by
  cases r with
  | exc h1 h2 => exact ⟨_, _, none, rfl, h2, (fun a z => nomatch z), _, h1, rfl, rfl⟩
  | exc1 h1 h2 h3 h4 => exact ⟨_, _, some _, rfl, h2, (fun a z => by cases z; exact ⟨_, h3⟩), _, _, _, h1, rfl, rfl, h3, h4⟩
  | _ => exact q.elim
variable {e : Expr} {te : DTE} {tab : List (Nat × Bool)} {y : Str} {p p2 p3 pos : Pos} {es : List Expr} {us : List Value} {u : Value}
theorem de_isX1 (hg : Gl X "isinstance") (hm : X.mg "isinstance" = none) (hv : bootBuiltins "isinstance" = some (.builtin "isinstance")) (hy : NameV X y u) (T : XTab X.K (fun C b => XIs X.K C ∧ PySem.W.kitOne X.K (.ref C) u = some b) tab) (h : DE X e te)
    (he : starEach (e :: [.Name y p2]) X.env = (false, eval e X.env) :: starEach [.Name y p2] X.env := by rfl) : DE X (.Call (.Name "isinstance" p) [e, .Name y p2] [] pos) (dIsX tab te) := by
  refine ⟨?_⟩
  intro F Fr env l σ H Q hE hR ht
  obtain ⟨hp, hk⟩ := nameV_pe (p := p2) hy
  refine (pe_callB call_isX hg hm hv (pa_cons peW (pa_cons hp pa_nil) he) (by decide) (by decide) he).we ?_
  refine (h F Fr env l σ H _ hE hR ht).mono fun x H1 ⟨F1, d, l1, s1, r1, R1, q1⟩ => ?_
  obtain ⟨q, C, dx, rfl, h1, h2, er⟩ := exRel_of r1 q1
  obtain ⟨b, C', hC, ⟨T1, T2⟩, q2⟩ := exTab_ok T er q1
  cases hC
  exact ⟨q, C, dx, b, R1.fz _ _ h1, fun a z => let ⟨fs, z⟩ := h2 a z; ⟨fs, R1.fz _ _ z⟩, T1, ⟨F1, _, l1, s1, .bl b, R1, q2⟩, .inl ⟨u, rfl, hk, T2⟩⟩
theorem de_isXT {c : Nat} (hg : Gl X "isinstance") (hm : X.mg "isinstance" = none) (hv : bootBuiltins "isinstance" = some (.builtin "isinstance")) (hy : NamesV X es us) (hl : us.length < 1000) (T : XTab X.K (fun C b => XIs X.K C ∧ PySem.W.kitAny X.K (.ref C) us = some b) tab) (h : DE X e te)
    (he : starEach (e :: [.Tuple es c p2]) X.env = (false, eval e X.env) :: starEach [.Tuple es c p2] X.env := by rfl) : DE X (.Call (.Name "isinstance" p) [e, .Tuple es c p2] [] pos) (dIsX tab te) := by
  refine ⟨?_⟩
  intro F Fr env l σ H Q hE hR ht
  obtain ⟨hp, hk⟩ := namesV_pa hy
  refine (pe_callB call_isX hg hm hv (pa_cons peW (pa_cons (pe_tup hp) pa_nil) he) (by decide) (by decide) he).we ?_
  refine (h F Fr env l σ H _ hE hR ht).mono fun x H1 ⟨F1, d, l1, s1, r1, R1, q1⟩ => ?_
  obtain ⟨q, C, dx, rfl, h1, h2, er⟩ := exRel_of r1 q1
  obtain ⟨b, C', hC, ⟨T1, T2⟩, q2⟩ := exTab_ok T er q1
  cases hC
  refine ⟨by rw [List.length_map]; exact Nat.le_of_lt (Nat.lt_of_lt_of_le hl (by decide)), fun tp np => ?_⟩
  have R2 := R1.laid np (.tup (us.map vOf))
  have nF := R1.F_none np
  exact ⟨q, C, dx, b, R2.fz _ _ (same_upd nF _ _ h1), fun a z => let ⟨fs, z⟩ := h2 a z; ⟨fs, R2.fz _ _ (same_upd nF _ _ z)⟩, T1, ⟨_, _, l1, s1.trans (same_upd nF), .bl b, R2, q2⟩, .inr ⟨tp, us, rfl, upd_same, hk, T2⟩⟩
end
/-! ### a list that may be written, frozen and remembered -/
end DL

namespace DL
open PySem PySem.Spec PyProof.Rows L2
theorem cls_of_mro {K : PySem.W.Frag} {C : Addr} {v : Value} {b : Bool} (h : PySem.W.mroIn K C v = some b) : (PySem.W.clsIn K C).isSome = true := by
  unfold PySem.W.mroIn at h
  cases q : PySem.W.clsIn K C with
  | none => rw [q] at h; cases h
  | some cd => rfl
/-! ### str of a list of lists that may be written, as they stand -/
section
variable {X : Cx} {k : Nat} {e : Expr} {te : DTE} {p pos : Pos}
end
end DL

/-! what may be written is borrowed by an expression that tells a tuple of simple things -/
namespace DL
open PySem PySem.Spec PyProof.Rows L2
theorem dok_notup {K : PySem.W.Frag} {F H : Hp} {b : Addr} {o : DO} {vs : List V} (f : isFz o = false) (h : DOk K F H b o) (e : H b = some (.tup vs)) : False := by
  cases o with
  | lst ds => obtain ⟨vs, _, z⟩ := h; rw [e] at z; cases z
  | dT ks ds => obtain ⟨vs, _, _, z⟩ := h; rw [e] at z; cases z
  | dK ks ds => obtain ⟨vs, _, _, z⟩ := h; rw [e] at z; cases z
  | ins c ds => obtain ⟨C, dx, vs, _, _, _, z⟩ := h; rw [e] at z; cases z
  | dN o ks ds => obtain ⟨as, vs, _, _, _, z⟩ := h; rw [e] at z; cases z
  | fz d => cases f
section
variable {X : Cx} {e : Expr} {te : DTE}
end
/-! the same, but some objects may be read within -/
def stL (l : LH) (S : Addr → Bool) : LH := fun b => cond (S b) (l b) none
theorem stL_in {l : LH} {S : Addr → Bool} {b : Addr} (h : S b = true) : stL l S b = l b := by unfold stL; rw [h]; rfl
theorem stL_out {l : LH} {S : Addr → Bool} {b : Addr} (h : S b = false) : stL l S b = none := by unfold stL; rw [h]; rfl
def nref (vs : List V) : Bool := vs.all fun v => match v with | .ref _ => false | _ => true
structure BorS (F : Hp) (l : LH) (S : Addr → Bool) (H F1 : Hp) : Prop where
  up : Same F F1
  of : ∀ b o, F1 b = some o → F b = some o ∨ (l b ≠ none ∧ S b = false ∧ H b = some o ∧ ∃ vs, o = .lst vs ∧ nref vs = true)
theorem BorS.refl {F : Hp} {l : LH} {S : Addr → Bool} {H : Hp} : BorS F l S H F := ⟨Same.refl F, fun _ _ e => .inl e⟩
/-- F2 without what was borrowed -/
def subH (F F1 F2 : Hp) : Hp := fun b => match F b, F1 b with
  | none, some _ => none
  | _, _ => F2 b
section
variable {K : PySem.W.Frag} {F Fr H F1 F2 : Hp} {l : LH} {S : Addr → Bool}
theorem BorS.keep (B : BorS F l S H F1) (s : Same F1 F2) {p : Addr} {o : HO} (h : F2 p = some o) (hn : ∀ vs, o = .lst vs → nref vs = true → False) : subH F F1 F2 p = some o := by
  unfold subH
  cases e : F p with
  | some u => exact h
  | none =>
    cases e1 : F1 p with
    | none => exact h
    | some u =>
      have e2 := s _ _ e1
      rw [h] at e2
      cases e2
      rcases B.of p _ e1 with z | ⟨_, _, _, vs, z, n⟩
      · rw [e] at z; cases z
      · exact (hn vs z n).elim
open Classical in
noncomputable def frS (S : Addr → Bool) (Fr H F1 : Hp) (l : LH) : Hp := fun b => if l b ≠ none ∧ S b = false ∧ F1 b = none then H b else Fr b
theorem BorS.rep (R : Rep K F Fr l H) (B : BorS F l S H F1) : Rep K F1 (frS S Fr H F1 l) (stL l S) H where
  fz := fun b o e => by
    rcases B.of b o e with q | ⟨_, _, q, _⟩
    · exact R.fz b o q
    · exact q
  fr := fun b o e => by
    unfold frS at e
    split at e
    · exact e
    · exact R.fr b o e
  fd := fun b o e => by
    unfold frS at e
    split at e
    · rename_i h; exact ⟨h.2.2, stL_out h.2.1⟩
    · obtain ⟨h1, h2⟩ := R.fd b o e
      refine ⟨?_, ?_⟩
      · cases q : F1 b with
        | none => rfl
        | some u =>
          rcases B.of b u q with z | ⟨z, _⟩
          · rw [h1] at z; cases z
          · exact absurd h2 z
      · unfold stL
        rw [h2]
        cases S b <;> rfl
  lv := fun b o e => by
    cases hS : S b with
    | false => rw [stL_out hS] at e; cases e
    | true =>
      rw [stL_in hS] at e
      obtain ⟨h1, h2⟩ := R.lv b o e
      refine ⟨fun f => ?_, h2.mono B.up rfl⟩
      cases q : F1 b with
      | none => rfl
      | some u =>
        rcases B.of b u q with z | ⟨_, z, _⟩
        · rw [h1 f] at z; cases z
        · rw [hS] at z; cases z
  ft := fun b vs e => by
    unfold frS at e
    split at e
    · rename_i h
      cases q : l b with
      | none => exact h.1 q
      | some x =>
        obtain ⟨h1, h2⟩ := R.lv b x q
        cases hx : isFz x with
        | false => exact dok_notup hx h2 e
        | true =>
          cases x with
          | fz d =>
            obtain ⟨_, u, z⟩ := h2
            rw [B.up _ _ z] at h
            exact nomatch h.2.2
          | _ => cases hx
    · exact R.ft b vs e
end
section
variable {X : Cx} {e : Expr} {te : DTE} {tt : DTT}
end
end DL

/-! tuples that are known to have no dict of their own, and their count -/
namespace L2
open PySem PySem.Spec PyProof.Rows
section
variable {X : Cx}
def tyK (x : V) (H : Hp) : Prop := ∃ p od xs, x = .ref p ∧ H p = some (.frz od (.tup xs)) ∧ od.cls = .type "tuple" ∧ od.dict = none
variable {o e : Expr} {es : List Expr} {to : TE} {t : TA} {name : Str} {apos cpos : Pos} {id : String} {r : V → List V → Hp → VK → Prop}
end
end L2
namespace DL
open PySem PySem.Spec PyProof.Rows L2
section
variable {X : Cx}
variable {o e : Expr} {to te : DTE} {apos cpos pos p p2 q : Pos}
end
end DL

/-! isinstance(x, own classes) where x may be an exception or an own object that may be written -/
namespace DL
open PySem PySem.Spec PyProof.Rows L2
section
variable {X : Cx}
variable {e : Expr} {te : DTE} {tab : List (Nat × Bool)} {y : Str} {p p2 p3 pos : Pos} {es : List Expr} {us : List Value} {u : Value} {cn : Str} {b0 : Bool} {C0 : Addr}
end
end DL

/-! dict displays: plain keys; one key that is a tuple -/
namespace L2
open PySem PySem.Spec PyProof.Rows
section
variable {X : Cx} {pos : Pos}
end
end L2
namespace DL
open PySem PySem.Spec PyProof.Rows L2
abbrev DTP := DSt → LH → (List D → List D → LH → Prop) → Prop
def pNil : DTP := fun _ l Q => Q [] [] l
def pCons (tk tv : DTE) (r : DTP) : DTP := fun env l Q => tk env l fun k l1 => tv env l1 fun v l2 => r env l2 fun ks vs l3 => Q (k :: ks) (v :: vs) l3
def weP (X : Cx) : List (Option Expr) → List Expr → List (TE × TE)
  | some k :: ks, v :: vs => (WE X k, WE X v) :: weP X ks vs
  | _, _ => []
def LP (K : PySem.W.Frag) (F Fr : Hp) (Q : List D → List D → LH → Prop) : List (V × V) → Hp → Prop := fun ps H => ∃ F' ks ds l, Same F F' ∧ RelDs K F' ks (ps.map (·.1)) ∧ RelDs K F' ds (ps.map (·.2)) ∧ Rep K F' Fr l H ∧ Q ks ds l
structure DPs (X : Cx) (pos : Pos) (keys : List (Option Expr)) (values : List Expr) (t : DTP) : Prop where
  pps : PPs X pos keys values (weP X keys values)
  run : ∀ F Fr env l σ H Q, RepE X.K F env σ → Rep X.K F Fr l H → t env l Q → ∀ Q' : List (V × V) → Hp → Prop, (∀ ps H', LP X.K F Fr Q ps H' → Q' ps H') → tPairs (weP X keys values) σ H Q'
section
variable {X : Cx} {pos : Pos} {keys : List (Option Expr)} {values : List Expr} {t : DTP} {kx vx : Expr} {tk tv : DTE}
theorem dps_nil : DPs X pos [] [] pNil := ⟨pps_nil, fun F Fr env l σ H Q hE hR ht Q' hq => hq [] H ⟨F, [], [], l, Same.refl F, .nil, .nil, hR, ht⟩⟩
theorem dps_cons (hk : DE X kx tk) (hv : DE X vx tv) (hr : DPs X pos keys values t) : DPs X pos (some kx :: keys) (vx :: values) (pCons tk tv t) := by
  refine ⟨pps_cons peW peW hr.pps, fun F Fr env l σ H Q hE hR ht Q' hq => ?_⟩
  refine (hk F Fr env l σ H _ hE hR ht).mono fun x H1 ⟨F1, d, l1, s1, r1, R1, q1⟩ => ?_
  refine (hv F1 Fr env l1 σ H1 _ (hE.mono s1) R1 q1).mono fun y H2 ⟨F2, e, l2, s2, r2, R2, q2⟩ => ?_
  refine hr.run F2 Fr env l2 σ H2 _ ((hE.mono s1).mono s2) R2 q2 _ fun ps H3 ⟨F3, ks, ds, l3, s3, r3, r4, R3, q3⟩ => ?_
  exact hq _ _ ⟨F3, d :: ks, e :: ds, l3, (s1.trans s2).trans s3, .cons ((r1.mono s2).mono s3) r3, .cons (r2.mono s3) r4, R3, q3⟩
theorem mergeK_new : ∀ (more acc : List (Key × V)), (acc.map (·.1) ++ more.map (·.1)).Nodup → mergeK acc more = acc ++ more
  | [], acc, _ => (List.append_nil _).symm
  | p :: r, acc, h => by
    have np : p.1 ∉ acc.map (·.1) := fun z => by
      rw [List.map_cons] at h
      exact (List.nodup_append.mp h).2.2 _ z _ List.mem_cons_self rfl
    have e : putK acc p.1 p.2 = acc ++ [p] := by
      unfold putK
      rw [if_neg]
      rw [List.any_eq_true]
      rintro ⟨q, hq, z⟩
      exact np (by rw [← of_decide_eq_true z]; exact List.mem_map.mpr ⟨q, hq, rfl⟩)
    show mergeK (putK acc p.1 p.2) r = _
    rw [e, mergeK_new r (acc ++ [p]) (by rw [List.map_append, List.append_assoc]; exact h), List.append_assoc]
    rfl
def dDispK (t : DTP) : DTE := fun env l Q => t env l fun ks vs l1 => ∃ qs, keysD ks = some qs ∧ qs.Nodup ∧ qs.length ≤ 15 ∧ newL (.dK qs vs) l1 Q
theorem pairs_zip : ∀ {qs : List Key} {ps : List (V × V)}, ps.map (·.1) = qs.map kV → ps = (qs.zip (ps.map (·.2))).map fun kv => (kV kv.1, kv.2)
  | [], [], _ => rfl
  | [], p :: ps, h => by cases h
  | q :: qs, [], h => by cases h
  | q :: qs, p :: ps, h => by
    rw [List.map_cons, List.map_cons] at h
    injection h with h1 h2
    rw [List.map_cons, List.zip_cons_cons, List.map_cons, ← pairs_zip h2]
    show p :: ps = (kV q, p.2) :: ps
    rw [← h1]
theorem de_dispK (h : DPs X pos keys values t) (hall : keys.all (·.isSome) = true) (hl : keys.length = values.length) (h0 : keys ≠ []) (h15 : keys.length ≤ 15) : DE X (.Dict keys values pos) (dDispK t) := by
  refine ⟨?_⟩
  intro F Fr env l σ H Q hE hR ht
  refine (pe_disp h.pps hall hl h0 h15).we fun p np => ?_
  have nFr := hR.Fr_none np
  refine h.run F (upd Fr p (.dK [])) env l σ _ _ hE (hR.take np (.dK [])) ht _ fun ps H2 ⟨F2, ks, ds, l2, s2, rk, rd, R2, qs, hq, nd, l15, q2⟩ => ?_
  have ek := keysD_rel rk hq
  have ep := pairs_zip ek
  have lq : qs.length = (ps.map (·.2)).length := by
    have := congrArg List.length ek
    rw [List.length_map, List.length_map] at this
    rw [List.length_map]; exact this.symm
  refine ⟨R2.fr _ _ upd_same, qs.zip (ps.map (·.2)), ep, by rw [List.length_zip]; omega, ?_⟩
  have em : mergeK [] (qs.zip (ps.map (·.2))) = qs.zip (ps.map (·.2)) := by
    rw [mergeK_new _ [] (by rw [List.map_nil, List.nil_append, List.map_fst_zip (by omega)]; exact nd), List.nil_append]
  have em' : List.foldl (fun acc kv => putK acc kv.1 kv.2) [] (qs.zip (ps.map (·.2))) = qs.zip (ps.map (·.2)) := em
  first
  | rw [em]
  | rw [em']
  have R3 := (R2.turn (.dK (qs.zip (ps.map (·.2))))).giveL nFr (d := .dK qs ds) ⟨_, rd, lq, upd_same⟩
  exact ⟨F2, .ref p, _, s2, .ref p, R3, q2 p (R2.fd _ _ upd_same).2⟩
end
end DL
/-! a dict's place as a target among others -/
namespace L2
open PySem PySem.Spec PyProof.Rows
end L2
namespace DL
open PySem PySem.Spec PyProof.Rows L2
end DL
/-! t[::-1] of a tuple -/
namespace HT
open PySem PySem.Spec PyProof.Rows
section
variable {prog : Program} {w : World} {A : Around} {E : Value → Shared → Prop} {s : Shared}
end
end HT
namespace L2
open PySem PySem.Spec PyProof.Rows
section
variable {X : Cx}
end
end L2
namespace DL
open PySem PySem.Spec PyProof.Rows L2
end DL
/-! try .. except X: .. else: .., the exception without a name -/
namespace DL
open PySem PySem.Spec PyProof.Rows L2
section
variable {X : Cx} {x : Str} {c : Value} {body suite orelse : List Stmt} {b₀ : Stmt} {np pos pos' : Pos}
end
end DL

/-! x = f if c else g; return x(..): a local name that holds one of two defs, called at once -/
namespace DL
open PySem PySem.Spec PyProof.Rows L2
section
variable {X : Cx} {k1 k2 i : Nat} {f1 f2 : Addr} {fd1 fd2 : FuncData} {ps1 ps2 : List Str} {sp1 sp2 : DSp} {x n1 n2 : Str} {e c : Expr} {es : List Expr} {t : DTA} {tt : DTT} {p px p1 p2 pi pos pos1 pos2 : Pos}
end
end DL

/-! sorted of a list or tuple of data that are alike -/
namespace SrtD
open PySem PySem.Calls PyProof.Rows Srt PySem.W
section
variable {prog : Program} {w : World} {A : Around} {E : Value → Shared → Prop} {s : Shared}
variable {β : Type} {vs : List Value} {bs : List β} {enc : β → PyData} {R : Value → β → Prop}
end
end SrtD
namespace DL
open PySem PySem.Spec PyProof.Rows L2
section
variable {K : PySem.W.Frag} {F : Hp}
end
end DL

/-! dicts whose keys are tuples of any depth: {}, d[k], d[k] = v (a new key), for k in d, for k, v in d.items() -/
namespace DL
open PySem PySem.Spec PyProof.Rows L2
section
variable {X : Cx} {pins : List (Addr × Obj)} {σ : St} {H F : Hp} {s : Shared}
end
/-! ### d[k] -/
section
variable {X : Cx} {a b e o : Expr} {ta tb te to : DTE} {pos p apos cpos : Pos} {k : Nat}
/-! ### {} -/
/-! ### d[k] = v, a new key -/
end
/-! ### for k in d; for k, v in d.items() -/
section
variable {X : Cx} {e : Expr} {te : DTE} {apos cpos tpos pos p : Pos} {elts : List Expr} {kk : Nat}
end
end DL

/-! dict(pairs) with keys of any depth, d.get(k, x) of such, sorted(d.items()) of numbers by numbers -/
namespace DL
open PySem PySem.Spec PyProof.Rows L2
section
variable {X : Cx} {pins : List (Addr × Obj)} {σ : St} {H F : Hp} {s : Shared}
end
section
variable {X : Cx} {a b e o : Expr} {ta tb te to tx : DTE} {pos p apos cpos : Pos} {k : Nat}
end
/-! ### sorted(d.items()) -/
section
variable {X : Cx} {pins : List (Addr × Obj)} {σ : St} {H0 : Hp} {s : Shared} {l : LH} {Fr : Hp}
end
section
variable {X : Cx} {e : Expr} {te : DTE} {pos p apos cpos : Pos} {k : Nat}
end
end DL

/-! len(set(xs)) of a few tuples of any depth whose hashes differ -/
namespace DL
open PySem PySem.Spec PyProof.Rows L2
/-! ### keys without texts are hashed by value -/
section
variable {P : Program} {w : World}
/-! ### a set whose entries have different hashes -/
structure SetH (h : Heap) (a : Addr) (es : Array (Int × Value)) (ep : Nat) (t : SetTable) : Prop where
  ob : ∃ o, h.get? a = some o ∧ o.ExactSet ∧ o.data = .set es ep t
  tab : TabOk t (es.toList.map (·.1))
  plain : t.plain = true
  room : es.size * 5 < t.mask * 3
variable {A : Around} {E : Value → Shared → Prop} {s : Shared} {a : Addr} {es : Array (Int × Value)} {ep : Nat} {t : SetTable}
theorem SetH.psz {h : Heap} (R : SetH h a es ep t) : t.place.size = es.size := by
  have h1 := R.tab.sz
  rw [List.length_map, Array.length_toList] at h1
  exact h1
theorem SetH.fits {h : Heap} (R : SetH h a es ep t) : t.fits es.size = true := by
  have h2 := R.psz
  have h3 := R.room
  unfold SetTable.fits SetTable.fill
  rw [R.tab.dm, Bool.and_eq_true, beq_iff_eq, decide_eq_true_eq]
  show t.place.size = es.size ∧ t.place.size + 0 ≤ t.mask
  omega
theorem SetH.keep {h h' : Heap} (R : SetH h a es ep t) (ha : ∀ o, h.get? a = some o → h'.get? a = some o) : SetH h' a es ep t := by
  obtain ⟨o, ho, r⟩ := R.ob
  exact ⟨⟨o, ha o ho, r⟩, R.tab, R.plain, R.room⟩
theorem set_fresh {h : Heap} {b : Bool} (ho : h.get? a = some { cls := .type "set", dict := none, data := .set #[] 0 (.fresh 0 0 b) }) : SetH h a #[] 0 (.fresh 0 0 b) where
  ob := ⟨_, ho, ⟨rfl, rfl, rfl⟩, rfl⟩
  tab := ⟨List.Pairwise.nil, rfl, rfl, .inl rfl, fun x hx => (by cases hx), fun i h j hi => (by simp at hi)⟩
  plain := rfl
  room := by
    show 0 * 5 < 7 * 3
    decide
end
/-! ### hashes of data -/
section
variable {X : Cx} {pins : List (Addr × Obj)} {σ : St} {H F : Hp} {s : Shared}
end
section
variable {X : Cx} {e : Expr} {te : DTE} {pos p p2 q : Pos} {k : Nat}
end
end DL

/-! texts: slices, signs one by one, join, the place of a sign, whole numbers of texts, texts of the module, a field by += -/
namespace DL
open PySem PySem.Spec PyProof.Rows L2
section
variable {X : Cx} {e e2 o tg value : Expr} {te to tv : DTE} {pos p apos cpos : Pos} {lo hi : Option Expr} {tl tu : DTO} {p2 : Pos} {x : Str} {k : Nat}
def kSlS (x : D) (lo hi : Option Int) (l : LH) (Q : DK) : Prop := match x with
  | .str z => z.length ≤ sizeLine ∧ Q (.str (cutS z lo hi)) l
  | _ => False
def dSlS (te : DTE) (tl tu : DTO) : DTE := fun env l Q => te env l fun x l1 => tl env l1 fun lo l2 => tu env l2 fun hi l3 => kSlS x lo hi l3 Q
theorem de_slS (he : DE X e te) (hl : DP X lo tl) (hu : DP X hi tu) : DE X (.Subscript e (.Slice lo hi none p2) pos) (dSlS te tl tu) := by
  refine ⟨?_⟩
  intro F Fr env l σ H Q hE hR ht
  refine (pe_slice sl_str peW poW poW).we ?_
  refine (he F Fr env l σ H _ hE hR ht).mono fun x H1 ⟨F1, d, l1, s1, r1, R1, q1⟩ => ?_
  refine (hl F1 Fr env l1 σ H1 _ (hE.mono s1) R1 q1).mono fun i H2 ⟨F2, l2, s2, R2, q2⟩ => ?_
  refine (hu F2 Fr env l2 σ H2 _ ((hE.mono s1).mono s2) R2 q2).mono fun j H3 ⟨F3, l3, s3, R3, q3⟩ => ?_
  have r3 := r1.mono (s2.trans s3)
  have S := s1.trans (s2.trans s3)
  cases r3 with
  | str z => exact ⟨z, rfl, q3.1, (LK.mk (.str _) R3 q3.2).weak S⟩
  | _ => exact q3.elim
/-- sign by sign -/
def signsD (z : Str) : List D := z.cps.toList.map fun c => D.str ⟨#[c]⟩
theorem jok_str {K : PySem.W.Frag} {F : Hp} (z : Str) : JOk K F (Its z) (signsD z) := by
  intro i F' Fr l H s R
  refine ⟨fun hi => ?_, fun d hd => ?_⟩
  · show z.cps.size ≤ i
    unfold signsD at hi
    rw [List.length_map, Array.length_toList] at hi
    exact hi
  · unfold signsD at hd
    rw [List.getElem?_map] at hd
    cases e0 : z.cps.toList[i]? with
    | none => rw [e0] at hd; cases hd
    | some c =>
      rw [e0] at hd
      cases hd
      rw [Array.getElem?_toList] at e0
      refine ⟨(Array.getElem?_eq_some_iff.mp e0).1, fun x H' y => ?_⟩
      obtain ⟨e, c', hc, rfl⟩ := y
      subst e
      rw [e0] at hc
      cases hc
      exact ⟨F', Same.refl _, .str _, R⟩
def iStrD (te : DTE) : DTI := fun env l R => te env l fun d l1 => match d with
  | .str z => R (signsD z) l1
  | _ => False
theorem di_str (h : DE X e te) : DI X tg e (iStrD te) := by
  refine ⟨?_⟩
  intro F Fr env l σ H R he hr ht
  refine (pi_str peW).wi ?_
  refine (h F Fr env l σ H _ he hr ht).mono fun v H1 ⟨F1, d, l1, s1, r1, R1, q1⟩ => ?_
  cases r1 with
  | str z => exact ⟨z, rfl, F1, l1, _, s1, R1, jok_str z, q1⟩
  | _ => exact q1.elim
/-- texts joined -/
def txts : List D → Option (List Str)
  | [] => some []
  | .str z :: ds => (txts ds).map (z :: ·)
  | _ :: _ => none
theorem txts_map : ∀ ys : List Str, txts (ys.map D.str) = some ys
  | [] => rfl
  | y :: ys => by rw [List.map_cons, txts, txts_map ys]; rfl
theorem txts_rel {K : PySem.W.Frag} {F : Hp} : ∀ {ds : List D} {vs : List V} {ys : List Str}, RelDs K F ds vs → txts ds = some ys → vs = ys.map V.str
  | [], _, ys, .nil, h => by cases h; rfl
  | d :: ds, _, ys, .cons rd rr, h => by
    cases d with
    | str z =>
      rw [txts] at h
      cases e : txts ds with
      | none => rw [e] at h; cases h
      | some zs =>
        rw [e] at h
        cases h
        cases rd
        rw [txts_rel rr e]
        rfl
    | _ => cases h
def okJoin (a : Str) (ds : List D) (Q : Str → Prop) : Prop := ∃ ys, txts ds = some ys ∧ (ys.map fun x => x.length).sum + ys.length * a.length ≤ 16777216 ∧ Q (Txt.join a ys)
def dJoin (to te : DTE) : DTE := fun env l Q => to env l fun x l1 => match x with
  | .str a => te env l1 fun y l2 => match y with
    | .lst ds => okJoin a ds fun z => Q (.str z) l2
    | .tup ds => okJoin a ds fun z => Q (.str z) l2
    | .ref b => getO l2 b fun o => match o with
      | .lst ds => okJoin a ds fun z => Q (.str z) l2
      | _ => False
    | _ => False
  | _ => False
theorem de_join (ho : DE X o to) (h : DE X e te) (hs : starEach [e] X.env = [(false, eval e X.env)] := by rfl) (hb : attributeBase o "join" X.env (eval o X.env) = eval o X.env := by rfl) (hl : (apos.endLine == pos.line) = true := by rfl) :
    DE X (.Call (.Attribute o "join" apos) [e] [] pos) (dJoin to te) := by
  refine ⟨?_⟩
  intro F Fr env l σ H Q hE hR ht
  refine (pe_join peW peW hs hb hl).we ?_
  refine (ho F Fr env l σ H _ hE hR ht).mono fun x H1 ⟨F1, d, l1, s1, r1, R1, q1⟩ => ?_
  cases r1 with
  | str a =>
    refine ⟨⟨a, rfl⟩, ?_⟩
    refine (h F1 Fr env l1 σ H1 _ (hE.mono s1) R1 q1).mono fun y H2 ⟨F2, d2, l2, s2, r2, R2, q2⟩ => ?_
    have S := s1.trans s2
    cases r2 with
    | @lst q vs ds h1 rr =>
      obtain ⟨ys, hy, hz, q2⟩ := q2
      rw [txts_rel rr hy] at h1
      exact ⟨a, q, ys, rfl, rfl, .inl (.inl (.inl (R2.fz _ _ h1))), hz, (LK.mk (.str _) R2 q2).weak S⟩
    | @tup q vs ds h1 rr =>
      obtain ⟨ys, hy, hz, q2⟩ := q2
      rw [txts_rel rr hy] at h1
      exact ⟨a, q, ys, rfl, rfl, .inr (tq (R2.fz _ _ h1)), hz, (LK.mk (.str _) R2 q2).weak S⟩
    | ref b =>
      obtain ⟨o', ho', q2⟩ := q2
      cases o' with
      | lst ds =>
        obtain ⟨vs, rr, h1⟩ := (R2.lv _ _ ho').2
        obtain ⟨ys, hy, hz, q2⟩ := q2
        rw [txts_rel rr hy] at h1
        exact ⟨a, b, ys, rfl, rfl, .inl (.inl (.inl h1)), hz, (LK.mk (.str _) R2 q2).weak S⟩
      | _ => exact q2.elim
    | _ => exact q2.elim
  | _ => exact q1.elim
/-- the place of a text in a text, where it stands there -/
def dIdxS (to te : DTE) : DTE := fun env l Q => to env l fun x l1 => match x with
  | .str a => te env l1 fun y l2 => match y with
    | .str b => ∃ k : Nat, Txt.index0 a b = some k ∧ Q (.int (k : Nat)) l2
    | _ => False
  | _ => False
theorem de_idxS (hc : X.calm = true) (ho : DE X o to) (h : DE X e te)
    (hbase : attributeBase o "index" X.env (eval o X.env) = eval o X.env := by rfl)
    (hfew : ((backTo cpos (starEach [e] X.env)).all (fun x => !x.1) && (backToKw cpos (keywordEach [] X.env)).all (fun x => x.1.isSome)
      && decide (([e] : List Expr).length + ([] : List Keyword).length + (if ([] : List Keyword).isEmpty then 0 else 1) < 30)) = true := by rfl)
    (hline : (apos.endLine == cpos.line) = true := by rfl) (hs : starEach [e] X.env = (false, eval e X.env) :: starEach [] X.env := by rfl) (hplain : (backTo cpos (starEach [] X.env)).any (·.1) = false := by rfl) :
    DE X (.Call (.Attribute o "index" apos) [e] [] cpos) (dIdxS to te) := by
  refine ⟨?_⟩
  intro F Fr env l σ H Q hE hR ht
  have tk : Takes X (fun _ _ _ _ => False) := fun u s' ⟨_, _, _, _, _, _, _, _, _, _, _, _, _, _, _, _, z⟩ => z.elim
  refine (pe_bmS PySem.F.plainAttrs_str PySem.F.slot_str_index PySem.F.type_str_index (mt_indexX hc tk) peW paW hbase hfew hline hs hplain).we ?_
  refine (ho F Fr env l σ H _ hE hR ht).mono fun x H1 ⟨F1, d, l1, s1, r1, R1, q1⟩ => ?_
  cases r1 with
  | str a =>
    refine ⟨rfl, ?_⟩
    let P : D → LH → Prop := fun y l2 => ∃ b, y = .str b ∧ ∃ k : Nat, Txt.index0 a b = some k ∧ Q (.int (k : Nat)) l2
    refine (da_cons h da_nil hs F1 Fr env l1 σ H1 (fun ys l2 => ∃ y, ys = [y] ∧ P y l2) (hE.mono s1) R1 ?_).mono fun vs H2 ⟨F2, ys, l2, s2, r2, R2, y, e2, b, eb, j, hj, q3⟩ => ?_
    · have e : (fun (y : D) (l2 : LH) => ∃ z, [y] = [z] ∧ P z l2) = fun y l2 => match y with | .str b => ∃ k : Nat, Txt.index0 a b = some k ∧ Q (.int (k : Nat)) l2 | _ => False := by
        funext y l2
        refine propext ⟨fun ⟨z, e, b, eb, h⟩ => by cases e; cases eb; exact h, fun h => ?_⟩
        cases y with
        | str b => exact ⟨_, rfl, b, rfl, h⟩
        | _ => exact h.elim
      show te env l1 fun y l2 => ∃ z, [y] = [z] ∧ P z l2
      rw [e]
      exact q1
    · subst e2
      subst eb
      cases r2 with
      | cons ra rr =>
        cases rr
        cases ra
        exact ⟨a, b, rfl, rfl, fun k hk => by rw [hj] at hk; cases hk; exact (LK.mk (.int _) R2 q3).weak (s1.trans s2), fun z => by rw [hj] at z; cases z⟩
  | _ => exact q1.elim
/-- a text that is a whole number -/
def kIntS : List D → LH → DK → Prop := fun ds l Q => match ds with
  | [.str a] => ∃ n, intText? a = some n ∧ a.length ≤ 640 ∧ Q (.int n) l
  | _ => False
theorem kIntS_ok : KCall X (fun xs H Q => ∃ a n, xs = [.str a] ∧ intText? a = some n ∧ a.length ≤ 640 ∧ Q (.int n) H) kIntS := by
  intro F Fr l H Q ds vs Q' R rd hq q
  cases rd with
  | nil => exact q.elim
  | cons r1 rr =>
    cases rr with
    | cons _ _ => cases r1 <;> exact q.elim
    | nil =>
      cases r1 <;> try exact q.elim
      obtain ⟨n, h1, h2, q⟩ := q
      exact ⟨_, n, rfl, h1, h2, hq _ _ (LK.mk (.int _) R q)⟩
/-- a text of the module -/
theorem de_globS {z : Str} {tk : Tok} (hg : Gl X x) (hm : X.mg x = some (.str z tk)) (hd : (x == ("__debug__" : Str)) = false := by decide) : DE X (.Name x pos) (dC (.str z)) :=
  ⟨fun F Fr env l σ H Q he hr ht => (pe_glob (v := .str z) hg hm ⟨_, rfl⟩ hd).we (LK.mk (.str z) hr ht)⟩
/-- o.f += e -/
def kAddI : D → D → LH → DK → Prop := fun x y l Q => match x, y with
  | .int i, .int j => Q (.int (i + j)) l
  | _, _ => False
theorem kAddI_ok : KOp X rAdd kAddI := by
  intro F Fr l H Q d e v u Q' R rd re hq q
  cases rd <;> try exact q.elim
  cases re <;> try exact q.elim
  exact ⟨_, _, rfl, rfl, hq _ _ (LK.mk (.int _) R q)⟩
def kSubI : D → D → LH → DK → Prop := fun x y l Q => match x, y with
  | .int i, .int j => Q (.int (i - j)) l
  | _, _ => False
theorem kSubI_ok : KOp X rSub kSubI := by
  intro F Fr l H Q d e v u Q' R rd re hq q
  cases rd <;> try exact q.elim
  cases re <;> try exact q.elim
  exact ⟨_, _, rfl, rfl, hq _ _ (LK.mk (.int _) R q)⟩
def sAugF (c : Cl) (i : Nat) (to tv : DTE) (k : D → D → LH → DK → Prop) : DTS := fun E env l => to env l fun x l1 => atIns x l1 c fun a ds => nthK ds i fun d => tv env l1 fun y l2 => k d y l2 fun z l3 => atIns (.ref a) l3 c fun _ ds' => putI ds' i z fun ds'' => E.nx env (uL l3 a (.ins c ds''))
theorem ds_augF {c : Cl} {C : Addr} {f : Str} {tpos : Pos} {op : Operator} {rd : R2} {kk : D → D → LH → DK → Prop} (i : Nat) (hf : c.fs[i]? = some f) (nd : c.fs.Nodup) (hz : c.fs.length < 1000) (hC : PySem.W.nsIn X.K mainGlobals c.name = some (some (.ref C))) (cl : Cls X.K C) (na : NoAttr X.K C f) (hop : InOp X op rd) (hk : KOp X rd kk) (ho : DE X o to) (hv : DE X value tv) :
    DS X (.AugAssign (.Attribute o f tpos) op value pos) (sAugF c i to tv kk) := by
  refine ⟨?_⟩
  intro F Fr env l σ H E hE hR ht
  refine (ps_fldaug peW peW hop).ws ?_
  refine (ho F Fr env l σ H _ hE hR ht).mono fun x H1 ⟨F1, d1, l1, s1, r1, R1, q1⟩ => ?_
  obtain ⟨a, ds, dx, vs, rfl, rfl, q, hl0, rr, hl, hH⟩ := atIns_ok hC R1 r1 q1
  obtain ⟨d, hd, q⟩ := nthK_ok q
  obtain ⟨v, hv0, rv⟩ := rr.get hd
  refine ⟨a, C, dx, _, v, rfl, hH, cl, na, lookup_zip nd hf hv0, ?_⟩
  refine (hv F1 Fr env l1 σ H1 _ (hE.mono s1) R1 q).mono fun y H2 ⟨F2, d2, l2, s2, r2, R2, q2⟩ => ?_
  refine hk F2 Fr l2 H2 _ d d2 v y _ R2 (rv.mono s2) r2 (fun w H3 ⟨F3, d3, l3, s3, r3, R3, q3⟩ => ?_) q2
  obtain ⟨a', ds', dx', vs', e1, e2, q3, hl0', rr', hl', hH'⟩ := atIns_ok hC R3 (.ref a) q3
  cases e1
  obtain ⟨hi, q3⟩ := putI_ok q3
  have hif := (List.getElem?_eq_some_iff.mp hf).1
  refine ⟨dx', _, hH', by rw [List.length_zip]; omega, ?_⟩
  rw [putF_zip nd hf (by rw [← rr'.length]; exact hi) hl']
  have hlen := putN_len vs' i w (by rw [← rr'.length]; exact hi)
  have S := s1.trans (s2.trans s3)
  exact ⟨F3, env, _, S, hE.mono S, R3.write hl0' rfl (show DOk X.K F3 _ a (.ins c (putN ds' i d3)) from ⟨C, dx', _, rr'.putN r3 i, hC, by omega, upd_same⟩), q3⟩
end
end DL

namespace DL
open PySem PySem.Spec PyProof.Rows L2
section
variable {X : Cx} {e : Expr} {es : List Expr} {ta : TA} {p1 p2 pos : Pos} {pl : Sem Bool} {CB : Addr} {mc : Value}
theorem pe_oinit (hg : Gl X "BracketError") (hm : X.mg "BracketError" = some (.ref CB)) (cr : ClX.CRead X.K CB mc) (vV : PySem.W.findCls X.K (.ref CB) mc "__init__" = some (.val (.builtin "ValueError.__init__"))) (ha : PA X (e :: es) ta)
    (heq : eval (.Call (.Attribute (.Name "BracketError" p1) "__init__" p2) (e :: es) [] pos) X.env = (do
                let ov ← eval (.Name "BracketError" p1) X.env
                standAt p2.atName
                let __x ← holding [ov] (getMethod ov "__init__" pl)
                match __x with
                  | (f, first) =>
                    callWith pos f first (backTo pos (starEach (e :: es) X.env)) (backToKw pos (keywordEach [] X.env))) := by rfl)
    (he : starEach (e :: es) X.env = (false, eval e X.env) :: starEach es X.env := by rfl) (hpl : (backTo pos (starEach es X.env)).any (·.1) = false := by rfl) :
    PE X (.Call (.Attribute (.Name "BracketError" p1) "__init__" p2) (e :: es) [] pos) (tVeI X.K ta) := by
  refine ⟨fun pins s σ H Q I h => ?_⟩
  rw [heq]
  refine wpAny_bind (ld_glob I hg hm ?_)
  refine wpAny_bind ?_
  wp_step
  wp_step
  wp_step
  refine PySem.W.method_cls I.kIn cr.ga ?_
  refine PySem.W.cls_value I.kIn cr.rd vV rfl ?_
  have I0 : Inv X pins σ H { s with toks := s.toks + 1 } := I.kept (t' := s.toks + 1) fun b o e => e
  show wpAny _ _ (callWith pos (.builtin "ValueError.__init__") [] (backTo pos (starEach (e :: es) X.env)) []) _ _ _
  refine PyProof.Rows.callWith_builtin1 (thn (ha.run pos pins _ σ H _ I0 h) fun us s1 hh => ?_) he hpl
  obtain ⟨vs, H1, I1, r1, a, C, ws, rfl, wl, T, ha1, q⟩ := hh
  cases r1 with
  | cons rv rr =>
    rename_i v' us'
    obtain rfl : v' = Value.ref a := rv
    obtain ⟨nm, qn, N, bs, bm, sn, sub, ab, col, dd, k0, k1, k2, k3, k5, hC, hbm⟩ := T.cls
    obtain ⟨⟨t1, hx⟩, _, hst⟩ := I1.hok a _ ha1
    have len : us'.length = ws.length := rr.length.symm
    refine wpAny_call ?_
    obtain ⟨hp, g, dr, tk, os⟩ := s1
    refine PySem.HandSPX.init_base PySem.F.excBase_ValueError (fun Y => PySem.HandSPX.refsVE_contains Y bm hbm) (I1.kIn _ _ hC) hx (by rw [len]; exact Nat.le_trans wl (by decide)) fun h' t2 k' hx' => ?_
    have J : Inv X pins σ (upd H1 a (exo a C none)) ⟨h', g, dr, tk, os⟩ := I1.write (t' := tk) (by rw [ha1]; trivial) (.inl rfl) k' ⟨_, hx'⟩ ⟨⟨t2, hx'⟩, ⟨_, hx'⟩, hst⟩
    have e : upd H1 a (exo a C none) = H1 := by
      funext b
      by_cases hb : b = a
      · rw [hb, upd_same, ha1]
      · rw [upd_ne hb]
    rw [e] at J
    exact ⟨.non, H1, J, rfl, q⟩
end
/-! what __init__ of a class of exceptions with one field does -/
def tInitF (K : PySem.W.Frag) (f : Str) : TS := tSeq (tDrop (tVeI K (tCons (tVar 0) (tCons (tVar 1) tNil)))) (tOst K f (tVar 0) (tVar 2))
def rInitF (K : PySem.W.Frag) (f : Str) : Sp := fun vs H Q _ => ∃ (a C : Addr) (w v : V), vs = [.ref a, w, v] ∧ OexC K C ∧ PySem.W.findIn K (.ref C) f = some none ∧ H a = some (exo a C none) ∧ ∀ dx, H dx = none → dx ≠ a → Q .non (upd (upd H dx (exd dx [(f, v)])) a (exo a C (some dx)))
theorem init_fn {P : Program} {w : World} {K : PySem.W.Frag} {mg : Str → Option Value} {base : Heap} {qual : Str} {st : Stmt} {fI : Addr} {fd : FuncData} {f : Str} {k : Nat} {N ps : List Str}
    (G : Fun K "__init__" qual st fI fd) (S : FnScope N ps (defScope st)) (hN : N.length = 3) (hp : ps.length = 3)
    (hb : ∀ (cdv : Value) (A : Around) (outer : List Env) (s : Shared) (H : Hp) (E : XK), PSs (cxOf CX0 P w K mg base N qual (defScope st) fI cdv A outer s H E).nox (defBody st) (tInitF K f)) :
    FnOk P w K mg base CX0 (k + 1) fI fd ps (rInitF K f) := by
  refine Fun.ok G S (fun vs H Q E ⟨a, C, w, v, e, _⟩ => by rw [e, hp]; rfl) fun cdv A outer s H vs Q E hr ⟨a, C, w, v, e, T, na, ha, q⟩ => ⟨_, hb cdv A outer s H E, ?_⟩
  subst e
  have es : L2.start N [V.ref a, w, v] = [some (.ref a), some w, some v] := by
    unfold L2.start
    rw [hN]
    rfl
  rw [es]
  refine ⟨_, rfl, _, rfl, a, C, _, rfl, by show 1 ≤ 1000; decide, T, ha, ?_⟩
  refine ⟨_, rfl, _, rfl, a, C, rfl, T, na, .inl ⟨ha, fun dx h1 h2 => q dx h1 h2⟩⟩
structure XFld (K : PySem.W.Frag) (C fI : Addr) (f : Str) : Prop where
  T : OexC K C
  iC : PySem.W.findIn K (.ref C) "__init__" = some (some (.ref fI))
  tI : PySem.W.typeIn K (.ref fI) = some (.type "function")
  na : PySem.W.findIn K (.ref C) f = some none
section
variable {X : Cx} {x m : Str} {C fI : Addr} {fd : FuncData} {ps : List Str} {j : Nat} {p p2 pos pos' : Pos} {e : Expr} {te : DTE}
def xRaise1 (k : Nat) (te : DTE) (wx : DWish) : DTS := fun _ env l => te env l fun d l1 => wx env (.exc1 k d) l1
theorem dxs_raise1 {kr : Nat} (k : Nat) (hc : X.calm = true) (gC : X.mg x = some (.ref C)) (hns : PySem.W.nsIn X.K mainGlobals (exN k) = some (some (.ref C))) (T : XFld X.K C fI (exF k)) (F1 : FnOk X.prog X.w X.K X.mg X.base CX0 kr fI fd ps (rInitF X.K (exF k))) (hr : Room (kr + 1) X.A) (hb : Binds X.K fd ps []) (hg : Gl X x) (he : DE X e te)
    (hdb : (x == ("__debug__" : Str)) = false := by decide) (hs : starEach (.Constant (.str m) j p2 :: [e]) X.env = (false, eval (.Constant (.str m) j p2) X.env) :: starEach [e] X.env := by rfl) (hs2 : starEach [e] X.env = (false, eval e X.env) :: starEach [] X.env := by rfl) (hpl : (backTo pos (starEach [e] X.env)).any (·.1) = false := by rfl) :
    DXS X (.Raise (some (.Call (.Name x p) [.Constant (.str m) j p2, e] [] pos)) none pos') (fun wx => xRaise1 k te wx) := by
  refine ⟨?_⟩
  intro wx F Fr env l σ H E tk hE hR ht
  refine (ps_raise hc tk (pmk_oex T.T T.iC T.tI F1 hr hb .nil (fun _ _ _ _ _ _ _ z => z.elim) hg gC (pa_cons pe_str (pa_cons peW pa_nil hs2) hs) hdb hs hpl)).ws (D := LE X.K F Fr E) ?_
  refine (he F Fr env l σ H _ hE hR ht).mono fun v H1 ⟨F1, d, l1, s1, r1, R1, q1⟩ => ?_
  refine ⟨by show 2 ≤ 1000; decide, fun a na => ⟨a, C, _, v, rfl, T.T, T.na, upd_same, fun dx h1 h2 => ?_⟩⟩
  have hd : H1 dx = none := by rwa [upd_ne h2] at h1
  refine ⟨rfl, dx, [(exF k, v)], upd_same, by rw [upd_ne h2]; exact upd_same, hd, ?_⟩
  have e2 : upd (del (upd (upd (upd H1 a (exo a C none)) dx (exd dx [(exF k, v)])) a (exo a C (some dx))) a) dx (HO.xd [(exF k, v)]) = upd H1 dx (HO.xd [(exF k, v)]) := by
    funext b
    by_cases h3 : b = dx
    · rw [h3, upd_same, upd_same]
    · rw [upd_ne h3, upd_ne h3]
      by_cases h4 : b = a
      · rw [h4, del_same, na]
      · rw [del_ne h4, upd_ne h4, upd_ne h3, upd_ne h4]
  rw [e2]
  have n1 := R1.F_none hd
  exact ⟨upd F1 dx (HO.xd [(exF k, v)]), env, l1, .exc1 k d, s1.trans (same_upd n1), hE.mono (s1.trans (same_upd n1)), R1.laid hd _, ⟨C, dx, v, hns, rfl, rfl, upd_same, r1.mono (same_upd n1)⟩, q1⟩
end
/-! the field of a caught exception -/
structure XGet (K : PySem.W.Frag) (C : Addr) (f : Str) : Prop where
  ga : PySem.W.findIn K (.ref C) "__getattribute__" = some (some (.builtin "BaseException.__getattribute__"))
  gt : PySem.W.findIn K (.ref C) "__getattr__" = some none
  sub : PySem.W.subIn K (.ref C) (.type "BaseException") = some true
  hd : PySem.W.hasDictIn K C = true
  na : PySem.W.findIn K (.ref C) f = some none
def fldX (k : Nat) (x : D) (l : LH) (Q : DK) : Prop := match x with
  | .exc1 j d => match Nat.beq j k with
    | true => Q d l
    | false => False
  | _ => False
def dFldX (k : Nat) (te : DTE) : DTE := fun env l Q => te env l fun x l1 => fldX k x l1 Q
section
variable {X : Cx} {e : Expr} {te : DTE} {pos : Pos} {C : Addr} {f : Str}
theorem de_fldX (k : Nat) (hk : exF k = f) (hns : PySem.W.nsIn X.K mainGlobals (exN k) = some (some (.ref C))) (T : XGet X.K C f) (h : DE X e te) (hb : attributeBase e f X.env (eval e X.env) = eval e X.env := by rfl) : DE X (.Attribute e f pos) (dFldX k te) := by
  refine ⟨?_⟩
  intro F Fr env l σ H Q hE hR ht pins s I
  refine attr_of hb (thn (h F Fr env l σ H _ hE hR ht pins s I) fun u s1 ⟨x, H1, I1, rx, F1, d, l1, s1', rd, R1, q1⟩ => ?_)
  cases rd with
  | @exc1 p C' dx j d v h1 h2 h3 h4 =>
    have q2 : (match Nat.beq j k with | true => Q d l1 | false => False) := q1
    cases eb : Nat.beq j k with
    | false => rw [eb] at q2; exact q2.elim
    | true =>
      rw [eb] at q2
      have ej : j = k := Nat.eq_of_beq_eq_true eb
      subst ej
      rw [hns] at h1
      cases h1
      obtain rfl : u = Value.ref p := rx
      obtain ⟨⟨oe, vs, g1, g2, g3, g4⟩, _⟩ := I1.hok p _ (R1.fz _ _ h2)
      have hno : PySem.W.notCls oe = true := by
        obtain ⟨c, dd, dt, sl⟩ := oe
        dsimp only at g4
        subst g4
        rfl
      have hx : ObjOk X.prog X.w H1 s1.heap dx (.xd [(exF j, v)]) := I1.hok dx _ (R1.fz _ _ h3)
      obtain ⟨mA, hns2, hr⟩ := hx
      obtain ⟨od, ho, hl⟩ := lookIn_ns hns2
      have ll : List.lookup f [(exF j, v)] = some v := by rw [hk]; simp [List.lookup]
      have hr2 := hr f
      rw [ll] at hr2
      obtain ⟨w, hw, rw'⟩ := RelO.some_of (v := v) (o := mA f) hr2
      have J : PySem.W.InstAt s1.heap p oe C (some od) := ⟨g1, g2, hno, by rw [g3]; exact ho⟩
      exact PySem.HandSPX.exc_get I1.kIn J T.ga T.gt T.sub (PySem.W.findObj_own T.hd T.na rfl (by rw [hl, hw])) (handed_of rw') ⟨v, H1, I1.tok _, rw', ⟨F1, d, l1, s1', h4, R1, q2⟩⟩
  | _ => exact q1.elim
end
/-! a method of a list, an argument of which may raise -/
section
variable {X : Cx} {o e : Expr} {to : DTE} {te : DWish → DTE} {apos cpos : Pos}
theorem dx_mt {es : List Expr} {t : DWish → DTA} {name : Str} {id : String} {r : V → List V → Hp → VK → Prop} {k : Addr → List D → LH → DK → Prop} (slot : Slot "list" name id) (hty : typeOf (.builtin id) = pure (.type "method_descriptor")) (hm : MtR X id r) (hk : KMt X r k) (ho : DE X o to) (ha : DXA X (e :: es) t)
    (hbase : attributeBase o name X.env (eval o X.env) = eval o X.env := by rfl)
    (hfew : ((backTo cpos (starEach (e :: es) X.env)).all (fun x => !x.1) && (backToKw cpos (keywordEach [] X.env)).all (fun x => x.1.isSome)
      && decide ((e :: es).length + ([] : List Keyword).length + (if ([] : List Keyword).isEmpty then 0 else 1) < 30)) = true := by rfl)
    (hline : (apos.endLine == cpos.line) = true := by rfl) (hs : starEach (e :: es) X.env = (false, eval e X.env) :: starEach es X.env := by rfl) (hplain : (backTo cpos (starEach es X.env)).any (·.1) = false := by rfl) :
    DXE X (.Call (.Attribute o name apos) (e :: es) [] cpos) (fun wx => dMt k to (t wx)) := by
  refine ⟨?_⟩
  intro wx F Fr env l σ H Q tk hE hR ht
  refine (pe_bm PySem.F.plainAttrs_list slot hty hm peW paW hbase hfew hline hs hplain).we ?_
  refine (ho F Fr env l σ H _ hE hR ht).mono fun x H1 ⟨F1, d, l1, s1, r1, R1, q1⟩ => ?_
  obtain ⟨a, rfl, q2, ty⟩ := atRef_ok R1 r1 q1
  refine ⟨ty, ?_⟩
  refine (ha.run wx F1 Fr env l1 σ H1 _ (takes_mono s1 tk) (hE.mono s1) R1 q2).mono fun vs H2 ⟨F2, ds, l2, s2, r2, R2, q3⟩ => ?_
  exact hk F2 Fr l2 H2 Q a ds vs _ R2 r2 (fun _ _ q => q.weak (s1.trans s2)) q3
theorem dx_append (ho : DE X o to) (h : DXE X e te) (hbase : attributeBase o "append" X.env (eval o X.env) = eval o X.env := by rfl) (hline : (apos.endLine == cpos.line) = true := by rfl) (hs : starEach [e] X.env = (false, eval e X.env) :: starEach [] X.env := by rfl)
    (hfew : ((backTo cpos (starEach [e] X.env)).all (fun x => !x.1) && (backToKw cpos (keywordEach [] X.env)).all (fun x => x.1.isSome)
      && decide (([e] : List Expr).length + ([] : List Keyword).length + (if ([] : List Keyword).isEmpty then 0 else 1) < 30)) = true := by rfl) : DXE X (.Call (.Attribute o "append" apos) [e] [] cpos) (fun wx => dMt kAppend to (aCons (te wx) aNil)) :=
  dx_mt PySem.F.slot_list_append PySem.F.type_list_append mt_append kAppend_ok ho (dxa_cons h dxa_nil hs) hbase hfew hline hs
end
end DL

/-! a text so many times; not among the signs of a text -/
namespace DL
open PySem PySem.Spec PyProof.Rows L2
section
variable {X : Cx} {a b : Expr} {ta tb : DTE} {pos : Pos}
/-! one sign among the signs of a text -/
def kInC : D → D → LH → DK → Prop := fun x y l Q => match x, y with
  | .str i, .str j => ∃ c, i = ⟨#[c]⟩ ∧ Q (.bl (decide (c ∈ j.cps.toList))) l
  | _, _ => False
theorem kInC_ok : KOp X (fun x y H Q => ∃ c z, x = V.str ⟨#[c]⟩ ∧ y = V.str z ∧ Q (V.bl (decide (c ∈ z.cps.toList))) H) kInC := by
  intro F Fr l H Q d e v u Q' R rd re hq q
  cases rd <;> try exact q.elim
  cases re <;> try exact q.elim
  obtain ⟨c, rfl, q⟩ := q
  exact ⟨c, _, rfl, rfl, hq _ _ (LK.mk (.bl _) R q)⟩
def dInC : DTE → DTE → DTE := dOp kInC
theorem de_inC (ha : DE X a ta) (hb : DE X b tb) (hm : behindInMarks .In b = false := by rfl) : DE X (.Compare a [.In] [b] pos) (dInC ta tb) := de_cmp op_in_sign kInC_ok ha hb hm
end
end DL

/-! the truth of numbers and texts -/
namespace DL
open PySem PySem.Spec PyProof.Rows L2
def dTI (t : DTE) : DTT := fun env l Q => t env l fun x l1 => match x with
  | .bl b => Q b l1
  | .int i => Q (i != 0) l1
  | .str y => y.length ≤ sizeLine ∧ Q ((y.length : Int) != 0) l1
  | .non => Q false l1
  | _ => False
end DL

/-! x[::-1] of a text; a new list of a list and one that may be written; enumerate of a text -/
namespace L2
open PySem PySem.Spec PyProof.Rows
section
variable {X : Cx}
end
end L2
namespace DL
open PySem PySem.Spec PyProof.Rows L2
/-! a list and a list that may be written, as a new one -/
end DL

/-! enumerate of a text -/
namespace L2
open PySem PySem.Spec PyProof.Rows
end L2
namespace DL
open PySem PySem.Spec PyProof.Rows L2
end DL

/-! sorted(set(list of texts)) -/
namespace SetT
open PySem PySem.Spec PyProof.Rows PySem.Froz L2
section
variable {P : Program} {w : World} {A : Around} {E : Value → Shared → Prop} {s : Shared}
/-- a set of the texts l -/
structure SetS (P : Program) (w : World) (h : Heap) (a : Addr) (l : List Str) : Prop where
  ob : ∃ D : SD, h.get? a = some (sObj "set" D) ∧ TxOk P w D l ∧ Ris D.2.2.place.toList ∧ (w.params.followText "set-order" = true ∨ D.2.2.led = true)
theorem SetS.keep {h h' : Heap} {a : Addr} {l : List Str} (R : SetS P w h a l) (k : ∀ o, h.get? a = some o → h'.get? a = some o) : SetS P w h' a l := by
  obtain ⟨D, ho, r⟩ := R.ob
  exact ⟨D, k _ ho, r⟩
theorem tail_ris {ep : Nat} {es1 : Array (Int × Value)} {t2 : SetTable} {wd : Bool} (r : Ris t2.place.toList) : Ris (tailTx ep es1 t2 wd).2.2.place.toList := by
  unfold tailTx
  split
  · exact relayAll_ris _ _ _
  · exact r
theorem tail_led {ep : Nat} {es1 : Array (Int × Value)} {t2 : SetTable} {wd : Bool} : (tailTx ep es1 t2 wd).2.2.led = t2.led := by
  unfold tailTx
  split
  · exact relayAll_led _ _ _
  · rfl
theorem addTx_ris {h : Int} {v : Value} {D : SD} (r : Ris D.2.2.place.toList) : Ris (addTx h v D).2.2.place.toList := by
  unfold addTx
  refine tail_ris ?_
  have := layNew_ris D.2.2 D.1 h v r
  split <;> exact this
theorem addTx_led {h : Int} {v : Value} {D : SD} : (addTx h v D).2.2.led = D.2.2.led := by
  unfold addTx
  rw [tail_led]
  have := layNew_led D.2.2 D.1 h v
  split <;> exact this
/-- a text put in: it is there, or it is new -/
theorem add_s {a : Addr} {l : List Str} {k : Str} {u : Tok} {Q : Bool → Shared → Prop} (R : SetS P w s.heap a l) (hb : l.length + 1 < scanBound)
    (h : ∀ h' b, Heap.SameBut a s.heap h' → SetS P w h' a (if k ∈ l then l else k :: l) → Q b { s with heap := h' }) : wpAny (model P w) A (setAddHashed a (.str k u) (hashStr w k)) Q E s := by
  obtain ⟨⟨es, ep, t⟩, ho, F, hr, hl⟩ := R.ob
  by_cases hk : k ∈ l
  · have hd : (sObj "set" (es, ep, t)).data = .set es ep t := rfl
    have hf : t.fits es.size = true := F.fit
    have hel : ElemsOf (strKind P w) es.toList := F.el
    have hsz : es.size = l.length := F.sz
    have hb0 : es.size < scanBound := by omega
    have hkey : (strKind P w).is k (.str k u) = true := is_str k u
    unfold setAddHashed setAddHashedIn
    refine wpAny_holding (wpAny_bind (wpAny_setState_of ho hd hf ?_))
    dsimp only
    rw [byScan_of rfl hb0 hel]
    simp only [↓reduceIte]
    unfold setAddByScan
    refine wpAny_bind ?_
    refine wpAny_bind (wpAny_rule ?_)
    refine wpAny_bind (wpAny_setScan_of (knd := strKind P w) (k := k) hkey ho hd hf hel ?_)
    cases hfi : List.findIdx? (fun e => (strKind P w).is k e.2) es.toList with
    | some j =>
      dsimp only
      refine wpAny_pure (wpAny_pure ?_)
      have q := h s.heap false (Heap.SameBut.refl a s.heap) (by rw [if_pos hk]; exact R)
      exact q
    | none =>
      obtain ⟨e, he, hp⟩ := (F.mem k).mp hk
      have c := List.findIdx?_eq_none_iff.mp hfi e he
      rw [hp] at c
      cases c
  · have ho2 : (s.heap.update a (fun _ => sObj "set" (addTx (hashStr w k) (.str k u) (es, ep, t)))).get? a = some (sObj "set" (addTx (hashStr w k) (.str k u) (es, ep, t))) := get_upd _ ho rfl
    refine add_x ho F hk hb ?_
    refine h _ true (Heap.SameBut.update s.heap a _) ?_
    rw [if_neg hk]
    exact ⟨_, ho2, add_ok u F, addTx_ris hr, hl.imp id fun z => by rw [addTx_led]; exact z⟩
/-- the texts met, each once -/
def ins (l : List Str) (k : Str) : List Str := if k ∈ l then l else k :: l
def met (xs : List Str) : List Str := xs.foldl ins []
theorem met_snoc (xs : List Str) (k : Str) : met (xs ++ [k]) = ins (met xs) k := by unfold met; rw [List.foldl_append]; rfl
theorem ins_len (l : List Str) (k : Str) : (ins l k).length ≤ l.length + 1 := by
  unfold ins
  split
  · exact Nat.le_succ _
  · exact Nat.le_refl _
theorem foldl_len : ∀ (xs l : List Str), (xs.foldl ins l).length ≤ l.length + xs.length
  | [], l => Nat.le_refl _
  | x :: xs, l => by
    have h1 := foldl_len xs (ins l x)
    have h2 := ins_len l x
    rw [List.foldl_cons, List.length_cons]
    omega
theorem met_len (xs : List Str) : (met xs).length ≤ xs.length := by
  have := foldl_len xs []
  rw [List.length_nil, Nat.zero_add] at this
  exact this
theorem ins_mem (l : List Str) (k x : Str) : x ∈ ins l k ↔ x ∈ l ∨ x = k := by
  unfold ins
  split
  · next h => exact ⟨.inl, fun z => z.elim id fun e => by rw [e]; exact h⟩
  · rw [List.mem_cons]; exact ⟨fun z => z.symm, fun z => z.symm⟩
theorem foldl_mem : ∀ (xs l : List Str) (x : Str), x ∈ xs.foldl ins l ↔ x ∈ l ∨ x ∈ xs
  | [], l, x => by simp
  | y :: xs, l, x => by rw [List.foldl_cons, foldl_mem xs, ins_mem, List.mem_cons]; exact ⟨fun z => by rcases z with (a | a) | a <;> simp [a], fun z => by rcases z with a | a | a <;> simp [a]⟩
theorem met_mem (xs : List Str) (x : Str) : x ∈ met xs ↔ x ∈ xs := by
  have := foldl_mem xs [] x
  show x ∈ xs.foldl ins [] ↔ _
  simpa using this
theorem ins_nodup {l : List Str} (h : l.Nodup) (k : Str) : (ins l k).Nodup := by
  unfold ins
  split
  · exact h
  · next hk => exact List.nodup_cons.mpr ⟨hk, h⟩
theorem foldl_nodup : ∀ (xs : List Str) {l : List Str}, l.Nodup → (xs.foldl ins l).Nodup
  | [], _, h => h
  | x :: xs, _, h => foldl_nodup xs (ins_nodup h x)
theorem met_nodup (xs : List Str) : (met xs).Nodup := foldl_nodup xs List.nodup_nil
/-- the loop of set.update over texts -/
theorem upd_strs {I : Addr} {fp wr : List Addr} {G : Array GenState → Array GenState → Prop} {n : Nat} {Pv : Nat → Value → Prop} {St : Nat → Shared → Prop} {R : Result → Shared → Prop}
    (W : WalksS P w A.in1 I fp wr G n Pv St) (S : Addr) (hSf : S ∉ fp) (xs : List Str) (hn : n = xs.length) (few : xs.length + 1 < scanBound) (hval : ∀ i v, Pv i v → ∃ x u, xs[i]? = some x ∧ v = .str x u) :
    ∀ (k i : Nat) (s : Shared), n - i = k → i ≤ n → St i s → SetS P w s.heap S (met (xs.take i)) →
      (∀ s', Moved (S :: wr) G s s' → SetS P w s'.heap S (met xs) → R (.ok (.ret .none)) s') →
      codeAny (model P w) A (.builtin "set.update.loop" ⟨[.ref S, .ref I], []⟩) R s := by
  have hSw : S ∉ wr := fun h => hSf (W.sub _ h)
  have hsub : ∀ b ∈ wr, b ∈ S :: wr := fun b hb => List.mem_cons_of_mem _ hb
  intro k
  induction k with
  | zero =>
    intro i s hk' hi hst hS hR
    have hin : i = n := by omega
    subst hin
    refine codeAny_builtin PyProof.Rows.F.entry_set_update_loop ?_
    rw [Around.under_plainId PyProof.Rows.F.plain_set_update_loop _]
    show wpAny _ A.in1 (pyNext (.ref I) >>= _) _ _ s
    refine wpAny_bind (W.done s _ _ hst fun s' hm => ?_)
    show wpAny _ A.in1 (ret Value.none) _ _ s'
    rw [hn, List.take_length] at hS
    exact wpAny_pure (hR s' (hm.mono hsub) (hS.keep fun o e => hm.heap S o hSw e))
  | succ k ih =>
    intro i s hk' hi hst hS hR
    have hlt : i < n := by omega
    refine codeAny_builtin PyProof.Rows.F.entry_set_update_loop ?_
    rw [Around.under_plainId PyProof.Rows.F.plain_set_update_loop _]
    show wpAny _ A.in1 (pyNext (.ref I) >>= _) _ _ s
    refine wpAny_bind (W.item i s _ _ hlt hst fun v s' hP hst' hm => ?_)
    obtain ⟨x, u, hx, rfl⟩ := hval i v hP
    have hS' : SetS P w s'.heap S (met (xs.take i)) := hS.keep fun o e => hm.heap S o hSw e
    have ml := met_len (xs.take i)
    rw [List.length_take] at ml
    show wpAny _ A.in1 (holding [Value.str x u] (setAdd S (.str x u)) >>= _) _ _ s'
    refine wpAny_bind (wpAny_holding ?_)
    unfold setAdd
    refine wpAny_holding ?_
    refine wpAny_bind ((PySem.strKind P w).pyHash (k := x) (is_str x u) ?_)
    refine add_s (s := { s' with toks := s'.toks + 1 }) hS' (by omega) fun h' b hsb hS2 => ?_
    have hSi : SetS P w h' S (met (xs.take (i + 1))) := by
      rw [List.take_succ, hx]
      show SetS P w h' S (met (xs.take i ++ [x]))
      rw [met_snoc]
      exact hS2
    refine wpAny_pure ⟨plainId_quiet PyProof.Rows.F.plain_set_update_loop _, ih (i + 1) _ (by omega) hlt (W.frame _ s' _ _ hst' (Nat.le_succ _) fun b hb o e => ?_) hSi fun s'' hm'' hS'' => ?_⟩
    · rw [hsb.2 b (fun h : b = S => hSf (by rw [← h]; exact hb))]; exact e
    · refine hR s'' (Moved.trans W.gtrans ((hm.mono hsub).then_heap (Nat.le_succ _) fun b o hb e => ?_) hm'') hS''
      rw [hsb.2 b (fun h : b = S => hb (by rw [h]; exact List.mem_cons_self))]; exact e
theorem set_fresh {h : Heap} {a : Addr} (ho : h.get? a = some { cls := .type "set", dict := none, data := .set #[] 0 (.fresh 0 0 (!w.params.followText "set-order")) }) : SetS P w h a [] := by
  refine ⟨(#[], 0, .fresh 0 0 (!w.params.followText "set-order")), ho, TxOk.nil rfl, List.Pairwise.nil, ?_⟩
  cases e : w.params.followText "set-order" with
  | true => exact .inl rfl
  | false => exact .inr rfl
set_option maxHeartbeats 8000000 in
/-- set(xs) of a list of texts -/
theorem call_set_strs {l : Addr} {items : Array Value} (xs : List Str) {Q : Value → Shared → Prop} (hh : A.handled = none) (hl : s.heap.IsList l items) (hit : StrsAre items.toList xs) (few : xs.length + 1 < scanBound)
    (h : ∀ (h' : Heap) (tk : Nat), SetS P w h' s.heap.objs.size (met xs) → (∀ b o, s.heap.get? b = some o → h'.get? b = some o) → Q (.ref s.heap.objs.size) { s with heap := h', toks := tk }) :
    wpAny (model P w) A (call (.type "set") [.ref l]) Q E s := by
  have hisz : items.size = xs.length := by
    have gg : ∀ (us : List Value) (ys : List Str), StrsAre us ys → us.length = ys.length := by
      intro us ys h
      induction h with
      | nil => rfl
      | cons y t _ ih => rw [List.length_cons, List.length_cons, ih]
    have q := gg _ _ hit
    rw [Array.length_toList] at q
    exact q
  have hval : ∀ (i : Nat) (v : Value), items[i]? = some v → ∃ x u, xs[i]? = some x ∧ v = .str x u := fun i v hv => by
    have gg : ∀ (us : List Value) (ys : List Str), StrsAre us ys → ∀ (i : Nat) (v : Value), us[i]? = some v → ∃ (x : Str) (u : Tok), ys[i]? = some x ∧ v = Value.str x u := by
      intro us ys h
      induction h with
      | nil => intro i v e; cases e
      | cons y t _ ih =>
        intro i v e
        cases i with
        | zero => cases e; exact ⟨y, t, rfl, rfl⟩
        | succ i => exact ih i v e
    exact gg _ _ hit i v (by rw [Array.getElem?_toList]; exact hv)
  generalize hb : (!w.params.followText "set-order") = fl
  obtain ⟨c, tl, hmro⟩ := PySem.F.called_set.mro
  have hmade := PySem.F.called_set.made
  have hsub := PySem.F.called_set.sub
  refine wpAny_call (codeAny_of_tree ?_)
  show wpAny _ _ (callAny (.type "set") _) _ _ _
  refine wpAny_pure ⟨Code.quiet_builtin _ (by decide +kernel), codeAny_builtin PySem.F.entry_type_call ?_⟩
  rw [Around.under_plain (weight_type_call_type "set" [.ref l] []) rfl]
  have h1 := PySem.F.called_set.notType
  have h2 := PySem.F.called_set.canCreate
  have hct := PySem.F.typeCall_set_1 (.ref l)
  repeat (any_goals (first | assumption | wp_step))

  refine codeAny_mono (code_set_led1 (.ref l) (E := E) (Q₁ := fun obj s₁ => obj = .ref s.heap.objs.size ∧ s₁ = { s with heap := s.heap.push { cls := .type "set", dict := none, data := .set #[] 0 (.fresh 0 0 (!w.params.followText "set-order")) } }) ⟨rfl, rfl⟩) fun r s₁ hr => ?_
  cases r with
  | error e => exact hr
  | ok fl1 =>
    cases fl1 with
    | ret obj =>
      obtain ⟨rfl, rfl⟩ := hr
      rw [hb]
      have hS : (s.heap.push ({ cls := .type "set", dict := none, data := .set #[] 0 (.fresh 0 0 fl) } : Obj)).get? s.heap.objs.size = some ({ cls := .type "set", dict := none, data := .set #[] 0 (.fresh 0 0 fl) } : Obj) := Heap.get?_push_size _ rfl
      have hT : Shared.TypeIs { s with heap := s.heap.push ({ cls := .type "set", dict := none, data := .set #[] 0 (.fresh 0 0 fl) } : Obj) } (.ref s.heap.objs.size) "set" := ⟨_, hS, rfl⟩
      have hli := PySem.F.called_set.init.lookup
      have hbi := PySem.F.called_set.init.bind (.ref s.heap.objs.size)
      repeat (any_goals (first | assumption | wp_step))

      refine codeAny_mono (codeAny_call_builtin (R := wants (fun r s₂ => r = .none ∧ ∃ h' tk, s₂ = { s with heap := h', toks := tk } ∧ SetS P w h' s.heap.objs.size (met xs) ∧
          (∀ b o, s.heap.get? b = some o → h'.get? b = some o)) E) PySem.F.called_set.init.plain PySem.F.entry_set_init (check_set_init_1 hT ?_)) fun r₂ s₂ hr₂ => ?_
      · obtain ⟨ol, hol, hcl, nl, hdl⟩ := hl
        have hlS : l < s.heap.objs.size := Heap.lt_size hol
        obtain ⟨ocls, odict, odata, oslots⟩ := ol
        simp only at hcl hdl
        subst hcl; subst hdl
        have hol' : (s.heap.push ({ cls := .type "set", dict := none, data := .set #[] 0 (.fresh 0 0 fl) } : Obj)).get? l = some { cls := .type "list", dict := odict, data := .seq items nl, slots := oslots } := Heap.get?_push_of_some _ hol
        have hsls := PySem.F.sub_list_set
        have hslf := PySem.F.sub_list_frozenset
        have hne : (Value.type "list" == Value.type "dict") = false := by decide
        have hl1 : (s.heap.push ({ cls := .type "set", dict := none, data := .set #[] 0 (.fresh 0 0 fl) } : Obj)).IsList l items := ⟨_, hol', rfl, nl, rfl⟩
        unfold Builtin.«set.__init__» noKeywords Builtin.Frozenset.updateFrom
        generalize hPI : pyIter = PI
        wp_walk
        subst hPI

        refine wpAny_pyIter_list hl1 ?_
        refine wpAny_bind (wpAny_runValue ?_)
        have hh3 : A.in1.in1.in1.handled = none := by simp [hh]
        have hneI : l ≠ (s.heap.push ({ cls := .type "set", dict := none, data := .set #[] 0 (.fresh 0 0 fl) } : Obj)).objs.size := by
          rw [Heap.size_push]; exact Nat.ne_of_lt (Nat.lt_succ_of_lt hlS)
        have hSf : s.heap.objs.size ∉ [(s.heap.push ({ cls := .type "set", dict := none, data := .set #[] 0 (.fresh 0 0 fl) } : Obj)).objs.size, l] := by
          rw [Heap.size_push]; simp only [List.mem_cons, List.mem_singleton, List.not_mem_nil, or_false, not_or]
          exact ⟨Nat.ne_of_lt (Nat.lt_succ_self _), Nat.ne_of_gt hlS⟩
        refine upd_strs ((Walks.list hh3 _ l hneI items).toS) s.heap.objs.size
          hSf xs hisz few hval (items.size - 0) 0 _ (by omega) (Nat.zero_le _)
          ⟨⟨_, Heap.get?_push_size _ rfl, rfl, rfl⟩, (hl1.push _)⟩ ?hS0 ?hR
        case hS0 =>
          have hget : ((s.heap.push ({ cls := .type "set", dict := none, data := .set #[] 0 (.fresh 0 0 fl) } : Obj)).push { cls := .type "list_iterator", data := .fields #[.ref l, .int 0 0] }).get? s.heap.objs.size = some ({ cls := .type "set", dict := none, data := .set #[] 0 (.fresh 0 0 fl) } : Obj) := by
            exact Heap.get?_push_of_some _ hS
          rw [← hb] at hget ⊢
          exact set_fresh hget
        case hR =>
          intro s' hm hS'
          obtain ⟨h', g2, d', tk', os'⟩ := s'
          have eg : g2 = s.gens := hm.gens
          have ed : d' = s.drawn := hm.drawn
          have eo : os' = s.os := hm.os
          subst eg; subst ed; subst eo
          show wpAny _ _ _ _ _ _
          refine wpAny_pure ?_
          show wpAny _ _ (ret Value.none) _ _ _
          refine wpAny_pure ⟨rfl, h', tk', rfl, hS', fun b o e => hm.heap b o (fun z => ?_) (Heap.get?_push_of_some _ (Heap.get?_push_of_some _ e))⟩
          have bl : b < s.heap.objs.size := Heap.lt_size e
          rcases List.mem_cons.mp z with z | z
          · exact Nat.ne_of_lt bl z
          · have z2 := List.mem_singleton.mp z
            rw [Heap.size_push] at z2
            exact Nat.ne_of_lt (Nat.lt_succ_of_lt bl) z2

      · cases r₂ with
        | error e => exact hr₂
        | ok fl₂ =>
          cases fl₂ with
          | ret r =>
            obtain ⟨rfl, h', tk, rfl, hS', hk'⟩ := hr₂
            repeat (any_goals (first | assumption | wp_step))
            exact h _ _ hS' hk'
          | _ => exact hr₂.elim
    | _ => exact hr.elim
end
end SetT

/-! sorted(set(list of texts)): the order, and the rule -/
namespace SetT
open PySem PySem.Spec PyProof.Rows PySem.Froz L2
section
variable {P : Program} {w : World} {A : Around} {E : Value → Shared → Prop} {s : Shared}
theorem strs_of : ∀ {vs : List Value}, (∀ v ∈ vs, ∃ x t, v = Value.str x t) → StrsAre vs (vs.map strOf)
  | [], _ => .nil
  | v :: vs, h => by
    obtain ⟨x, t, rfl⟩ := h v List.mem_cons_self
    exact .cons x t (strs_of fun u hu => h u (List.mem_cons_of_mem _ hu))
theorem perm_of : ∀ {l m : List Str}, l.Nodup → (∀ x ∈ l, x ∈ m) → m.length = l.length → m.Perm l
  | [], m, _, _, e => by
    rw [List.length_nil] at e
    rw [List.length_eq_zero_iff.mp e]
  | x :: l, m, nd, sub, e => by
    obtain ⟨nx, nd⟩ := List.nodup_cons.mp nd
    have hx := sub x List.mem_cons_self
    refine (List.perm_cons_erase hx).trans (List.Perm.cons x (perm_of nd (fun y hy => ?_) ?_))
    · have ne : y ≠ x := fun z => nx (by rw [← z]; exact hy)
      exact (List.mem_erase_of_ne ne).mpr (sub y (List.mem_cons_of_mem _ hy))
    · rw [List.length_erase_of_mem hx, e, List.length_cons]
      rfl
theorem is_inv {k : Str} {v : Value} (h : (strKind P w).is k v = true) : ∃ t, v = .str k t := by
  have h : Value.isStrOf k v = true := h
  cases v with
  | str x t =>
    simp [Value.isStrOf] at h
    exact ⟨t, by rw [h]⟩
  | _ => simp [Value.isStrOf] at h
theorem sorted_setS {a : Addr} {l : List Str} {Q : Value → Shared → Prop} (R : SetS P w s.heap a l) (nd : l.Nodup) (hh : A.handled = none) (h64 : l.length < 64)
    (hQ : ∀ s' p (out : Array Value) (c : Nat) (ss : List Str), (∀ b o, s.heap.get? b = some o → s'.heap.get? b = some o) → s'.gens = s.gens → s'.os = s.os → s.heap.objs.size ≤ p →
      s'.heap.get? p = some (seqObj "list" out c) → StrsAre out.toList ss → ss.Perm l → sortedS ss = true → Q (.ref p) s') :
    wpAny (model P w) A (call (.builtin "sorted") [.ref a]) Q E s := by
  obtain ⟨⟨es, ep, t⟩, ho, F, hr, hl⟩ := R.ob
  have hsz : es.size = l.length := F.sz
  refine Calls.call_function_entry kind_sorted plain_sorted entry_sorted (args_sorted1 _) ?_
  unfold Builtin.«sorted»
  refine wpAny_bind (m := checkCount "sorted" 1 1 _) (wpAny_pure ?_)
  refine wpAny_bind (collect_set (A := A.in1) hh ⟨_, ho, rfl, rfl⟩ F.fit (by rw [hsz]; unfold scanBound; omega) hr hl fun s1 vs k1 hz g1 o1 pm => ?_)
  have hvl : vs.length = l.length := by rw [pm.length_eq, List.length_map, Array.length_toList]; exact hsz
  have hall : ∀ e ∈ es.toList, ∃ k u, e.2 = Value.str k u := fun e he => by
    obtain ⟨⟨k, hk, _⟩, _⟩ := F.el e he
    obtain ⟨u, hu⟩ := is_inv hk
    exact ⟨k, u, hu⟩
  have hS : StrsAre vs (vs.map strOf) := strs_of fun v hv => by
    obtain ⟨e, he, q⟩ := List.mem_map.mp (pm.mem_iff.mp hv)
    obtain ⟨k, u, h1⟩ := hall e he
    exact ⟨k, u, by rw [← q]; exact h1⟩
  have pl : (vs.map strOf).Perm l := perm_of nd (fun x hx => by
    obtain ⟨e, he, hp⟩ := (F.mem x).mp hx
    obtain ⟨u, hu⟩ := is_inv hp
    refine List.mem_map.mpr ⟨e.2, pm.mem_iff.mpr (List.mem_map.mpr ⟨e, he, rfl⟩), ?_⟩
    rw [hu]
    rfl) (by rw [List.length_map]; exact hvl)
  refine wpAny_bind (wpAny_newList ?_ (by rw [hvl, sizeLine_eq]; omega))
  have hoL : (s1.heap.push (seqObj "list" vs.toArray 0)).get? s1.heap.objs.size = some (seqObj "list" vs.toArray 0) := Heap.get?_push_size _ rfl
  refine wpAny_bind (wpAny_holding (wpAny_call_entry slot_list_sort ⟨_, hoL, rfl⟩ entry_list_sort (list_sort_treeK strKind_oneLt hoL hS.keysOf (fun v₁ v₂ rest e => keyKind_strs (by rw [← e]; exact hS)) (by rw [hvl]; exact h64) fun st' a1 a2 => ⟨_, rfl, ?_⟩) (args_list_sort _)))
  obtain ⟨ss, b1, b2, b3⟩ := sorted_out_str hS a1 a2
  obtain ⟨c, hc⟩ := sortedHeap_at (vs := vs) (out := (arrOf st').map (·.2)) hoL
  refine wpAny_pure ⟨_, rfl, hQ _ s1.heap.objs.size _ c ss (fun b u e => ?_) g1 o1 hz hc b1 (b2.trans pl) b3⟩
  have q := k1 b u e
  have hlt := Heap.lt_size q
  show (sortedHeap (s1.heap.push (seqObj "list" vs.toArray 0)) s1.heap.objs.size vs ((arrOf st').map (·.2))).get? b = some u
  rw [sortedHeap_old (Nat.ne_of_lt hlt) (by rw [size_push']; exact Nat.lt_succ_of_lt hlt)]
  exact Heap.get?_push_of_some _ q
end
end SetT

/-! sorted(set(list of texts)) as a rule -/
namespace DL
open PySem PySem.Spec PyProof.Rows L2
section
variable {X : Cx} {e : Expr} {te : DTE} {p p2 q pos : Pos}
theorem strs_vals : ∀ {xs : List Str} {us : List Value}, Vals (xs.map V.str) us → PyProof.Rows.StrsAre us xs
  | [], _, h => by cases h; exact .nil
  | x :: xs, _, h => by
    cases h with
    | cons r t =>
      obtain ⟨u, rfl⟩ := r
      exact .cons x u (strs_vals t)
theorem vals_strs : ∀ {xs : List Str} {us : List Value}, PyProof.Rows.StrsAre us xs → Vals (xs.map V.str) us
  | _, _, .nil => .nil
  | _, _, .cons x t h => .cons ⟨t, rfl⟩ (vals_strs h)
theorem rel_strs {K : PySem.W.Frag} {F : Hp} : ∀ xs : List Str, RelDs K F (xs.map D.str) (xs.map V.str)
  | [] => .nil
  | x :: xs => .cons (.str x) (rel_strs xs)
def setOfS (ds : List D) (k : List D → Prop) : Prop := ∃ xs, txts ds = some xs ∧ xs.length ≤ 2000 ∧ (SetT.met xs).length < 64 ∧ ∀ ss : List Str, ss.Perm (SetT.met xs) → PyProof.Rows.sortedS ss = true → k (ss.map D.str)
def dSortSetS (te : DTE) : DTE := fun env l Q => te env l fun d l1 => match d with
  | .lst ds => setOfS ds fun ys => Q (.lst ys) l1
  | _ => False
theorem sortSet_core (hc : X.calm = true) (hg : Gl X "sorted") (hm : X.mg "sorted" = none) (hg2 : Gl X "set") (hm2 : X.mg "set" = none) (ha : DE X e te) {T : List D → LH → DK → Prop}
    (hT : ∀ {F Fr l H} {Q : DK} {ys : List Str} {b : Addr}, Rep X.K F Fr l H → H b = none → T (ys.map D.str) l Q → LK X.K F Fr Q (.ref b) (upd H b (.lst (ys.map V.str))))
    (na : starEach [e] X.env = (false, eval e X.env) :: starEach [] X.env := by rfl) :
    DE X (.Call (.Name "sorted" p) [.Call (.Name "set" p2) [e] [] q] [] pos) (fun env l Q => te env l fun d l1 => match d with | .lst ds => setOfS ds fun ys => T ys l1 Q | _ => False) := by
  refine ⟨?_⟩
  intro F Fr env l σ H Q hE hR ht pins s I
  refine Call_ (ld_blt I hg hm PyProof.Rows.boot_sorted ?_)
  refine PyProof.Rows.callWith_builtin1 (PyProof.Rows.args_cons ?_ rfl) rfl rfl
  refine Call_ (ld_blt I hg2 hm2 PyProof.Rows.boot_set ?_)
  refine PyProof.Rows.callWith_type1 (PyProof.Rows.args_cons (thn (ha F Fr env l σ H _ hE hR ht pins s I) fun v s1 ⟨x, H1, I1, r1, F1, d, l1, s1', rd, R1, q1⟩ => PyProof.Rows.args_nil ?_) na) na rfl
  cases rd with
  | @lst a vs ds h1 rr =>
    cases r1
    obtain ⟨xs, ex, few, few2, q1⟩ := q1
    obtain rfl := txts_rel rr ex
    obtain ⟨its, rv, pl, hz⟩ := I1.list (.inl (.inl (R1.fz _ _ h1)))
    refine SetT.call_set_strs (P := X.prog) (w := X.w) xs (I1.ok.hd hc) pl.isList (by simpa using strs_vals rv) (by unfold scanBound; omega) fun h' tk RS hk => ?_
    refine PyProof.Rows.args_nil ?_
    have I2 : Inv X pins σ H1 { s1 with heap := h', toks := tk } := I1.kept (t' := tk) fun b o e => hk b o e
    refine SetT.sorted_setS (s := { s1 with heap := h', toks := tk }) RS (SetT.met_nodup xs) (I2.ok.hd hc) few2 fun s' b out c ss k g o hp hgt hi pm so => ?_
    have hlen : (ss.map V.str).length ≤ sizeLine := by rw [List.length_map, pm.length_eq, sizeLine_eq]; omega
    have hn : H1 b = none := I2.hok.fresh hp
    have J : Inv X pins σ (upd H1 b (.lst (ss.map V.str))) { { s1 with heap := h', toks := tk } with heap := s'.heap, gens := s'.gens, drawn := s'.drawn, toks := s'.toks } :=
      I2.call (ch := []) (Un.laid k hp hn) (I2.hok.laid k hp ⟨hlen, out.toList, c, vals_strs hi, hgt⟩) (by rw [g]; exact I2.bare) (fun _ z => nomatch z)
    have e' : s' = { s1 with heap := s'.heap, gens := s'.gens, drawn := s'.drawn, toks := s'.toks } := by
      cases s'
      cases s1
      cases o
      rfl
    rw [e']
    exact ⟨.ref b, _, J, rfl, (hT R1 hn (q1 ss pm so)).weak s1'⟩
  | _ => exact q1.elim
theorem de_sortSetS (hc : X.calm = true) (hg : Gl X "sorted") (hm : X.mg "sorted" = none) (hg2 : Gl X "set") (hm2 : X.mg "set" = none) (ha : DE X e te)
    (na : starEach [e] X.env = (false, eval e X.env) :: starEach [] X.env := by rfl) : DE X (.Call (.Name "sorted" p) [.Call (.Name "set" p2) [e] [] q] [] pos) (dSortSetS te) :=
  sortSet_core (T := fun ys l Q => Q (.lst ys) l) hc hg hm hg2 hm2 ha (fun R n q => LK.lst n R (rel_strs _) q) na
end
end DL

/-! a def that raises nothing, called with what may raise -/
namespace DL
open PySem PySem.Spec PyProof.Rows L2
section
variable {P : Program} {w : World} {K : PySem.W.Frag} {mg : Str → Option Value} {base : Heap}
theorem FnG.x {k : Nat} {f : Addr} {fd : FuncData} {ps : List Str} {dsp : DSp} (G : FnG P w K mg base k f fd ps dsp) : FnX P w K mg base k f fd ps (fun _ => dsp) := by
  refine ⟨fun _ => G.len, fun A outer s H args us vs Q E hr hgd e0 hbd r hsp => ?_⟩
  obtain ⟨F, Fr, ds, l, Qd, wd, rd, R, q, hq, _⟩ := hsp
  refine codeAny_mono (G.run A outer s H args us vs Q E hr hgd e0 hbd r ⟨F, Fr, ds, l, Qd, rd, R, q, hq⟩) fun res s' h => ?_
  cases res with
  | error u => exact h.elim
  | ok fl => cases fl <;> exact h
end
section
variable {X : Cx} {e o : Expr} {es : List Expr} {to : DTE} {t : DWish → DTA} {pos p apos : Pos} {x m : Str} {c : Cl} {C : Addr} {k : Nat} {g f : Addr} {fd : FuncData} {ps : List Str} {dsp : DSp}
end
end DL

/-! d.values() of a dict with tuple keys -/
namespace DL
open PySem PySem.Spec PyProof.Rows L2
section
variable {X : Cx} {e tg : Expr} {te : DTE} {apos cpos : Pos}
end
end DL

/-! repr of a dict by plain keys whose values are lists and tuples of simple things -/
namespace RprD
open PySem PySem.Sem PySem.Calls
section
variable {prog : Program} {w : World} {h₀ : Heap} {a : Addr} {o : Obj} {es : Array DictEntry} {n : Nat} {kvs : List (PyData × PyData)} {as₁ bs₁ : List Addr}
variable {A : Around} {E : Value → Shared → Prop} {s : Shared} {Q : Value → Shared → Prop}
end
end RprD
namespace DL
open PySem PySem.Spec PyProof.Rows L2
end DL

/-! dicts by plain keys: pop, sorted keys, over the keys; a dict that may be written, read as it stands while an expression runs -/
namespace DL
open PySem PySem.Spec PyProof.Rows L2
/-! ### d.pop(k) -/
def delKs : List Key → Key → List Key
  | k :: ks, q => if k = q then delKs ks q else k :: delKs ks q
  | [], _ => []
def delDs : List Key → List D → Key → List D
  | k :: ks, d :: ds, q => if k = q then delDs ks ds q else d :: delDs ks ds q
  | _, _, _ => []
theorem del_rel {K : PySem.W.Frag} {F : Hp} {q : Key} : ∀ {ks : List Key} {ds : List D} {vs : List V}, ks.length = vs.length → RelDs K F ds vs → ∃ ws, RelDs K F (delDs ks ds q) ws ∧ (delKs ks q).length = ws.length ∧ dropK (ks.zip vs) q = (delKs ks q).zip ws
  | [], _, _, _, _ => ⟨[], by unfold delDs; exact .nil, rfl, rfl⟩
  | k :: ks, _, _, h, .nil => by cases h
  | k :: ks, d :: ds, v :: vs, h, .cons a b => by
    obtain ⟨ws, h1, h2, h3⟩ := del_rel (q := q) (ks := ks) (by simpa using h) b
    unfold delKs delDs
    unfold dropK at h3 ⊢
    rw [List.zip_cons_cons, List.filter_cons]
    by_cases e : k = q
    · rw [if_pos e, if_pos e, if_neg (by simp [e])]
      exact ⟨ws, h1, h2, h3⟩
    · rw [if_neg e, if_neg e, if_pos (by simp [e]), h3]
      exact ⟨v :: ws, .cons a h1, by rw [List.length_cons, List.length_cons, h2], rfl⟩
section
variable {X : Cx} {a b e o : Expr} {ta tb te to tx : DTE} {pos p apos cpos : Pos} {k : Nat}
def dDPop (to te : DTE) : DTE := fun env l Q => to env l fun x l1 => match x with
  | .ref a => getO l1 a fun u => match u with
    | .dK _ _ => te env l1 fun y l2 => getO l2 a fun u => match u with
      | .dK ks ds => ∃ q, keyD y = some q ∧ ∃ d, getA ks ds q = some d ∧ Q d (uL l2 a (.dK (delKs ks q) (delDs ks ds q)))
      | _ => False
    | _ => False
  | _ => False
theorem de_dpop (ho : DE X o to) (he : DE X e te) (m : M1 X o "pop" apos e cpos) : DE X (.Call (.Attribute o "pop" apos) [e] [] cpos) (dDPop to te) := by
  refine ⟨?_⟩
  intro F Fr env l σ H Q hE hR ht
  refine (pe_dpop1 peW peW m).we ?_
  refine (ho F Fr env l σ H _ hE hR ht).mono fun x H1 ⟨F1, d1, l1, s1, r1, R1, q1⟩ => ?_
  cases r1 with
  | ref a =>
    obtain ⟨u, hu, q1⟩ := q1
    cases u with
    | dK ks ds =>
      obtain ⟨vs, rr, hl, hH⟩ := (R1.lv _ _ hu).2
      refine ⟨a, rfl, .inl ⟨_, .inl hH⟩, ?_⟩
      refine (he F1 Fr env l1 σ H1 _ (hE.mono s1) R1 q1).mono fun y H2 ⟨F2, d2, l2, s2, r2, R2, q2⟩ => ?_
      obtain ⟨u, hu, q2⟩ := q2
      cases u with
      | dK ks ds =>
        obtain ⟨q, hq, d, hd, q2⟩ := q2
        obtain ⟨vs, rr, hl, hH⟩ := (R2.lv _ _ hu).2
        have og := getA_rel (q := q) (ks := ks) rr
        rw [hd] at og
        cases hv : valV (ks.zip vs) q with
        | none => rw [hv] at og; exact og.elim
        | some v =>
          rw [hv] at og
          obtain ⟨ws, w1, w2, w3⟩ := del_rel (q := q) hl rr
          refine ⟨_, q, v, hH, keyD_v r2 hq, hv, ?_⟩
          rw [w3]
          exact LK.weak (s1.trans s2) ⟨F2, d, _, Same.refl F2, og, R2.write hu rfl (show DOk X.K F2 _ a (.dK _ _) from ⟨ws, w1, w2, upd_same⟩), q2⟩
      | _ => exact q2.elim
    | _ => exact q1.elim
  | _ => exact q1.elim
/-! ### sorted(d) -/
def keysS : List Key → Option (List Str)
  | [] => some []
  | .inr x :: r => (keysS r).map fun s => x :: s
  | .inl _ :: _ => none
theorem keysS_map : ∀ {ks : List Key} {xs : List Str}, keysS ks = some xs → ks = xs.map Sum.inr
  | [], _, h => by cases h; rfl
  | .inl _ :: _, _, h => by cases h
  | .inr x :: r, xs, h => by
    unfold keysS at h
    cases e : keysS r with
    | none => rw [e] at h; cases h
    | some s =>
      rw [e] at h
      cases h
      rw [List.map_cons, keysS_map e]
def sortKs (ks : List Key) (k : List D → Prop) : Prop := ∃ xs, keysS ks = some xs ∧ xs.length < 64 ∧ ∀ ss : List Str, ss.Perm xs → PyProof.Rows.sortedS ss = true → k (ss.map D.str)
def rSortDK : List V → Hp → VK → Prop := fun xs H Q => ∃ (a : Addr) (kvs : List (Key × V)) (ks : List Str), xs = [.ref a] ∧ Rd H a (.dK kvs) ∧ kvs.map (·.1) = ks.map Sum.inr ∧ ks.length < 64 ∧
    ∀ ys p, ys.Perm ks → sortedS ys = true → H p = none → Q (.ref p) (upd H p (.lst (ys.map V.str)))
def kSortDKf (T : List D → LH → DK → Prop) : List D → LH → DK → Prop := fun ds l Q => match ds with
  | [.ref a] => getO l a fun o => match o with | .dK ks ds => sortKs ks fun ys => T ys l Q | _ => False
  | [.dK ks ds] => sortKs ks fun ys => T ys l Q
  | _ => False
def kSortDK : List D → LH → DK → Prop := kSortDKf fun ys l Q => Q (.lst ys) l
theorem zip_keys {ks : List Key} {vs : List V} (h : ks.length = vs.length) : (ks.zip vs).map (·.1) = ks := by rw [List.map_fst_zip]; omega
theorem kSortDKf_ok {T : List D → LH → DK → Prop} (hT : ∀ {F Fr : Hp} {l : LH} {H : Hp} {Q : DK} {ys : List Str} {b : Addr}, Rep X.K F Fr l H → H b = none → T (ys.map D.str) l Q → LK X.K F Fr Q (.ref b) (upd H b (.lst (ys.map V.str)))) : KCall X rSortDK (kSortDKf T) := by
  intro F Fr l H Q ds vs Q' R rd hq q
  have go : ∀ {a : Addr} {ks : List Key} {vs : List V}, Rd H a (.dK (ks.zip vs)) → ks.length = vs.length → sortKs ks (fun ys => T ys l Q) → rSortDK [.ref a] H Q' := by
    intro a ks vs h hl ⟨xs, e1, e2, e3⟩
    refine ⟨a, _, xs, rfl, h, by rw [zip_keys hl]; exact keysS_map e1, e2, fun ys p pm so np => ?_⟩
    exact hq _ _ (hT R np (e3 ys pm so))
  cases rd with
  | nil => exact q.elim
  | cons r1 rr =>
    cases rr with
    | cons _ _ => cases r1 <;> exact q.elim
    | nil =>
      cases r1 with
      | ref a =>
        obtain ⟨o, ho, q⟩ := q
        cases o with
        | dK ks ds =>
          obtain ⟨vs, rr, hl, hH⟩ := (R.lv _ _ ho).2
          exact go (.inl hH) hl q
        | _ => exact q.elim
      | dK h hl rr => exact go (.inr ⟨_, R.fz _ _ h⟩) hl q
      | _ => exact q.elim
theorem kSortDK_ok : KCall X rSortDK kSortDK := kSortDKf_ok fun R n q => LK.lst n R (rel_strs _) q
/-! ### over the keys -/
def keyO : Key → D
  | .inl i => .int i
  | .inr x => .str x
theorem keyO_rel {K : PySem.W.Frag} {F : Hp} (k : Key) : RelD K F (keyO k) (kV k) := by
  cases k with
  | inl i => exact .int i
  | inr x => exact .str x
def iKeysK (te : DTE) : DTI := fun env l R => te env l fun d l1 => match d with
  | .dK ks _ => R (ks.map keyO) l1
  | _ => False
theorem jok_keysK {K : PySem.W.Frag} {F : Hp} {d : Addr} {od : Obj} {ks : List Key} {vs : List V} (h : F d = some (.frz od (.dK (ks.zip vs)))) (hl : ks.length = vs.length) : JOk K F (Itk d od (ks.zip vs)) (ks.map keyO) := by
  intro i F' Fr l H s R
  have hd := R.fz _ _ (s _ _ h)
  have hz : (ks.zip vs).length = ks.length := by rw [List.length_zip]; omega
  refine ⟨fun hi => ⟨hd, by rw [List.length_map] at hi; omega⟩, fun x hx => ?_⟩
  have hi : i < ks.length := by
    have := (List.getElem?_eq_some_iff.mp hx).1
    rwa [List.length_map] at this
  refine ⟨⟨hd, by omega⟩, fun y H' q => ?_⟩
  obtain ⟨e, k, v, hk, ey⟩ := q
  subst e ey
  rw [List.getElem?_map, List.getElem?_eq_getElem hi] at hx
  have e1 := (List.getElem?_zip_eq_some.mp hk).1
  rw [List.getElem?_eq_getElem hi] at e1
  cases e1
  cases hx
  exact ⟨F', Same.refl _, keyO_rel _, R⟩
theorem di_keysK {tg : Expr} (h : DE X e te) : DI X tg e (iKeysK te) := by
  refine ⟨?_⟩
  intro F Fr env l σ H R hE hR ht
  refine (pi_keys peW).wi ?_
  refine (h F Fr env l σ H _ hE hR ht).mono fun x H1 ⟨F1, d, l1, s1, rd, R1, q1⟩ => ?_
  cases rd with
  | dK h1 hl rr => exact ⟨_, _, rfl, .inl ⟨_, R1.fz _ _ h1, F1, l1, _, s1, R1, jok_keysK h1 hl, q1⟩⟩
  | _ => exact q1.elim
end
/-! ### a dict that may be written, as it stands while an expression runs -/
mutual
def noK : D → Bool
  | .dK _ _ => false
  | .tup ds => noKs ds
  | .lst ds => noKs ds
  | .kt ds => noKs ds
  | .dT _ ds => noKs ds
  | .exc1 _ d => noK d
  | _ => true
def noKs : List D → Bool
  | [] => true
  | d :: ds => noK d && noKs ds
end
def noKO : DO → Bool
  | .lst ds => noKs ds
  | .dT _ ds => noKs ds
  | .dK _ ds => noKs ds
  | .ins _ ds => noKs ds
  | .dN _ _ _ => false
  | .fz _ => false
/-- F without the address a -/
def outH (F : Hp) (a : Addr) : Hp := fun b => if b = a then none else F b
theorem outH_ne {F : Hp} {a b : Addr} (h : b ≠ a) : outH F a b = F b := by unfold outH; rw [if_neg h]
theorem outH_same {F : Hp} {a : Addr} : outH F a a = none := by unfold outH; rw [if_pos rfl]
section
variable {K : PySem.W.Frag} {F F1 F2 Fr H : Hp} {l : LH} {a : Addr} {od : Obj} {kvs : List (Key × V)}
theorem outH_keep (ha : F2 a = some (.frz od (.dK kvs))) {p : Addr} {o : HO} (h : F2 p = some o) (hn : ∀ od kvs, o ≠ .frz od (.dK kvs)) : outH F2 a p = some o := by
  rw [outH_ne fun e => ?_]
  · exact h
  · subst e; rw [ha] at h; cases h; exact hn _ _ rfl
theorem outH_sqL (ha : F2 a = some (.frz od (.dK kvs))) {p : Addr} {xs : List V} (h : SqL K F2 p xs) : SqL K (outH F2 a) p xs := by
  rcases h with (h | ⟨o, h⟩) | h
  · exact .inl (.inl (outH_keep ha h fun _ _ e => nomatch e))
  · exact .inl (.inr ⟨o, outH_keep ha h fun _ _ e => by cases e⟩)
  · exact .inr h
mutual
theorem RelD.out (ha : F2 a = some (.frz od (.dK kvs))) : ∀ {d : D} {v : V}, noK d = true → RelD K F2 d v → RelD K (outH F2 a) d v
  | _, _, _, .non => .non
  | _, _, _, .bl b => .bl b
  | _, _, _, .int b => .int b
  | _, _, _, .str b => .str b
  | _, _, _, .ref b => .ref b
  | _, _, h, .tup x y => .tup (outH_keep ha x fun _ _ e => nomatch e) (RelDs.out ha (by rw [noK] at h; exact h) y)
  | _, _, _, .scr x => .scr (outH_sqL ha x)
  | _, _, h, .lst x y => .lst (outH_keep ha x fun _ _ e => nomatch e) (RelDs.out ha (by rw [noK] at h; exact h) y)
  | _, _, h, .dT x e y => .dT (outH_keep ha x fun _ _ e => by cases e) e (RelDs.out ha (by rw [noK] at h; exact h) y)
  | _, _, h, .dK x e y => by rw [noK] at h; cases h
  | _, _, _, .exc x e => .exc x (outH_keep ha e fun _ _ z => nomatch z)
  | _, _, h, .exc1 x e f r => .exc1 x (outH_keep ha e fun _ _ z => nomatch z) (outH_keep ha f fun _ _ z => nomatch z) (RelD.out ha (by rw [noK] at h; exact h) r)
  | _, _, h, .kt x e f r => .kt (outH_keep ha x fun _ _ z => by cases z) e f (RelDs.out ha (by rw [noK] at h; exact h) r)
theorem RelDs.out (ha : F2 a = some (.frz od (.dK kvs))) : ∀ {ds : List D} {vs : List V}, noKs ds = true → RelDs K F2 ds vs → RelDs K (outH F2 a) ds vs
  | _, _, _, .nil => .nil
  | _, _, h, .cons x y => by
    rw [noKs, Bool.and_eq_true] at h
    exact .cons (RelD.out ha h.1 x) (RelDs.out ha h.2 y)
end
theorem DOk.out (ha : F2 a = some (.frz od (.dK kvs))) {H' : Hp} {b : Addr} {o : DO} (h : noKO o = true) (x : DOk K F2 H b o) (e : H' b = H b) : DOk K (outH F2 a) H' b o := by
  cases o with
  | lst ds => obtain ⟨vs, r, q⟩ := x; exact ⟨vs, r.out ha h, e.trans q⟩
  | dT ks ds => obtain ⟨vs, r, n, q⟩ := x; exact ⟨vs, r.out ha h, n, e.trans q⟩
  | dK ks ds => obtain ⟨vs, r, n, q⟩ := x; exact ⟨vs, r.out ha h, n, e.trans q⟩
  | ins c ds => obtain ⟨C, dx, vs, r, z, n, q⟩ := x; exact ⟨C, dx, vs, r.out ha h, z, n, e.trans q⟩
  | dN o ks ds => cases h
  | fz d => cases h
theorem borK_back {S : Addr → Bool} {H1 : Hp} {l2 : LH} {ks : List Key} {ds : List D} {vs : List V} (R : Rep K F Fr l H) (ho : l a = some (.dK ks ds)) (rr : RelDs K F ds vs) (hl : ks.length = vs.length) (Sa : S a = false)
    (hS : ∀ b, S b = true → ∃ o, l b = some o ∧ noKO o = true) (s : Same (upd F a (.frz od (.dK (ks.zip vs)))) F2) (R' : Rep K F2 (frS S Fr (upd H a (.frz od (.dK (ks.zip vs)))) (upd F a (.frz od (.dK (ks.zip vs)))) (dL l a)) l2 H1) (same : ∀ b, S b = true → l2 b = l b) :
    Rep K (outH F2 a) Fr l (upd H1 a (.dK (ks.zip vs))) := by
  have nF : F a = none := (R.lv a _ ho).1 rfl
  have ha : F2 a = some (.frz od (.dK (ks.zip vs))) := s _ _ upd_same
  have fs : Same F (outH F2 a) := fun b o e => by
    have hb : b ≠ a := fun z => by rw [z, nF] at e; cases e
    rw [outH_ne hb]
    exact s b o ((upd_ne hb).trans e)
  have nFr : Fr a = none := by
    cases q : Fr a with
    | none => rfl
    | some o => have := (R.fd a o q).2; rw [ho] at this; cases this
  refine ⟨fun b o e => ?_, fun b o e => ?_, fun b o e => ?_, fun b o e => ?_, R.ft⟩
  · by_cases hb : b = a
    · rw [hb, outH_same] at e; cases e
    · rw [outH_ne hb] at e
      rw [upd_ne hb]
      exact R'.fz b o e
  · have hb : b ≠ a := fun z => by rw [z, nFr] at e; cases e
    rw [upd_ne hb]
    refine R'.fr b o ?_
    unfold frS
    rw [if_neg fun z => z.1 (by unfold dL; rw [if_neg hb]; exact (R.fd b o e).2)]
    exact e
  · have hb : b ≠ a := fun z => by rw [z, nFr] at e; cases e
    refine ⟨?_, (R.fd b o e).2⟩
    rw [outH_ne hb]
    refine (R'.fd b o ?_).1
    unfold frS
    rw [if_neg fun z => z.1 (by unfold dL; rw [if_neg hb]; exact (R.fd b o e).2)]
    exact e
  · by_cases hb : b = a
    · subst hb
      rw [ho] at e
      cases e
      exact ⟨fun _ => outH_same, vs, rr.mono fs, hl, upd_same⟩
    · obtain ⟨h1, h2⟩ := R.lv b o e
      cases hSb : S b with
      | true =>
        obtain ⟨o', e', hn⟩ := hS b hSb
        rw [e] at e'
        cases e'
        obtain ⟨q1, q2⟩ := R'.lv b o ((same b hSb).trans e)
        exact ⟨fun f => by rw [outH_ne hb]; exact q1 f, q2.out ha hn (upd_ne hb)⟩
      | false =>
        obtain ⟨u, hu⟩ := h2.there R.fz
        have nl : dL l a b ≠ none := by unfold dL; rw [if_neg hb, e]; exact fun z => (nomatch z)
        have fb : F b = none → frS S Fr (upd H a (.frz od (.dK (ks.zip vs)))) (upd F a (.frz od (.dK (ks.zip vs)))) (dL l a) b = some u := fun q => by
          unfold frS
          rw [if_pos ⟨nl, hSb, (upd_ne hb).trans q⟩, upd_ne hb]
          exact hu
        have hH : H1 b = H b := by
          rw [hu]
          cases q : F b with
          | none => exact R'.fr b u (fb q)
          | some u' =>
            have z := R.fz b u' q
            rw [hu] at z; cases z
            exact R'.fz b u (s b u ((upd_ne hb).trans q))
        refine ⟨fun f => ?_, h2.mono fs ((upd_ne hb).trans hH)⟩
        rw [outH_ne hb]
        exact (R'.fd b u (fb (h1 f))).1
end
section
variable {X : Cx} {e : Expr} {te : DTE} {tt : DTT}
def borD {β : Type} (i : Nat) (run : DSt → LH → β → Prop) (k : (Addr → Bool) → LH → β) : DSt → LH → Prop := fun env l => ∃ (S : Addr → Bool) (a : Addr) (ks : List Key) (ds : List D), nthE env i = some (.ref a) ∧ l a = some (.dK ks ds) ∧ S a = false ∧ (∀ b, S b = true → ∃ o, l b = some o ∧ noKO o = true) ∧
  run (env.set i (some (.dK ks ds))) (stL l S) (k S l)
def tBorD (i : Nat) (t : DTT) : DTT := fun env l Q => borD i t (fun S l c l2 => (∀ b, S b = true → l2 b = l b) ∧ Q c l) env l
def dBorD (i : Nat) (t : DTE) : DTE := fun env l Q => borD i t (fun S l d l2 => (∀ b, S b = true → l2 b = l b) ∧ noK d = true ∧ Q d l) env l
theorem stL_dL {l : LH} {S : Addr → Bool} {a : Addr} (h : S a = false) : stL (dL l a) S = stL l S := by
  funext b
  cases hS : S b with
  | false => rw [stL_out hS, stL_out hS]
  | true => rw [stL_in hS, stL_in hS]; unfold dL; rw [if_neg fun z => by rw [z, h] at hS; cases hS]
theorem dt_borD {i : Nat} (h : DT X e tt) : DT X e (tBorD i tt) := by
  refine ⟨?_⟩
  intro F Fr env l σ H Q hE hr ⟨S, a, ks, ds, he, ho, Sa, hS, q⟩ pins s I
  obtain ⟨vs, rr, hl, hH⟩ := (hr.lv _ _ ho).2
  have nF := (hr.lv a _ ho).1 rfl
  obtain ⟨od, I1⟩ := I.lock hH (by exact trivial)
  have s1 := same_upd (o := .frz od (.dK (ks.zip vs))) nF
  obtain ⟨v, hv, rv⟩ := hE.get he
  cases rv
  have R1 := hr.freezeH ho rfl (.frz od (.dK (ks.zip vs)))
  have R2 := BorS.rep (S := S) R1 .refl
  rw [stL_dL Sa] at R2
  refine thn (h _ _ _ _ σ _ _ ((hE.mono s1).setD hv (.dK upd_same hl (rr.mono s1))) R2 q pins s I1) fun b s2 ⟨H1, I2, F2, l2, s3, R3, q3, q4⟩ => ?_
  have ha := R3.fz _ _ (s3 _ _ upd_same)
  refine ⟨_, I2.unlock ha (I.nofrz hH (by exact trivial)), outH F2 a, l, fun b o e => ?_, borK_back hr ho rr hl Sa hS s3 R3 q3, q4⟩
  have hb : b ≠ a := fun z => by rw [z, nF] at e; cases e
  rw [outH_ne hb]
  exact s3 b o ((upd_ne hb).trans e)
theorem de_borD {i : Nat} (h : DE X e te) : DE X e (dBorD i te) := by
  refine ⟨?_⟩
  intro F Fr env l σ H Q hE hr ⟨S, a, ks, ds, he, ho, Sa, hS, q⟩ pins s I
  obtain ⟨vs, rr, hl, hH⟩ := (hr.lv _ _ ho).2
  have nF := (hr.lv a _ ho).1 rfl
  obtain ⟨od, I1⟩ := I.lock hH (by exact trivial)
  have s1 := same_upd (o := .frz od (.dK (ks.zip vs))) nF
  obtain ⟨v, hv, rv⟩ := hE.get he
  cases rv
  have R1 := hr.freezeH ho rfl (.frz od (.dK (ks.zip vs)))
  have R2 := BorS.rep (S := S) R1 .refl
  rw [stL_dL Sa] at R2
  refine thn (h _ _ _ _ σ _ _ ((hE.mono s1).setD hv (.dK upd_same hl (rr.mono s1))) R2 q pins s I1) fun b s2 ⟨x, H1, I2, rx, F2, d, l2, s3, rd, R3, q3, qk, q4⟩ => ?_
  have fa := s3 _ _ upd_same
  have ha := R3.fz _ _ fa
  refine ⟨x, _, I2.unlock ha (I.nofrz hH (by exact trivial)), rx, outH F2 a, d, l, fun b o e => ?_, rd.out fa qk, borK_back hr ho rr hl Sa hS s3 R3 q3, q4⟩
  have hb : b ≠ a := fun z => by rw [z, nF] at e; cases e
  rw [outH_ne hb]
  exact s3 b o ((upd_ne hb).trans e)
end
end DL

/-! list.count of a list that may be written, list.pop(i), list(range(n)) that may be written, sorted(list of texts) -/
namespace DL
open PySem PySem.Spec PyProof.Rows L2
section
variable {X : Cx} {e o : Expr} {te to : DTE} {pos apos cpos : Pos}
/-! ### count -/
/-! ### list.pop(i) -/
theorem RelDs.erase {K : PySem.W.Frag} {F : Hp} : ∀ {ds : List D} {vs : List V} (k : Nat), RelDs K F ds vs → RelDs K F (ds.eraseIdx k) (vs.eraseIdx k)
  | _, _, _, .nil => .nil
  | _, _, 0, .cons _ b => b
  | _, _, k + 1, .cons a b => .cons a (RelDs.erase k b)
/-! ### list(range(n)) that may be written -/
/-! ### sorted(list of texts) -/
def sortSs (ds : List D) (k : List D → Prop) : Prop := ∃ xs, txts ds = some xs ∧ xs.length < 64 ∧ ∀ ss : List Str, ss.Perm xs → PyProof.Rows.sortedS ss = true → k (ss.map D.str)
def kSortSLf (T : List D → LH → DK → Prop) : List D → LH → DK → Prop := fun ds l Q => match ds with
  | [.ref a] => getO l a fun o => match o with | .lst ds => sortSs ds fun ys => T ys l Q | _ => False
  | [.lst ds] => sortSs ds fun ys => T ys l Q
  | _ => False
def kSortSL : List D → LH → DK → Prop := kSortSLf fun ys l Q => Q (.lst ys) l
theorem kSortSLf_ok {T : List D → LH → DK → Prop} (hT : ∀ {F Fr : Hp} {l : LH} {H : Hp} {Q : DK} {ys : List Str} {b : Addr}, Rep X.K F Fr l H → H b = none → T (ys.map D.str) l Q → LK X.K F Fr Q (.ref b) (upd H b (.lst (ys.map V.str)))) : KCall X (rSortedS X.K) (kSortSLf T) := by
  intro F Fr l H Q ds vs Q' R rd hq q
  have go : ∀ {a : Addr} {ds : List D} {vs : List V}, SqL X.K H a vs → RelDs X.K F ds vs → sortSs ds (fun ys => T ys l Q) → rSortedS X.K [.ref a] H Q' := by
    intro a ds vs h rr ⟨xs, e1, e2, e3⟩
    obtain rfl := txts_rel rr e1
    refine ⟨a, xs, rfl, h, e2, fun ys p pm so np => ?_⟩
    exact hq _ _ (hT R np (e3 ys pm so))
  cases rd with
  | nil => exact q.elim
  | cons r1 rr =>
    cases rr with
    | cons _ _ => cases r1 <;> exact q.elim
    | nil =>
      cases r1 with
      | ref a =>
        obtain ⟨o, ho, q⟩ := q
        cases o with
        | lst ds =>
          obtain ⟨vs, rr, hH⟩ := (R.lv _ _ ho).2
          exact go (.inl (.inl hH)) rr q
        | _ => exact q.elim
      | lst h rr => exact go (.inl (.inl (R.fz _ _ h))) rr q
      | _ => exact q.elim
theorem kSortSL_ok : KCall X (rSortedS X.K) kSortSL := kSortSLf_ok fun R n q => LK.lst n R (rel_strs _) q
end
end DL

/-! a comprehension over zip of two, each a list or tuple that stays or a list that may be written, as long as it is as it was -/
namespace DL
open PySem PySem.Spec PyProof.Rows L2
def JOkV (K : PySem.W.Frag) (F : Hp) (J : It) (hold : LH → Prop) (ds : List D) : Prop := ∀ (i : Nat) F' Fr l H, Same F F' → Rep K F' Fr l H → hold l →
  (ds.length ≤ i → J.stop i H) ∧ (∀ d, ds[i]? = some d → J.go i H ∧ ∀ x H', J.yld i H x H' → ∃ F2, Same F' F2 ∧ RelD K F2 d x ∧ Rep K F2 Fr l H')
def LIV (K : PySem.W.Frag) (F Fr : Hp) (R : (LH → Prop) → List D → LH → Prop) : It → Hp → Prop := fun J H => ∃ F1 l1 hold ds, Same F F1 ∧ Rep K F1 Fr l1 H ∧ JOkV K F1 J hold ds ∧ R hold ds l1
abbrev DTIV := DSt → LH → ((LH → Prop) → List D → LH → Prop) → Prop
structure DIV (X : Cx) (tg iter : Expr) (t : DTIV) : Prop where
  run : ∀ F Fr env l σ H R, RepE X.K F env σ → Rep X.K F Fr l H → t env l R → WI X tg iter σ H (LIV X.K F Fr R)
def compV (hold : LH → Prop) (g : DTG) (tt : DTT) (te : DTE) (vs : List Nat) : List D → DSt → LH → (List D → LH → Prop) → Prop
  | [], _, l, Q => hold l ∧ Q [] l
  | d :: ds, env, l, Q => hold l ∧ wipeK vs env fun env0 => g d env0 l fun env1 l1 => tt env1 l1 fun c l2 =>
      ifB c (te env1 l2 fun r l3 => compV hold g tt te vs ds env l3 fun rs l4 => Q (r :: rs) l4) (compV hold g tt te vs ds env l2 Q)
theorem compV_at {hold : LH → Prop} {g : DTG} {tt : DTT} {te : DTE} {vs : List Nat} {ds : List D} {env : DSt} {l : LH} {Q : List D → LH → Prop} (h : compV hold g tt te vs ds env l Q) : hold l := by
  cases ds <;> exact h.1
def dLcV (ti : DTIV) (g : DTG) (tt : DTT) (te : DTE) (vs : List Nat) : DTE := fun env l Q => ti env l fun hold ds l1 => ds.length ≤ sizeLine ∧ compV hold g tt te vs ds env l1 fun rs l2 => Q (.lst rs) l2
section
variable {X : Cx} {elt tg iter : Expr} {ifs : List Expr} {scope : Scope} {own : List (Str × Nat)} {pos : Pos} {ti : DTIV} {g : DTG} {tt : DTT} {te : DTE}
theorem comp_coreV {F Fr : Hp} {env : DSt} {l : LH} {σ : St} {H : Hp} {Qf : List D → LH → Prop} {Qd : VK} {vs : List Nat} {G : TG} {TT' : TT} {TE' : TE} (he : RepE X.K F env σ) (hr : Rep X.K F Fr l H)
    (hi : DIV X tg iter ti)
    (hg : ∀ F Fr env l σ H d v Q, RepE X.K F env σ → Rep X.K F Fr l H → RelD X.K F d v → g d env l Q → G v σ H (LG X.K F Fr vs σ Q))
    (hgm : ∀ v σ H Q Q', G v σ H Q → (∀ σ H, Q σ H → Q' σ H) → G v σ H Q')
    (ht : ∀ F Fr env l σ H Q, RepE X.K F env σ → Rep X.K F Fr l H → tt env l Q → TT' σ H (LB X.K F Fr Q))
    (htm : ∀ σ H Q Q', TT' σ H Q → (∀ b H, Q b H → Q' b H) → TT' σ H Q')
    (hE : ∀ F Fr env l σ H Q, RepE X.K F env σ → Rep X.K F Fr l H → te env l Q → TE' σ H (LK X.K F Fr Q))
    (hEm : ∀ σ H Q Q', TE' σ H Q → (∀ v H, Q v H → Q' v H) → TE' σ H Q')
    (hd : ∀ F' Fr' l' H' D acc vacc, Same F F' → Fr' = upd Fr D (.lst vacc) → Fr D = none → RelDs X.K F' acc vacc → Rep X.K F' Fr' l' H' → Qf acc l' → Qd (.ref D) H')
    (q : ti env l fun hold ds l1 => ds.length ≤ sizeLine ∧ compV hold g tt te vs ds env l1 Qf) : tLc (WI X tg iter) G TT' TE' vs σ H Qd := by
  refine (hi.run F Fr env l σ H _ he hr q).mono fun J H1 ⟨F1, l1, hold, ds, s1, R1, jk, hz, q1⟩ => ?_
  intro p nD
  have nFr : Fr p = none := R1.Fr_none nD
  refine ⟨fun i m H => m = ds.length - i ∧ i ≤ ds.length ∧ ∃ F' l acc vacc, Same F1 F' ∧ Rep X.K F' (upd Fr p (.lst vacc)) l H ∧ RelDs X.K F' acc vacc ∧ acc.length ≤ i ∧ compV hold g tt te vs (ds.drop i) env l fun rs l' => Qf (acc ++ rs) l',
    ⟨_, rfl, Nat.zero_le _, F1, l1, [], [], Same.refl _, R1.take nD _, .nil, Nat.le_refl _, q1⟩, ?_⟩
  rintro i m H ⟨rfl, hi, F2, l2, acc, vacc, s2, R2, ra, hl, q2⟩
  obtain ⟨j1, j2⟩ := jk i F2 _ l2 H s2 R2 (compV_at q2)
  by_cases hlt : i < ds.length
  · rw [List.drop_eq_getElem_cons hlt] at q2
    obtain ⟨go, y⟩ := j2 ds[i] (List.getElem?_eq_getElem hlt)
    refine .inr ⟨go, fun H => ∃ F' l acc vacc, Same F1 F' ∧ Rep X.K F' (upd Fr p (.lst vacc)) l H ∧ RelDs X.K F' acc vacc ∧ acc.length ≤ i + 1 ∧ compV hold g tt te vs (ds.drop (i + 1)) env l fun rs l' => Qf (acc ++ rs) l', fun H' h => ⟨_, by omega, rfl, hlt, h⟩, fun x H' hy => ?_⟩
    obtain ⟨F3, s3, rx, R3⟩ := y x H' hy
    replace q2 := q2.2
    replace q2 : wipeK vs env _ := q2
    rw [wipeK_eq] at q2
    have he3 : RepE X.K F3 (wipeE env vs) (L2.wipe σ vs) := (((he.mono s1).mono s2).mono s3).wipe vs
    refine hgm _ _ _ _ _ (hg F3 _ _ l2 _ H' _ _ _ he3 R3 rx q2) fun σ4 H4 ⟨w4, F4, env4, l4, s4, he4, R4, q4⟩ => ?_
    refine ⟨w4.trans (wipe_wipe σ vs), ?_⟩
    refine htm _ _ _ _ (ht F4 _ env4 l4 σ4 H4 _ he4 R4 q4) fun c H5 ⟨F5, l5, s5, R5, q5⟩ => ?_
    have S5 : Same F2 F5 := s3.trans (s4.trans s5)
    cases c with
    | false =>
      exact L2.iteF ⟨F5, l5, acc, vacc, s2.trans S5, R5, ra.mono S5, Nat.le_succ_of_le hl, ifB_F q5⟩
    | true =>
      refine L2.iteT (hEm _ _ _ _ (hE F5 _ env4 l5 σ4 H5 _ (he4.mono s5) R5 (ifB_T q5)) fun v H6 ⟨F6, d6, l6, s6, r6, R6, q6⟩ => ?_)
      have S6 : Same F2 F6 := S5.trans s6
      have ra6 := ra.mono S6
      refine ⟨vacc, R6.fr p _ upd_same, ?_, F6, l6, acc ++ [d6], vacc ++ [v], s2.trans S6, R6.turn _, ra6.append (.cons r6 .nil), ?_, ?_⟩
      · rw [← ra6.length]; omega
      · rw [List.length_append]; exact Nat.succ_le_succ hl
      · have e : (fun (rs : List D) l' => Qf (acc ++ [d6] ++ rs) l') = fun rs l' => Qf (acc ++ (d6 :: rs)) l' := by
          funext rs l'
          rw [List.append_assoc]
          rfl
        rw [e]
        exact q6
  · have e : i = ds.length := by omega
    subst e
    rw [List.drop_length] at q2
    replace q2 : _ ∧ Qf (acc ++ []) l2 := q2
    rw [List.append_nil] at q2
    exact .inl ⟨j1 (Nat.le_refl _), hd F2 _ l2 H p acc vacc (s1.trans s2) rfl nFr ra R2 q2.2⟩
variable (hc : X.calm = true) (hN : X.N.Nodup) (hi : DIV X tg iter ti) (ok : BlkOk X.N X.env.scope scope own)
    (hg : ∀ (s : Shared) (H : Hp) (C : Addr) (cl : List (Str × Addr)) (fp : List Addr), DG (X.blk s H scope (compEnvC scope cl C X.env) fp) tg (own.map (·.2)) g)
    (ht : ∀ (s : Shared) (H : Hp) (C : Addr) (cl : List (Str × Addr)) (fp : List Addr), DTs (X.blk s H scope (compEnvC scope cl C X.env) fp) ifs tt)
    (he : ∀ (s : Shared) (H : Hp) (C : Addr) (cl : List (Str × Addr)) (fp : List Addr), DE (X.blk s H scope (compEnvC scope cl C X.env) fp) elt te)
include hi hg ht he hc hN ok
theorem de_lcV (hs : ∀ x, foldedSetIterable iter X.env x = pure x := by intro _; rfl) : DE X (.ListComp elt [⟨tg, iter, ifs, 0⟩] scope pos) (dLcV ti g tt te (own.map (·.2))) := by
  refine ⟨?_⟩
  intro F Fr env l σ H Q hE hr q
  refine (pe_lc (g := AG X scope tg) (tt := AT X scope ifs) (te := AE X scope elt) hc hN piW ok (fun s H0 C cl fp => ⟨fun pins s' σ' H' v u Q' I r h => h s H0 C cl fp pins s' u I r⟩) (fun s H0 C cl fp => ⟨fun pins s' σ' H' Q' I h => h s H0 C cl fp pins s' I⟩) (fun s H0 C cl fp => ⟨fun pins s' σ' H' Q' I h => h s H0 C cl fp pins s' I⟩) hs).we ?_
  exact comp_coreV hE hr hi (fun F Fr env l σ H d v Q a b c d' s H0 C cl fp => hg s H0 C cl fp F Fr env l σ H d v Q a b c d') (fun v σ H Q Q' w h s H0 C cl fp => (w s H0 C cl fp).mono h)
    (fun F Fr env l σ H Q a b c s H0 C cl fp => (ht s H0 C cl fp).w F Fr env l σ H Q a b c) (fun σ H Q Q' w h s H0 C cl fp => (w s H0 C cl fp).mono h)
    (fun F Fr env l σ H Q a b c s H0 C cl fp => he s H0 C cl fp F Fr env l σ H Q a b c) (fun σ H Q Q' w h s H0 C cl fp => (w s H0 C cl fp).mono h) (fun F' Fr' l' H' p acc vacc s e n ra R q => lc_end s e n ra R q) q
end
/-! zip -/
def seqV (x : D) (l : LH) (k : (LH → Prop) → List D → Prop) : Prop := match x with
  | .ref a => getO l a fun o => match o with | .lst ds => k (fun l => l a = some (.lst ds)) ds | _ => False
  | d => match seqOf d with | some ds => k (fun _ => True) ds | none => False
def SeqV (K : PySem.W.Frag) (F : Hp) (a : Addr) (b : Bool) (hold : LH → Prop) (ds : List D) : Prop := ∀ F' Fr l H, Same F F' → Rep K F' Fr l H → hold l → ∃ vs, ZM.SqX b K H a vs ∧ RelDs K F' ds vs
theorem seqV_ok {K : PySem.W.Frag} {F Fr H : Hp} {l : LH} {x : D} {v : V} {k : (LH → Prop) → List D → Prop} (R : Rep K F Fr l H) (rx : RelD K F x v) (q : seqV x l k) : ∃ a b hold ds, v = .ref a ∧ SeqV K F a b hold ds ∧ hold l ∧ k hold ds := by
  have fr : ∀ {d : D}, RelD K F d v → (match seqOf d with | some ds => k (fun _ => True) ds | none => False) → ∃ a b hold ds, v = .ref a ∧ SeqV K F a b hold ds ∧ hold l ∧ k hold ds := by
    intro d rd q
    cases e : seqOf d with
    | none => rw [e] at q; exact q.elim
    | some ds =>
      rw [e] at q
      obtain ⟨a, b, vs, rfl, h, r⟩ := seq_rel rd e
      exact ⟨a, b, fun _ => True, ds, rfl, fun F' Fr l H s R' _ => ⟨vs, sqX_mono (fun c o z => R'.fz c o (s c o z)) h, r.mono s⟩, trivial, q⟩
  cases x with
  | ref a =>
    obtain ⟨o, ho, q⟩ := q
    cases o with
    | lst ds =>
      cases rx
      refine ⟨a, false, _, ds, rfl, fun F' Fr' l' H' s R' h => ?_, ho, q⟩
      obtain ⟨vs, r, hH⟩ := (R'.lv a _ h).2
      exact ⟨vs, .inl (.inl hH), r⟩
    | _ => exact q.elim
  | _ => exact fr rx q
def iZipV (ta : DTA) : DTIV := fun env l R => ta env l fun ds l1 => match ds with
  | [x, y] => seqV x l1 fun h1 xs => seqV y l1 fun h2 ys => R (fun l => h1 l ∧ h2 l) (zipD xs ys) l1
  | _ => False
theorem zipD_length : ∀ ds es : List D, (zipD ds es).length = min ds.length es.length
  | [], es => by cases es <;> simp [zipD]
  | d :: ds, [] => by simp [zipD]
  | d :: ds, e :: es => by
    show (zipD ds es).length + 1 = _
    rw [zipD_length ds es, List.length_cons, List.length_cons]
    omega
theorem jok_zipV {K : PySem.W.Frag} {F : Hp} {b1 b2 : Bool} {a b : Addr} {h1 h2 : LH → Prop} {ds es : List D} (s1 : SeqV K F a b1 h1 ds) (s2 : SeqV K F b b2 h2 es) : JOkV K F (ZM.ItzM K b1 b2 a b) (fun l => h1 l ∧ h2 l) (zipD ds es) := by
  intro i F' Fr l H s R ⟨k1, k2⟩
  obtain ⟨vs, g1, r1⟩ := s1 F' Fr l H s R k1
  obtain ⟨us, g2, r2⟩ := s2 F' Fr l H s R k2
  have zl : (zipD ds es).length = min ds.length es.length := zipD_length ds es
  refine ⟨fun hi => ⟨vs, us, g1, g2, ?_⟩, fun d hd => ?_⟩
  · have e1 := r1.length
    have e2 := r2.length
    omega
  · have hi := (List.getElem?_eq_some_iff.mp hd).1
    obtain ⟨x, hx⟩ : ∃ x, ds[i]? = some x := ⟨_, List.getElem?_eq_getElem (by omega)⟩
    obtain ⟨y, hy⟩ : ∃ y, es[i]? = some y := ⟨_, List.getElem?_eq_getElem (by omega)⟩
    obtain ⟨v, hv, rv⟩ := r1.get hx
    obtain ⟨u, hu, ru⟩ := r2.get hy
    have ed : d = .tup [x, y] := by
      rw [zipD_get ds es i, hx, hy] at hd
      injection hd with hd
      exact hd.symm
    subst ed
    refine ⟨⟨vs, us, v, u, g1, g2, hv, hu⟩, fun z H' ⟨T, v', u', ez, nT, eH, y1, y2⟩ => ?_⟩
    have e1 := y1 vs g1
    rw [hv] at e1
    cases e1
    have e2 := y2 us g2
    rw [hu] at e2
    cases e2
    subst ez eH
    have nF := R.F_none nT
    have sm := same_upd (o := .tup [v, u]) nF
    exact ⟨upd F' T (.tup [v, u]), sm, .tup upd_same (.cons (rv.mono sm) (.cons (ru.mono sm) .nil)), R.laid nT _⟩
theorem div_zipV {X : Cx} {e e2 : Expr} {ta : DTA} {p pos tpos : Pos} {elts : List Expr} {kk : Nat} (hg : Gl X "zip") (hm : X.mg "zip" = none) (ha : DA X [e, e2] ta)
    (hs : starEach [e, e2] X.env = (false, eval e X.env) :: starEach [e2] X.env := by rfl) (hpl : (backTo pos (starEach [e2] X.env)).any (·.1) = false := by rfl) : DIV X (.Tuple elts kk tpos) (.Call (.Name "zip" p) [e, e2] [] pos) (iZipV ta) := by
  refine ⟨?_⟩
  intro F Fr env l σ H R he hr ht
  refine (ZM.pi_zipM hg hm paW hs hpl).wi ?_
  refine (ha F Fr env l σ H _ he hr ht).mono fun vs H1 ⟨F1, ds, l1, s1, r1, R1, q1⟩ => ?_
  cases r1 with
  | nil => exact q1.elim
  | @cons d1 v1 _ _ ra rr =>
    cases rr with
    | nil => exact q1.elim
    | @cons d2 v2 _ _ rb rr =>
      cases rr with
      | cons _ _ => exact q1.elim
      | nil =>
        have q1 : seqV d1 l1 fun h1 xs => seqV d2 l1 fun h2 ys => R (fun l => h1 l ∧ h2 l) (zipD xs ys) l1 := q1
        obtain ⟨a, b1, h1, xs, rfl, S1, k1, q2⟩ := seqV_ok R1 ra q1
        obtain ⟨a2, b2, h2, ys, rfl, S2, k2, q3⟩ := seqV_ok R1 rb q2
        obtain ⟨vs1, g1, r1⟩ := S1 F1 Fr l1 H1 (Same.refl _) R1 k1
        obtain ⟨vs2, g2, r2⟩ := S2 F1 Fr l1 H1 (Same.refl _) R1 k2
        exact ⟨a, a2, b1, b2, _, _, rfl, g1, g2, F1, l1, _, _, s1, R1, jok_zipV S1 S2, q3⟩
end DL

/-! dict(d) of a dict with plain keys: a new dict that may be written -/
namespace DL
open PySem PySem.Spec PyProof.Rows L2
section
variable {X : Cx}
def rCopyK : List V → Hp → VK → Prop := fun vs H Q => ∃ (a : Addr) (kvs : List (Key × V)), vs = [.ref a] ∧ Rd H a (.dK kvs) ∧ ∀ p, H p = none → Q (.ref p) (upd H p (.dK kvs))
theorem cr_copyK : CallR X (.type "dict") rCopyK := by
  intro pins s σ H vs us Q I r h
  obtain ⟨d, kvs, rfl, hd, q⟩ := h
  obtain ⟨u, rfl, rx⟩ := vals1 r
  obtain rfl : u = .ref d := rx
  exact d_copyOf I hd fun p s' hp I' => ⟨.ref p, _, I', rfl, q p hp⟩
def kCopyK : List D → LH → DK → Prop := fun ds l Q => match ds with
  | [.dK ks ds] => newL (.dK ks ds) l Q
  | [.ref a] => getO l a fun o => match o with | .dK ks ds => newL (.dK ks ds) l Q | _ => False
  | _ => False
theorem newK_ok {K : PySem.W.Frag} {F Fr H : Hp} {l : LH} {Q : DK} {p : Addr} {ks : List Key} {ds : List D} {vs : List V} (np : H p = none) (R : Rep K F Fr l H) (hl : ks.length = vs.length) (rr : RelDs K F ds vs) (q : newL (.dK ks ds) l Q) : LK K F Fr Q (.ref p) (upd H p (.dK (ks.zip vs))) :=
  ⟨F, .ref p, _, Same.refl F, .ref p, R.made np (show DOk K F _ p (.dK ks ds) from ⟨vs, rr, hl, upd_same⟩), q p (R.l_none np)⟩
theorem kCopyK_ok : KCall X rCopyK kCopyK := by
  intro F Fr l H Q ds vs Q' R rd hq q
  have key : ∀ {p : Addr} {ks : List Key} {ds : List D} {vs : List V}, Rd H p (.dK (ks.zip vs)) → ks.length = vs.length → RelDs X.K F ds vs → newL (.dK ks ds) l Q → rCopyK [.ref p] H Q' := by
    rintro p ks ds vs h hl rr q
    exact ⟨p, _, rfl, h, fun b nb => hq _ _ (newK_ok nb R hl rr q)⟩
  cases rd with
  | nil => exact q.elim
  | cons r1 rr =>
    cases rr with
    | cons _ _ => cases r1 <;> exact q.elim
    | nil =>
      cases r1 with
      | dK h hl rr => exact key (.inr ⟨_, R.fz _ _ h⟩) hl rr q
      | ref a =>
        obtain ⟨o, ho, q⟩ := q
        cases o with
        | dK ks ds =>
          obtain ⟨vs, rr, hl, hH⟩ := (R.lv _ _ ho).2
          exact key (.inl hH) hl rr q
        | _ => exact q.elim
      | _ => exact q.elim
end
end DL

namespace Law
open PySem PySem.Spec PyProof.Rows L2 DL
def topS (i : Nat) : Stmt := PySem.Challenge.pw_bracketwords_k76_rings_of_names.main.body.getD i (.Pass ⟨0, 0, 0, 0⟩)
abbrev s__law_folded : Stmt := topS 82
abbrev N__law_folded : List Str := ["_law_script", "_law_size", "_law_cells", "_law_k", "_law_cell"]
abbrev p__law_folded : List Str := ["_law_script", "_law_size"]
theorem sc__law_folded : FnScope N__law_folded p__law_folded (defScope s__law_folded) := ⟨rfl, rfl, rfl, by decide +kernel, rfl, by decide +kernel, by decide +kernel⟩
abbrev s__law_box : Stmt := topS 80
abbrev N__law_box : List Str := ["_law_script", "_law_k", "_law_cell"]
abbrev p__law_box : List Str := ["_law_script", "_law_k"]
theorem sc__law_box : FnScope N__law_box p__law_box (defScope s__law_box) := ⟨rfl, rfl, rfl, by decide +kernel, rfl, by decide +kernel, by decide +kernel⟩
abbrev s__law_take : Stmt := topS 81
abbrev N__law_take : List Str := ["_law_box_here", "_law_size", "_law_found", "_law_step", "_law_once", "_law_twice"]
abbrev p__law_take : List Str := ["_law_box_here", "_law_size"]
theorem sc__law_take : FnScope N__law_take p__law_take (defScope s__law_take) := ⟨rfl, rfl, rfl, by decide +kernel, rfl, by decide +kernel, by decide +kernel⟩
abbrev s__law_names : Stmt := topS 84
abbrev N__law_names : List Str := ["_law_box_here", "_law_many", "_law_letters", "_law_found", "_law_at", "_law_rest", "_law_alike", "_law_k", "_law_two", "_law_turn"]
abbrev p__law_names : List Str := ["_law_box_here", "_law_many"]
theorem sc__law_names : FnScope N__law_names p__law_names (defScope s__law_names) := ⟨rfl, rfl, rfl, by decide +kernel, rfl, by decide +kernel, by decide +kernel⟩
abbrev s_Book_init : Stmt := inClass (topS 65) 0
abbrev N_Book_init : List Str := ["self", "ground"]
abbrev p_Book_init : List Str := ["self", "ground"]
theorem sc_Book_init : FnScope N_Book_init p_Book_init (defScope s_Book_init) := ⟨rfl, rfl, rfl, by decide +kernel, rfl, by decide +kernel, by decide +kernel⟩
abbrev s_next_turnword : Stmt := topS 69
abbrev N_next_turnword : List Str := ["word", "letters", "size", "longer"]
abbrev p_next_turnword : List Str := ["word", "letters", "size"]
theorem sc_next_turnword : FnScope N_next_turnword p_next_turnword (defScope s_next_turnword) := ⟨rfl, rfl, rfl, by decide +kernel, rfl, by decide +kernel, by decide +kernel⟩
abbrev s_turnwords : Stmt := topS 70
abbrev N_turnwords : List Str := ["letters", "size", "found", "word"]
abbrev p_turnwords : List Str := ["letters", "size"]
theorem sc_turnwords : FnScope N_turnwords p_turnwords (defScope s_turnwords) := ⟨rfl, rfl, rfl, by decide +kernel, rfl, by decide +kernel, by decide +kernel⟩
abbrev s_Ground_init : Stmt := inClass (topS 78) 0
abbrev N_Ground_init : List Str := ["self", "letters", "depth", "size", "place", "word"]
abbrev p_Ground_init : List Str := ["self", "letters", "depth"]
theorem sc_Ground_init : FnScope N_Ground_init p_Ground_init (defScope s_Ground_init) := ⟨rfl, rfl, rfl, by decide +kernel, rfl, by decide +kernel, by decide +kernel⟩
abbrev s_Book_look_there : Stmt := inClass (topS 65) 1
abbrev N_Book_look_there : List Str := ["self", "name"]
abbrev p_Book_look_there : List Str := ["self", "name"]
theorem sc_Book_look_there : FnScope N_Book_look_there p_Book_look_there (defScope s_Book_look_there) := ⟨rfl, rfl, rfl, by decide +kernel, rfl, by decide +kernel, by decide +kernel⟩
abbrev s_Book_drop : Stmt := inClass (topS 65) 5
abbrev N_Book_drop : List Str := ["self", "name"]
abbrev p_Book_drop : List Str := ["self", "name"]
theorem sc_Book_drop : FnScope N_Book_drop p_Book_drop (defScope s_Book_drop) := ⟨rfl, rfl, rfl, by decide +kernel, rfl, by decide +kernel, by decide +kernel⟩
abbrev s__law_formula : Stmt := topS 85
abbrev N__law_formula : List Str := ["_law_box_here", "_law_letters", "_law_names_here", "_law_trees", "_law_k", "_law_how", "_law_tree"]
abbrev p__law_formula : List Str := ["_law_box_here", "_law_letters", "_law_names_here"]
theorem sc__law_formula : FnScope N__law_formula p__law_formula (defScope s__law_formula) := ⟨rfl, rfl, rfl, by decide +kernel, rfl, by decide +kernel, by decide +kernel⟩
abbrev s__law_parts : Stmt := topS 88
abbrev N__law_parts : List Str := ["_law_tree", "_law_part"]
abbrev p__law_parts : List Str := ["_law_tree"]
theorem sc__law_parts : FnScope N__law_parts p__law_parts (defScope s__law_parts) := ⟨rfl, rfl, rfl, by decide +kernel, rfl, by decide +kernel, by decide +kernel⟩
abbrev s__law_own : Stmt := topS 89
abbrev N__law_own : List Str := ["_law_own_here", "_law_name", "_law_found", "_law_waiting", "_law_tree"]
abbrev p__law_own : List Str := ["_law_own_here", "_law_name"]
theorem sc__law_own : FnScope N__law_own p__law_own (defScope s__law_own) := ⟨rfl, rfl, rfl, by decide +kernel, rfl, by decide +kernel, by decide +kernel⟩
abbrev s__law_ring : Stmt := topS 91
abbrev N__law_ring : List Str := ["_law_own_here", "_law_name", "_law_tree", "_law_given", "_law_rows", "_law_known", "_law_longer", "_law_row", "_law_other"]
abbrev p__law_ring : List Str := ["_law_own_here", "_law_name", "_law_tree"]
theorem sc__law_ring : FnScope N__law_ring p__law_ring (defScope s__law_ring) := ⟨rfl, rfl, rfl, by decide +kernel, rfl, by decide +kernel, by decide +kernel⟩
abbrev s__law_same : Stmt := topS 83
abbrev N__law_same : List Str := ["_law_found", "_law_due", "_law_one", "_law_other"]
abbrev p__law_same : List Str := ["_law_found", "_law_due"]
theorem sc__law_same : FnScope N__law_same p__law_same (defScope s__law_same) := ⟨rfl, rfl, rfl, by decide +kernel, rfl, by decide +kernel, by decide +kernel⟩
abbrev s_is_name : Stmt := topS 46
abbrev N_is_name : List Str := ["text", "sign"]
abbrev p_is_name : List Str := ["text"]
theorem sc_is_name : FnScope N_is_name p_is_name (defScope s_is_name) := ⟨rfl, rfl, rfl, by decide +kernel, rfl, by decide +kernel, by decide +kernel⟩
abbrev s_Reading_init : Stmt := inClass (topS 45) 0
abbrev N_Reading_init : List Str := ["self", "text"]
abbrev p_Reading_init : List Str := ["self", "text"]
theorem sc_Reading_init : FnScope N_Reading_init p_Reading_init (defScope s_Reading_init) := ⟨rfl, rfl, rfl, by decide +kernel, rfl, by decide +kernel, by decide +kernel⟩
abbrev s_Reading_sign : Stmt := inClass (topS 45) 1
abbrev N_Reading_sign : List Str := ["self"]
abbrev p_Reading_sign : List Str := ["self"]
theorem sc_Reading_sign : FnScope N_Reading_sign p_Reading_sign (defScope s_Reading_sign) := ⟨rfl, rfl, rfl, by decide +kernel, rfl, by decide +kernel, by decide +kernel⟩
abbrev s_Reading_stop : Stmt := inClass (topS 45) 2
abbrev N_Reading_stop : List Str := ["self"]
abbrev p_Reading_stop : List Str := ["self"]
theorem sc_Reading_stop : FnScope N_Reading_stop p_Reading_stop (defScope s_Reading_stop) := ⟨rfl, rfl, rfl, by decide +kernel, rfl, by decide +kernel, by decide +kernel⟩
abbrev s_Reading_take : Stmt := inClass (topS 45) 3
abbrev N_Reading_take : List Str := ["self", "sign"]
abbrev p_Reading_take : List Str := ["self", "sign"]
theorem sc_Reading_take : FnScope N_Reading_take p_Reading_take (defScope s_Reading_take) := ⟨rfl, rfl, rfl, by decide +kernel, rfl, by decide +kernel, by decide +kernel⟩
abbrev s_Reading_expr : Stmt := inClass (topS 45) 4
abbrev N_Reading_expr : List Str := ["self", "found"]
abbrev p_Reading_expr : List Str := ["self"]
theorem sc_Reading_expr : FnScope N_Reading_expr p_Reading_expr (defScope s_Reading_expr) := ⟨rfl, rfl, rfl, by decide +kernel, rfl, by decide +kernel, by decide +kernel⟩
abbrev s_is_among : Stmt := topS 44
abbrev N_is_among : List Str := ["sign", "signs"]
abbrev p_is_among : List Str := ["sign", "signs"]
theorem sc_is_among : FnScope N_is_among p_is_among (defScope s_is_among) := ⟨rfl, rfl, rfl, by decide +kernel, rfl, by decide +kernel, by decide +kernel⟩
abbrev s_Reading_number : Stmt := inClass (topS 45) 6
abbrev N_Reading_number : List Str := ["self", "sign", "figures"]
abbrev p_Reading_number : List Str := ["self"]
theorem sc_Reading_number : FnScope N_Reading_number p_Reading_number (defScope s_Reading_number) := ⟨rfl, rfl, rfl, by decide +kernel, rfl, by decide +kernel, by decide +kernel⟩
abbrev s_Reading_item : Stmt := inClass (topS 45) 5
abbrev N_Reading_item : List Str := ["self", "tree"]
abbrev p_Reading_item : List Str := ["self"]
theorem sc_Reading_item : FnScope N_Reading_item p_Reading_item (defScope s_Reading_item) := ⟨rfl, rfl, rfl, by decide +kernel, rfl, by decide +kernel, by decide +kernel⟩
abbrev s_Reading_enter : Stmt := inClass (topS 45) 9
abbrev N_Reading_enter : List Str := ["self", "sign"]
abbrev p_Reading_enter : List Str := ["self", "sign"]
theorem sc_Reading_enter : FnScope N_Reading_enter p_Reading_enter (defScope s_Reading_enter) := ⟨rfl, rfl, rfl, by decide +kernel, rfl, by decide +kernel, by decide +kernel⟩
abbrev s_Reading_leave : Stmt := inClass (topS 45) 10
abbrev N_Reading_leave : List Str := ["self", "sign"]
abbrev p_Reading_leave : List Str := ["self", "sign"]
theorem sc_Reading_leave : FnScope N_Reading_leave p_Reading_leave (defScope s_Reading_leave) := ⟨rfl, rfl, rfl, by decide +kernel, rfl, by decide +kernel, by decide +kernel⟩
abbrev s_Reading_letters : Stmt := inClass (topS 45) 8
abbrev N_Reading_letters : List Str := ["self", "begin", "found"]
abbrev p_Reading_letters : List Str := ["self"]
theorem sc_Reading_letters : FnScope N_Reading_letters p_Reading_letters (defScope s_Reading_letters) := ⟨rfl, rfl, rfl, by decide +kernel, rfl, by decide +kernel, by decide +kernel⟩
abbrev s_Reading_atom : Stmt := inClass (topS 45) 7
abbrev N_Reading_atom : List Str := ["self", "one", "other", "tree"]
abbrev p_Reading_atom : List Str := ["self"]
theorem sc_Reading_atom : FnScope N_Reading_atom p_Reading_atom (defScope s_Reading_atom) := ⟨rfl, rfl, rfl, by decide +kernel, rfl, by decide +kernel, by decide +kernel⟩
abbrev s_read_tree : Stmt := topS 47
abbrev N_read_tree : List Str := ["text", "reading", "tree"]
abbrev p_read_tree : List Str := ["text"]
theorem sc_read_tree : FnScope N_read_tree p_read_tree (defScope s_read_tree) := ⟨rfl, rfl, rfl, by decide +kernel, rfl, by decide +kernel, by decide +kernel⟩
abbrev s_leaves_of : Stmt := topS 51
abbrev N_leaves_of : List Str := ["tree", "parts", "found", "part"]
abbrev p_leaves_of : List Str := ["tree"]
theorem sc_leaves_of : FnScope N_leaves_of p_leaves_of (defScope s_leaves_of) := ⟨rfl, rfl, rfl, by decide +kernel, rfl, by decide +kernel, by decide +kernel⟩
abbrev s_Ground_letters : Stmt := inClass (topS 78) 1
abbrev N_Ground_letters : List Str := ["self"]
abbrev p_Ground_letters : List Str := ["self"]
theorem sc_Ground_letters : FnScope N_Ground_letters p_Ground_letters (defScope s_Ground_letters) := ⟨rfl, rfl, rfl, by decide +kernel, rfl, by decide +kernel, by decide +kernel⟩
abbrev s_look_letters : Stmt := topS 56
abbrev N_look_letters : List Str := ["ground", "tree", "leaf"]
abbrev p_look_letters : List Str := ["ground", "tree"]
theorem sc_look_letters : FnScope N_look_letters p_look_letters (defScope s_look_letters) := ⟨rfl, rfl, rfl, by decide +kernel, rfl, by decide +kernel, by decide +kernel⟩
abbrev s_names_in : Stmt := topS 52
abbrev N_names_in : List Str := ["tree", "leaf"]
abbrev p_names_in : List Str := ["tree"]
theorem sc_names_in : FnScope N_names_in p_names_in (defScope s_names_in) := ⟨rfl, rfl, rfl, by decide +kernel, rfl, by decide +kernel, by decide +kernel⟩
abbrev s_Book_own_needs : Stmt := inClass (topS 65) 2
abbrev N_Book_own_needs : List Str := ["self", "name"]
abbrev p_Book_own_needs : List Str := ["self", "name"]
theorem sc_Book_own_needs : FnScope N_Book_own_needs p_Book_own_needs (defScope s_Book_own_needs) := ⟨rfl, rfl, rfl, by decide +kernel, rfl, by decide +kernel, by decide +kernel⟩
abbrev s_Book_ring_by : Stmt := inClass (topS 65) 3
abbrev N_Book_ring_by : List Str := ["self", "name", "tree", "paths", "met", "longer", "path", "other"]
abbrev p_Book_ring_by : List Str := ["self", "name", "tree"]
theorem sc_Book_ring_by : FnScope N_Book_ring_by p_Book_ring_by (defScope s_Book_ring_by) := ⟨rfl, rfl, rfl, by decide +kernel, rfl, by decide +kernel, by decide +kernel⟩
abbrev s_Book_let : Stmt := inClass (topS 65) 4
abbrev N_Book_let : List Str := ["self", "name", "text", "tree", "names"]
abbrev p_Book_let : List Str := ["self", "name", "text"]
theorem sc_Book_let : FnScope N_Book_let p_Book_let (defScope s_Book_let) := ⟨rfl, rfl, rfl, by decide +kernel, rfl, by decide +kernel, by decide +kernel⟩
abbrev s__law_let : Stmt := topS 92
abbrev N__law_let : List Str := ["_law_book", "_law_name", "_law_text_here", "_law_caught", "e", "_law_others"]
abbrev p__law_let : List Str := ["_law_book", "_law_name", "_law_text_here"]
theorem sc__law_let : FnScope N__law_let p__law_let (defScope s__law_let) := ⟨rfl, rfl, rfl, by decide +kernel, rfl, by decide +kernel, by decide +kernel⟩
abbrev s__law_text : Stmt := topS 86
abbrev N__law_text : List Str := ["_law_tree", "_law_one"]
abbrev p__law_text : List Str := ["_law_tree"]
theorem sc__law_text : FnScope N__law_text p__law_text (defScope s__law_text) := ⟨rfl, rfl, rfl, by decide +kernel, rfl, by decide +kernel, by decide +kernel⟩
abbrev s__law_item_text : Stmt := topS 87
abbrev N__law_item_text : List Str := ["_law_tree"]
abbrev p__law_item_text : List Str := ["_law_tree"]
theorem sc__law_item_text : FnScope N__law_item_text p__law_item_text (defScope s__law_item_text) := ⟨rfl, rfl, rfl, by decide +kernel, rfl, by decide +kernel, by decide +kernel⟩
abbrev s_atom_text : Stmt := topS 48
abbrev N_atom_text : List Str := ["tree", "word"]
abbrev p_atom_text : List Str := ["tree"]
theorem sc_atom_text : FnScope N_atom_text p_atom_text (defScope s_atom_text) := ⟨rfl, rfl, rfl, by decide +kernel, rfl, by decide +kernel, by decide +kernel⟩
abbrev s_item_text : Stmt := topS 49
abbrev N_item_text : List Str := ["tree"]
abbrev p_item_text : List Str := ["tree"]
theorem sc_item_text : FnScope N_item_text p_item_text (defScope s_item_text) := ⟨rfl, rfl, rfl, by decide +kernel, rfl, by decide +kernel, by decide +kernel⟩
abbrev s_tree_text : Stmt := topS 50
abbrev N_tree_text : List Str := ["tree", "part"]
abbrev p_tree_text : List Str := ["tree"]
theorem sc_tree_text : FnScope N_tree_text p_tree_text (defScope s_tree_text) := ⟨rfl, rfl, rfl, by decide +kernel, rfl, by decide +kernel, by decide +kernel⟩
abbrev s_Book_text_of : Stmt := inClass (topS 65) 7
abbrev N_Book_text_of : List Str := ["self", "name"]
abbrev p_Book_text_of : List Str := ["self", "name"]
theorem sc_Book_text_of : FnScope N_Book_text_of p_Book_text_of (defScope s_Book_text_of) := ⟨rfl, rfl, rfl, by decide +kernel, rfl, by decide +kernel, by decide +kernel⟩
abbrev s_Book_names : Stmt := inClass (topS 65) 6
abbrev N_Book_names : List Str := ["self"]
abbrev p_Book_names : List Str := ["self"]
theorem sc_Book_names : FnScope N_Book_names p_Book_names (defScope s_Book_names) := ⟨rfl, rfl, rfl, by decide +kernel, rfl, by decide +kernel, by decide +kernel⟩
abbrev s_law : Stmt := topS 93
abbrev N_law : List Str := ["_law_script", "_law_cells", "_law_box_here", "_law_many", "_law_names_here", "_law_book", "_law_own_here", "_law_turn", "_law_at", "_law_name", "_law_begin", "_law_tree", "_law_due", "_law_texts", "_law_other", "_law_one"]
abbrev p_law : List Str := ["_law_script"]
theorem sc_law : FnScope N_law p_law (defScope s_law) := ⟨rfl, rfl, rfl, by decide +kernel, rfl, by decide +kernel, by decide +kernel⟩
def cl_Book : Cl := ⟨"Book", ["kept_ground", "formulas"]⟩
def cl_Ground : Cl := ⟨"Ground", ["letter_count", "depth_count", "turn_list", "place_by_word", "kept_powers"]⟩
def cl_Reading : Cl := ⟨"Reading", ["text", "at", "open_count"]⟩
abbrev si_NoName : Stmt := inClass (topS 10) 0
abbrev pi_NoName : List Str := ["self", "words", "name"]
theorem sci_NoName : FnScope pi_NoName pi_NoName (defScope si_NoName) := ⟨rfl, rfl, rfl, by decide +kernel, rfl, by decide +kernel, by decide +kernel⟩
abbrev si_BadText : Stmt := inClass (topS 8) 0
abbrev pi_BadText : List Str := ["self", "words", "at"]
theorem sci_BadText : FnScope pi_BadText pi_BadText (defScope si_BadText) := ⟨rfl, rfl, rfl, by decide +kernel, rfl, by decide +kernel, by decide +kernel⟩
abbrev si_NoLetter : Stmt := inClass (topS 9) 0
abbrev pi_NoLetter : List Str := ["self", "words", "letter"]
theorem sci_NoLetter : FnScope pi_NoLetter pi_NoLetter (defScope si_NoLetter) := ⟨rfl, rfl, rfl, by decide +kernel, rfl, by decide +kernel, by decide +kernel⟩
abbrev si_Ring : Stmt := inClass (topS 13) 0
abbrev pi_Ring : List Str := ["self", "words", "ring"]
theorem sci_Ring : FnScope pi_Ring pi_Ring (defScope si_Ring) := ⟨rfl, rfl, rfl, by decide +kernel, rfl, by decide +kernel, by decide +kernel⟩
def B__law_folded_1 : DTS :=
  (sAsg (dAdd (dIx (dVar 2) (dMod (dVar 3) (dVar 1))) (dMul (dVar 4) (dAdd (dVar 3) (dC (.int 2))))) (gIx (dVar 2) (dMod (dVar 3) (dVar 1))))
def T__law_folded_3 : DTS :=
  (sRet (dFrz (dVar 2)))
def T__law_folded_2 : DTS :=
  (sSeq (sFor (iEnum (aCons (dSl (dVar 0) (oSm (dVar 1)) (oSm (dC (.int 63)))) aNil)) (gTup 2 (gCons (gName 3) (gCons (gName 4) gNil)))
  (nS B__law_folded_1))
  (nS T__law_folded_3))
def T__law_folded : DTS :=
  (sSeq (sSet 2 (dCall kListM (aCons (dSl (dVar 0) oNo (oSm (dVar 1))) aNil)))
  (nS T__law_folded_2))
abbrev D__law_folded : DSp := fnD T__law_folded 2 3
def T__law_box_m_2 : DTS :=
  (sRet (dLstM (aCons (dMul (dCall kAbs (aCons (dVar 2) aNil)) (dCall kInt1 (aCons (dGe (dCall kAbs (aCons (dVar 2) aNil)) (dPow (dC (.int 10)) (dC (.int 18)))) aNil))) (aCons (dMod (dMul (dAdd (dAdd (dMod (dVar 2) (dC (.int 2147483629))) (dMul (dC (.int 15485863)) (dVar 1))) (dC (.int 37))) (dC (.int 48271))) (dC (.int 2147483647))) (aCons (dC (.int 0)) aNil)))))
def T__law_box_m : DTS :=
  (sSeq (sSet 2 (dIf (dTV (dLt (dVar 1) (dCall kLen (aCons (dVar 0) aNil)))) (dIx (dVar 0) (dVar 1)) (dC (.int 0))))
  (nS T__law_box_m_2))
abbrev D__law_box_m : DSp := fnD T__law_box_m 2 1
def T__law_take_6 : DTS :=
  (sRet (dMod (dDiv (dMod (dMul (dVar 5) (dAdd (dMod (dVar 5) (dC (.int 1013))) (dC (.int 3)))) (dC (.int 998244353))) (dC (.int 16))) (dVar 1)))
def T__law_take_5 : DTS :=
  (sSeq (sSet 5 (dMod (dAdd (dMul (dVar 4) (dAdd (dMod (dVar 4) (dC (.int 30011))) (dC (.int 5)))) (dIx (dVar 0) (dC (.int 2)))) (dC (.int 2147483563))))
  (nS T__law_take_6))
def T__law_take_4 : DTS :=
  (sSeq (sSet 4 (dMod (dMul (dAdd (dIx (dVar 0) (dC (.int 1))) (dMul (dC (.int 39373)) (dIx (dVar 0) (dC (.int 2))))) (dVar 3)) (dC (.int 2147483587))))
  (nS T__law_take_5))
def T__law_take_3 : DTS :=
  (sSeq (sSet 3 (dAdd (dC (.int 69621)) (dMul (dIx (dVar 0) (dC (.int 2))) (dIx (dVar 0) (dC (.int 2))))))
  (nS T__law_take_4))
def T__law_take_2 : DTS :=
  (sSeq (sAsg (dAdd (dIx (dVar 0) (dC (.int 2))) (dC (.int 1))) (gIx (dVar 0) (dC (.int 2))))
  (nS T__law_take_3))
def T__law_take : DTS :=
  (sSeq (sIf (dTV (dGt (dIx (dVar 0) (dC (.int 0))) (dC (.int 0)))) (sSeq (sAsg (dCall kDivmodW (aCons (dIx (dVar 0) (dC (.int 0))) (aCons (dVar 1) aNil))) (gTup 2 (gCons (gIx (dVar 0) (dC (.int 0))) (gCons (gName 2) gNil))))
  (sRet (dVar 2))) sNext)
  (nS T__law_take_2))
abbrev D__law_take : DSp := fnD T__law_take 2 4
def C__law_names_1 : DTE :=
  (dIx (dVar 2) (dDef D__law_take (aCons (dVar 0) (aCons (dC (.int 25)) aNil))))
def C__law_names_2 : DTE :=
  (dIx (dVar 2) (dDef D__law_take (aCons (dVar 0) (aCons (dC (.int 25)) aNil))))
def B__law_names_1 : DTS :=
  (sSeq (sIf (tNot (dTV (dVar 6))) (sSet 5 (dLc (iRg1 (aCons (dDef D__law_take (aCons (dVar 0) (aCons (dC (.int 7)) aNil))) aNil)) (gName 9) tYes (nE C__law_names_2) [9])) sNext)
  (sSeq (sSet 8 (dLst (aCons (dIx (dVar 2) (dMod (dAdd (dMul (dC (.int 3)) (dDiv (dVar 7) (dC (.int 25)))) (dC (.int 1))) (dC (.int 25)))) (aCons (dIx (dVar 2) (dMod (dAdd (dMul (dC (.int 7)) (dVar 7)) (dC (.int 3))) (dC (.int 25)))) aNil))))
  (sExpr (dMt kAppend (dVar 3) (aCons (dJoin (dC (.str "")) (dAdd (dAdd (dSl (dVar 5) oNo (oSm (dVar 4))) (dVar 8)) (dSl (dVar 5) (oSm (dVar 4)) oNo))) aNil)))))
def T__law_names_5 : DTS :=
  (sRet (dFrz (dVar 3)))
def T__law_names_4 : DTS :=
  (sSeq (sFor (iRg1 (aCons (dVar 1) aNil)) (gName 7)
  (nS B__law_names_1))
  (nS T__law_names_5))
def T__law_names_3 : DTS :=
  (sSeq (sSet 6 (dEq (dDef D__law_take (aCons (dVar 0) (aCons (dC (.int 2)) aNil))) (dC (.int 0))))
  (nS T__law_names_4))
def T__law_names_2 : DTS :=
  (sSeq (sPar 4 5 (aCons (dDef D__law_take (aCons (dVar 0) (aCons (dC (.int 7)) aNil))) (aCons (dLc (iRg1 (aCons (dDef D__law_take (aCons (dVar 0) (aCons (dC (.int 7)) aNil))) aNil)) (gName 9) tYes (nE C__law_names_1) [9]) aNil)))
  (nS T__law_names_3))
def T__law_names : DTS :=
  (sSeq (sAsg (dTup (aCons (dC (.str "abcdefghijklmnopqrstuvwxy")) (aCons (dLstM aNil) aNil))) (gTup 2 (gCons (gName 2) (gCons (gName 3) gNil))))
  (nS T__law_names_2))
abbrev D__law_names : DSp := fnD T__law_names 2 8
def T_Book_init_2 : DTS :=
  (sPutF cl_Book 1 (dVar 0) dNewK)
def T_Book_init : DTS :=
  (sSeq (sPutF cl_Book 0 (dVar 0) (dVar 1))
  (nS T_Book_init_2))
abbrev D_Book_init : DSp := fnD T_Book_init 2 0
def B_next_turnword_1 : DTS :=
  (sSet 3 (dSl (dVar 3) oNo (oSm (dNeg (dC (.int 1))))))
def T_next_turnword_4 : DTS :=
  (sRet (dAdd (dSl (dVar 3) oNo (oSm (dNeg (dC (.int 1))))) (dTup (aCons (dAdd (dIx (dVar 3) (dNeg (dC (.int 1)))) (dC (.int 1))) aNil))))
def T_next_turnword_3 : DTS :=
  (sSeq (sIf (dTV (dEq (dCall kLen (aCons (dVar 3) aNil)) (dC (.int 0)))) (sRet (dTup aNil)) sNext)
  (nS T_next_turnword_4))
def T_next_turnword_2 : DTS :=
  (sSeq (sWhile (tAnd (dTV (dGt (dCall kLen (aCons (dVar 3) aNil)) (dC (.int 0)))) (dTV (dEq (dIx (dVar 3) (dNeg (dC (.int 1)))) (dVar 1)))) (nS B_next_turnword_1))
  (nS T_next_turnword_3))
def T_next_turnword : DTS :=
  (sSeq (sSet 3 (dSl (dMul (dVar 0) (dVar 2)) oNo (oSm (dVar 2))))
  (nS T_next_turnword_2))
abbrev D_next_turnword : DSp := fnD T_next_turnword 3 1
def B_turnwords_1 : DTS :=
  (sSeq (sIf (dTV (dEq (dCall kLen (aCons (dVar 3) aNil)) (dVar 1))) (sExpr (dMt kAppend (dVar 2) (aCons (dVar 3) aNil))) sNext)
  (sSet 3 (dDef D_next_turnword (aCons (dVar 3) (aCons (dVar 0) (aCons (dVar 1) aNil))))))
def T_turnwords_4 : DTS :=
  (sRet (dFrz (dVar 2)))
def T_turnwords_3 : DTS :=
  (sSeq (sWhile (dTV (dGt (dCall kLen (aCons (dVar 3) aNil)) (dC (.int 0)))) (nS B_turnwords_1))
  (nS T_turnwords_4))
def T_turnwords_2 : DTS :=
  (sSeq (sSet 3 (dTup (aCons (dC (.int 1)) aNil)))
  (nS T_turnwords_3))
def T_turnwords : DTS :=
  (sSeq (sSet 2 (dLstM aNil))
  (nS T_turnwords_2))
abbrev D_turnwords : DSp := fnD T_turnwords 2 2
def B_Ground_init_1 : DTS :=
  (sExpr (dMt kExtend (dFld cl_Ground 2 (dVar 0)) (aCons (dDef D_turnwords (aCons (dVar 1) (aCons (dVar 3) aNil))) aNil)))
def B_Ground_init_2 : DTS :=
  (sPutD (dFld cl_Ground 3 (dVar 0)) (dVar 5) (dVar 4))
def T_Ground_init_8 : DTS :=
  (sPutF cl_Ground 4 (dVar 0) dNewK)
def T_Ground_init_7 : DTS :=
  (sSeq (sFor (iEnum (aCons (dFzF cl_Ground 2 (dVar 0)) aNil)) (gTup 2 (gCons (gName 4) (gCons (gName 5) gNil)))
  (nS B_Ground_init_2))
  (nS T_Ground_init_8))
def T_Ground_init_6 : DTS :=
  (sSeq (sPutF cl_Ground 3 (dVar 0) dNewT)
  (nS T_Ground_init_7))
def T_Ground_init_5 : DTS :=
  (sSeq (sFor (iRg2 (aCons (dC (.int 1)) (aCons (dAdd (dVar 2) (dC (.int 1))) aNil))) (gName 3)
  (nS B_Ground_init_1))
  (nS T_Ground_init_6))
def T_Ground_init_4 : DTS :=
  (sSeq (sPutF cl_Ground 2 (dVar 0) (dLstM aNil))
  (nS T_Ground_init_5))
def T_Ground_init_3 : DTS :=
  (sSeq (sPutF cl_Ground 1 (dVar 0) (dVar 2))
  (nS T_Ground_init_4))
def T_Ground_init_2 : DTS :=
  (sSeq (sPutF cl_Ground 0 (dVar 0) (dVar 1))
  (nS T_Ground_init_3))
def T_Ground_init : DTS :=
  (sSeq (sIf (tOr (tNot (dTV (dChain kLe kLe (dC (.int 1)) (dVar 1) (dC (.int 4))))) (tOr (tNot (dTV (dChain kLe kLe (dC (.int 1)) (dVar 2) (dC (.int 5))))) (dTV (dGt (dAdd (dVar 1) (dVar 2)) (dC (.int 7)))))) sNever sNext)
  (nS T_Ground_init_2))
abbrev D_Ground_init : DSp := fnD T_Ground_init 3 3
def T_Book_look_there (wx : DWish) : DTS :=
  (sIf (dTV (dNotInD (dVar 1) (dFld cl_Book 1 (dVar 0)))) (xRaise1 8 (dVar 1) wx) sNext)
abbrev D_Book_look_there : (D → LH → Prop) → DSp := fnDX T_Book_look_there 2 0
def T_Book_drop_2 (wx : DWish) : DTS :=
  (sExpr (dDPop (dFld cl_Book 1 (dVar 0)) (dVar 1)))
def T_Book_drop (wx : DWish) : DTS :=
  (sSeq (sExpr (xMeth cl_Book D_Book_look_there wx (dVar 0) (aCons (dVar 1) aNil)))
  (nS (T_Book_drop_2 wx)))
abbrev D_Book_drop : (D → LH → Prop) → DSp := fnDX T_Book_drop 2 0
def B__law_formula_1 : DTS :=
  (sSeq (sSet 5 (dDef D__law_take (aCons (dVar 0) (aCons (dC (.int 8)) aNil))))
  (sSeq (sSet 6 (dTup (aCons (dC (.str "name")) (aCons (dIx (dVar 2) (dDef D__law_take (aCons (dVar 0) (aCons (dCall kLen (aCons (dVar 2) aNil)) aNil)))) aNil))))
  (sSeq (sIf (dTV (dLt (dVar 5) (dC (.int 2)))) (sSet 6 (dTup (aCons (dC (.str "letter")) (aCons (dAdd (dC (.int 1)) (dDef D__law_take (aCons (dVar 0) (aCons (dVar 1) aNil)))) aNil)))) (sIf (dTV (dEq (dVar 5) (dC (.int 2)))) (sSet 6 (dTup (aCons (dC (.str "bracket")) (aCons (dTup (aCons (dC (.str "items")) (aCons (dTup (aCons (dVar 6) aNil)) aNil))) (aCons (dTup (aCons (dC (.str "items")) (aCons (dTup (aCons (dTup (aCons (dC (.str "letter")) (aCons (dAdd (dC (.int 1)) (dDef D__law_take (aCons (dVar 0) (aCons (dVar 1) aNil)))) aNil))) aNil)) aNil))) aNil))))) (sIf (dTV (dEq (dVar 5) (dC (.int 3)))) (sSet 6 (dTup (aCons (dC (.str "items")) (aCons (dTup (aCons (dVar 6) (aCons (dTup (aCons (dC (.str "none")) aNil)) aNil))) aNil)))) sNext)))
  (sSeq (sIf (dTV (dEq (dDef D__law_take (aCons (dVar 0) (aCons (dC (.int 3)) aNil))) (dC (.int 0)))) (sSet 6 (dTup (aCons (dC (.str "power")) (aCons (dVar 6) (aCons (dSub (dDef D__law_take (aCons (dVar 0) (aCons (dC (.int 5)) aNil))) (dC (.int 2))) aNil))))) sNext)
  (sExpr (dMt kAppend (dVar 3) (aCons (dVar 6) aNil)))))))
def T__law_formula_3 : DTS :=
  (sRet (dTup (aCons (dC (.str "items")) (aCons (dCall kTuple (aCons (dVar 3) aNil)) aNil))))
def T__law_formula_2 : DTS :=
  (sSeq (sFor (iRg1 (aCons (dAdd (dC (.int 1)) (dDef D__law_take (aCons (dVar 0) (aCons (dC (.int 3)) aNil)))) aNil)) (gName 4)
  (nS B__law_formula_1))
  (nS T__law_formula_3))
def T__law_formula : DTS :=
  (sSeq (sSet 3 (dLstM aNil))
  (nS T__law_formula_2))
abbrev D__law_formula : DSp := fnD T__law_formula 3 4
def C__law_parts_1 : DTE :=
  (dVar 1)
def T__law_parts_2 : DTS :=
  (sRet (dLc (iSeq (dSl (dVar 0) (oSm (dC (.int 1))) oNo)) (gName 1) (dTV (dIsI .tup (dVar 1))) (nE C__law_parts_1) [1]))
def T__law_parts : DTS :=
  (sSeq (sIf (dTV (dEq (dIx (dVar 0) (dC (.int 0))) (dC (.str "items")))) (sRet (dCall kListF (aCons (dIx (dVar 0) (dC (.int 1))) aNil))) sNext)
  (nS T__law_parts_2))
abbrev D__law_parts : DSp := fnD T__law_parts 1 1
def B__law_own_1 : DTS :=
  (sSeq (sSet 4 (dMt0 kPop (dVar 3)))
  (sSeq (sIf (tAnd (dTV (dEq (dIx (dVar 4) (dC (.int 0))) (dC (.str "name")))) (dTV (dNotInL (dIx (dVar 4) (dC (.int 1))) (dVar 2)))) (sExpr (dMt kAppend (dVar 2) (aCons (dIx (dVar 4) (dC (.int 1))) aNil))) sNext)
  (sExpr (dMt kExtend (dVar 3) (aCons (dDef D__law_parts (aCons (dVar 4) aNil)) aNil)))))
def T__law_own_3 : DTS :=
  (sRet (dCall kSortSL (aCons (dVar 2) aNil)))
def T__law_own_2 : DTS :=
  (sSeq (sWhile (dTV (dNe (dVar 3) (dLst aNil))) (nS B__law_own_1))
  (nS T__law_own_3))
def T__law_own : DTS :=
  (sSeq (sPar 2 3 (aCons (dLstM aNil) (aCons (dIf (dTV (dInD (dVar 1) (dVar 0))) (dLstM (aCons (dGetD (dVar 0) (dVar 1)) aNil)) (dLstM aNil)) aNil)))
  (nS T__law_own_2))
abbrev D__law_own : DSp := fnD T__law_own 2 3
def B__law_ring_1 : DTS :=
  (sSeq (sIf (dTV (dEq (dVar 8) (dVar 1))) (sRet (dAdd (dVar 7) (dLst (aCons (dVar 1) aNil)))) sNext)
  (sIf (dTV (dNotInD (dVar 8) (dVar 5))) (sSeq (sPutD (dVar 5) (dVar 8) (dC (.bl true)))
  (sExpr (dMt kAppend (dVar 6) (aCons (dAdd (dVar 7) (dLst (aCons (dVar 8) aNil))) aNil)))) sNext))
def B__law_ring_2 : DTS :=
  (sFor (iSeq (dDef D__law_own (aCons (dVar 3) (aCons (dIx (dVar 7) (dNeg (dC (.int 1)))) aNil)))) (gName 8)
  (nS B__law_ring_1))
def B__law_ring_3 : DTS :=
  (sSeq (sSet 6 (dLstM aNil))
  (sSeq (sFor (iSeq (dVar 4)) (gName 7)
  (nS B__law_ring_2))
  (sSet 4 (dFrz (dVar 6)))))
def T__law_ring_5 : DTS :=
  (sRet (dC .non))
def T__law_ring_4 : DTS :=
  (sSeq (sWhile (dTV (dNe (dVar 4) (dLst aNil))) (nS B__law_ring_3))
  (nS T__law_ring_5))
def T__law_ring_3 : DTS :=
  (sSeq (sPar 4 5 (aCons (dLst (aCons (dLst (aCons (dVar 1) aNil)) aNil)) (aCons dNewK aNil)))
  (nS T__law_ring_4))
def T__law_ring_2 : DTS :=
  (sSeq (sPutD (dVar 3) (dVar 1) (dVar 2))
  (nS T__law_ring_3))
def T__law_ring : DTS :=
  (sSeq (sSet 3 (dCall kCopyK (aCons (dVar 0) aNil)))
  (nS T__law_ring_2))
abbrev D__law_ring : DSp := fnD T__law_ring 3 6
def C__law_same_1 (D__law_same_n : DSp) : DTE :=
  (dDef D__law_same_n (aCons (dVar 2) (aCons (dVar 3) aNil)))
def T__law_same_3 (D__law_same_n : DSp) : DTS :=
  (sRet (dAnd (dIsI .int (dVar 0)) (dAnd (dEq (dIsI .bl (dVar 0)) (dIsI .bl (dVar 1))) (dEq (dVar 0) (dVar 1)))))
def T__law_same_2 (D__law_same_n : DSp) : DTS :=
  (sSeq (sIf (tOr (dTV (dIsN (dVar 1) (dC .non))) (dTV (dIsI .str (dVar 1)))) (sRet (dAnd (dEq (dIsI .str (dVar 0)) (dIsI .str (dVar 1))) (dEq (dVar 0) (dVar 1)))) sNext)
  (nS (T__law_same_3 D__law_same_n)))
def T__law_same (D__law_same_n : DSp) : DTS :=
  (sSeq (sIf (dTV (dIsI2 .lst .tup (dVar 1))) (sSeq (sIf (tOr (dTV (dNe (dIsI .lst (dVar 0)) (dIsI .lst (dVar 1)))) (dTV (dNe (dIsI .tup (dVar 0)) (dIsI .tup (dVar 1))))) (sRet (dC (.bl false))) sNext)
  (sRet (dAnd (dEq (dCall kLen (aCons (dVar 0) aNil)) (dCall kLen (aCons (dVar 1) aNil))) (dCall kAll (aCons (dLcV (iZipV (aCons (dVar 0) (aCons (dVar 1) aNil))) (gTup 2 (gCons (gName 2) (gCons (gName 3) gNil))) tYes (nE (C__law_same_1 D__law_same_n)) [2, 3]) aNil))))) sNext)
  (nS (T__law_same_2 D__law_same_n)))
def D__law_same : Nat → DSp
  | 0 => fun _ _ _ => False
  | n + 1 => fnD (T__law_same (D__law_same n)) 2 2
def C_is_name_1 : DTE :=
  (dInC (dVar 1) (dC (.str "abcdefghijklmnopqrstuvwxyz")))
def T_is_name : DTS :=
  (sRet (dAnd (dChain kLe kLe (dC (.int 2)) (dCall kLen (aCons (dVar 0) aNil)) (dC (.int 8))) (dCall kAll (aCons (dLc (iStrD (dVar 0)) (gName 1) tYes (nE C_is_name_1) [1]) aNil))))
abbrev D_is_name : DSp := fnD T_is_name 1 1
def T_Reading_init_3 : DTS :=
  (sPutF cl_Reading 2 (dVar 0) (dC (.int 0)))
def T_Reading_init_2 : DTS :=
  (sSeq (sPutF cl_Reading 1 (dVar 0) (dC (.int 0)))
  (nS T_Reading_init_3))
def T_Reading_init : DTS :=
  (sSeq (sPutF cl_Reading 0 (dVar 0) (dVar 1))
  (nS T_Reading_init_2))
abbrev D_Reading_init : DSp := fnD T_Reading_init 2 0
def T_Reading_sign : DTS :=
  (sRet (dSlS (dFld cl_Reading 0 (dVar 0)) (oSm (dFld cl_Reading 1 (dVar 0))) (oSm (dAdd (dFld cl_Reading 1 (dVar 0)) (dC (.int 1))))))
abbrev D_Reading_sign : DSp := fnD T_Reading_sign 1 0
def T_Reading_stop (wx : DWish) : DTS :=
  (xRaise1 6 (dFld cl_Reading 1 (dVar 0)) wx)
abbrev D_Reading_stop : (D → LH → Prop) → DSp := fnDX T_Reading_stop 1 0
def T_Reading_take_2 (wx : DWish) : DTS :=
  (sAugF cl_Reading 1 (dVar 0) (dC (.int 1)) kAddI)
def T_Reading_take (wx : DWish) : DTS :=
  (sSeq (sIf (dTV (dNe (dMeth0 cl_Reading D_Reading_sign (dVar 0)) (dVar 1))) (sExpr (xMeth0 cl_Reading D_Reading_stop wx (dVar 0))) sNext)
  (nS (T_Reading_take_2 wx)))
abbrev D_Reading_take : (D → LH → Prop) → DSp := fnDX T_Reading_take 2 0
def B_Reading_expr_1 (D_Reading_expr_n D_Reading_item_n D_Reading_atom_n : (D → LH → Prop) → DSp) (wx : DWish) : DTS :=
  (sSeq (sExpr (xMeth cl_Reading D_Reading_take wx (dVar 0) (aCons (dC (.str " ")) aNil)))
  (sExpr (dMt kAppend (dVar 1) (aCons (xMeth0 cl_Reading D_Reading_item_n wx (dVar 0)) aNil))))
def T_Reading_expr_3 (D_Reading_expr_n D_Reading_item_n D_Reading_atom_n : (D → LH → Prop) → DSp) (wx : DWish) : DTS :=
  (sRet (dTup (aCons (dC (.str "items")) (aCons (dCall kTuple (aCons (dVar 1) aNil)) aNil))))
def T_Reading_expr_2 (D_Reading_expr_n D_Reading_item_n D_Reading_atom_n : (D → LH → Prop) → DSp) (wx : DWish) : DTS :=
  (sSeq (sWhile (dTV (dEq (dMeth0 cl_Reading D_Reading_sign (dVar 0)) (dC (.str " ")))) (nS (B_Reading_expr_1 D_Reading_expr_n D_Reading_item_n D_Reading_atom_n wx)))
  (nS (T_Reading_expr_3 D_Reading_expr_n D_Reading_item_n D_Reading_atom_n wx)))
def T_is_among : DTS :=
  (sRet (dAnd (dNe (dVar 0) (dC (.str ""))) (dInC (dVar 0) (dVar 1))))
abbrev D_is_among : DSp := fnD T_is_among 2 0
def B_Reading_number_1 (wx : DWish) : DTS :=
  (sSeq (sAug 2 (dMeth0 cl_Reading D_Reading_sign (dVar 0)) kAdd2)
  (sExpr (xMeth cl_Reading D_Reading_take wx (dVar 0) (aCons (dMeth0 cl_Reading D_Reading_sign (dVar 0)) aNil))))
def T_Reading_number_7 (wx : DWish) : DTS :=
  (sRet (dMul (dVar 1) (dCall kIntS (aCons (dVar 2) aNil))))
def T_Reading_number_6 (wx : DWish) : DTS :=
  (sSeq (sWhile (tAnd (dTV (dNe (dVar 2) (dC (.str "0")))) (tAnd (dTV (dLt (dCall kLen (aCons (dVar 2) aNil)) (dC (.int 9)))) (dTV (dDef D_is_among (aCons (dMeth0 cl_Reading D_Reading_sign (dVar 0)) (aCons (dC (.str "0123456789")) aNil)))))) (nS (B_Reading_number_1 wx)))
  (nS (T_Reading_number_7 wx)))
def T_Reading_number_5 (wx : DWish) : DTS :=
  (sSeq (sExpr (xMeth cl_Reading D_Reading_take wx (dVar 0) (aCons (dVar 2) aNil)))
  (nS (T_Reading_number_6 wx)))
def T_Reading_number_4 (wx : DWish) : DTS :=
  (sSeq (sIf (tOr (tNot (dTV (dDef D_is_among (aCons (dVar 2) (aCons (dC (.str "0123456789")) aNil))))) (tAnd (dTV (dLt (dVar 1) (dC (.int 0)))) (dTV (dEq (dVar 2) (dC (.str "0")))))) (sExpr (xMeth0 cl_Reading D_Reading_stop wx (dVar 0))) sNext)
  (nS (T_Reading_number_5 wx)))
def T_Reading_number_3 (wx : DWish) : DTS :=
  (sSeq (sSet 2 (dMeth0 cl_Reading D_Reading_sign (dVar 0)))
  (nS (T_Reading_number_4 wx)))
def T_Reading_number_2 (wx : DWish) : DTS :=
  (sSeq (sIf (dTV (dEq (dMeth0 cl_Reading D_Reading_sign (dVar 0)) (dC (.str "-")))) (sSeq (sExpr (xMeth cl_Reading D_Reading_take wx (dVar 0) (aCons (dC (.str "-")) aNil)))
  (sSet 1 (dNeg (dC (.int 1))))) sNext)
  (nS (T_Reading_number_3 wx)))
def T_Reading_number (wx : DWish) : DTS :=
  (sSeq (sSet 1 (dC (.int 1)))
  (nS (T_Reading_number_2 wx)))
abbrev D_Reading_number : (D → LH → Prop) → DSp := fnDX T_Reading_number 1 2
def T_Reading_item_4 (D_Reading_expr_n D_Reading_item_n D_Reading_atom_n : (D → LH → Prop) → DSp) (wx : DWish) : DTS :=
  (sRet (dTup (aCons (dC (.str "power")) (aCons (dVar 1) (aCons (xMeth0 cl_Reading D_Reading_number wx (dVar 0)) aNil)))))
def T_Reading_item_3 (D_Reading_expr_n D_Reading_item_n D_Reading_atom_n : (D → LH → Prop) → DSp) (wx : DWish) : DTS :=
  (sSeq (sExpr (xMeth cl_Reading D_Reading_take wx (dVar 0) (aCons (dC (.str "^")) aNil)))
  (nS (T_Reading_item_4 D_Reading_expr_n D_Reading_item_n D_Reading_atom_n wx)))
def T_Reading_item_2 (D_Reading_expr_n D_Reading_item_n D_Reading_atom_n : (D → LH → Prop) → DSp) (wx : DWish) : DTS :=
  (sSeq (sIf (dTV (dNe (dMeth0 cl_Reading D_Reading_sign (dVar 0)) (dC (.str "^")))) (sRet (dVar 1)) sNext)
  (nS (T_Reading_item_3 D_Reading_expr_n D_Reading_item_n D_Reading_atom_n wx)))
def T_Reading_enter_3 (wx : DWish) : DTS :=
  (sAugF cl_Reading 2 (dVar 0) (dC (.int 1)) kAddI)
def T_Reading_enter_2 (wx : DWish) : DTS :=
  (sSeq (sExpr (xMeth cl_Reading D_Reading_take wx (dVar 0) (aCons (dVar 1) aNil)))
  (nS (T_Reading_enter_3 wx)))
def T_Reading_enter (wx : DWish) : DTS :=
  (sSeq (sIf (dTV (dEq (dFld cl_Reading 2 (dVar 0)) (dC (.int 20)))) (sExpr (xMeth0 cl_Reading D_Reading_stop wx (dVar 0))) sNext)
  (nS (T_Reading_enter_2 wx)))
abbrev D_Reading_enter : (D → LH → Prop) → DSp := fnDX T_Reading_enter 2 0
def T_Reading_leave_2 (wx : DWish) : DTS :=
  (sAugF cl_Reading 2 (dVar 0) (dC (.int 1)) kSubI)
def T_Reading_leave (wx : DWish) : DTS :=
  (sSeq (sExpr (xMeth cl_Reading D_Reading_take wx (dVar 0) (aCons (dVar 1) aNil)))
  (nS (T_Reading_leave_2 wx)))
abbrev D_Reading_leave : (D → LH → Prop) → DSp := fnDX T_Reading_leave 2 0
def B_Reading_letters_1 (wx : DWish) : DTS :=
  (sExpr (xMeth cl_Reading D_Reading_take wx (dVar 0) (aCons (dMeth0 cl_Reading D_Reading_sign (dVar 0)) aNil)))
def T_Reading_letters_6 (wx : DWish) : DTS :=
  (sRet (dTup (aCons (dC (.str "letter")) (aCons (dAdd (dIdxS (dC (.str "abcd")) (dVar 2)) (dC (.int 1))) aNil))))
def T_Reading_letters_5 (wx : DWish) : DTS :=
  (sSeq (sIf (tNot (dTV (dDef D_is_among (aCons (dVar 2) (aCons (dC (.str "abcd")) aNil))))) (sExpr (xMeth0 cl_Reading D_Reading_stop wx (dVar 0))) sNext)
  (nS (T_Reading_letters_6 wx)))
def T_Reading_letters_4 (wx : DWish) : DTS :=
  (sSeq (sIf (dTV (dDef D_is_name (aCons (dVar 2) aNil))) (sRet (dTup (aCons (dC (.str "name")) (aCons (dVar 2) aNil)))) sNext)
  (nS (T_Reading_letters_5 wx)))
def T_Reading_letters_3 (wx : DWish) : DTS :=
  (sSeq (sSet 2 (dSlS (dFld cl_Reading 0 (dVar 0)) (oSm (dVar 1)) (oSm (dFld cl_Reading 1 (dVar 0)))))
  (nS (T_Reading_letters_4 wx)))
def T_Reading_letters_2 (wx : DWish) : DTS :=
  (sSeq (sWhile (tAnd (dTV (dLt (dSub (dFld cl_Reading 1 (dVar 0)) (dVar 1)) (dC (.int 8)))) (dTV (dDef D_is_among (aCons (dMeth0 cl_Reading D_Reading_sign (dVar 0)) (aCons (dC (.str "abcdefghijklmnopqrstuvwxyz")) aNil))))) (nS (B_Reading_letters_1 wx)))
  (nS (T_Reading_letters_3 wx)))
def T_Reading_letters (wx : DWish) : DTS :=
  (sSeq (sSet 1 (dFld cl_Reading 1 (dVar 0)))
  (nS (T_Reading_letters_2 wx)))
abbrev D_Reading_letters : (D → LH → Prop) → DSp := fnDX T_Reading_letters 1 2
def T_Reading_atom_4 (D_Reading_expr_n D_Reading_item_n D_Reading_atom_n : (D → LH → Prop) → DSp) (wx : DWish) : DTS :=
  (sRet (xMeth0 cl_Reading D_Reading_letters wx (dVar 0)))
def T_Reading_atom_3 (D_Reading_expr_n D_Reading_item_n D_Reading_atom_n : (D → LH → Prop) → DSp) (wx : DWish) : DTS :=
  (sSeq (sIf (dTV (dEq (dMeth0 cl_Reading D_Reading_sign (dVar 0)) (dC (.str "(")))) (sSeq (sExpr (xMeth cl_Reading D_Reading_enter wx (dVar 0) (aCons (dC (.str "(")) aNil)))
  (sSeq (sSet 3 (xMeth0 cl_Reading D_Reading_expr_n wx (dVar 0)))
  (sSeq (sExpr (xMeth cl_Reading D_Reading_leave wx (dVar 0) (aCons (dC (.str ")")) aNil)))
  (sRet (dVar 3))))) sNext)
  (nS (T_Reading_atom_4 D_Reading_expr_n D_Reading_item_n D_Reading_atom_n wx)))
def T_Reading_atom_2 (D_Reading_expr_n D_Reading_item_n D_Reading_atom_n : (D → LH → Prop) → DSp) (wx : DWish) : DTS :=
  (sSeq (sIf (dTV (dEq (dMeth0 cl_Reading D_Reading_sign (dVar 0)) (dC (.str "[")))) (sSeq (sExpr (xMeth cl_Reading D_Reading_enter wx (dVar 0) (aCons (dC (.str "[")) aNil)))
  (sSeq (sSet 1 (xMeth0 cl_Reading D_Reading_expr_n wx (dVar 0)))
  (sSeq (sExpr (xMeth cl_Reading D_Reading_take wx (dVar 0) (aCons (dC (.str ",")) aNil)))
  (sSeq (sExpr (xMeth cl_Reading D_Reading_take wx (dVar 0) (aCons (dC (.str " ")) aNil)))
  (sSeq (sSet 2 (xMeth0 cl_Reading D_Reading_expr_n wx (dVar 0)))
  (sSeq (sExpr (xMeth cl_Reading D_Reading_leave wx (dVar 0) (aCons (dC (.str "]")) aNil)))
  (sRet (dTup (aCons (dC (.str "bracket")) (aCons (dVar 1) (aCons (dVar 2) aNil))))))))))) sNext)
  (nS (T_Reading_atom_3 D_Reading_expr_n D_Reading_item_n D_Reading_atom_n wx)))
def T_Reading_expr (D_Reading_expr_n D_Reading_item_n D_Reading_atom_n : (D → LH → Prop) → DSp) (wx : DWish) : DTS :=
  (sSeq (sSet 1 (dLstM (aCons (xMeth0 cl_Reading D_Reading_item_n wx (dVar 0)) aNil)))
  (nS (T_Reading_expr_2 D_Reading_expr_n D_Reading_item_n D_Reading_atom_n wx)))
def T_Reading_item (D_Reading_expr_n D_Reading_item_n D_Reading_atom_n : (D → LH → Prop) → DSp) (wx : DWish) : DTS :=
  (sSeq (sSet 1 (xMeth0 cl_Reading D_Reading_atom_n wx (dVar 0)))
  (nS (T_Reading_item_2 D_Reading_expr_n D_Reading_item_n D_Reading_atom_n wx)))
def T_Reading_atom (D_Reading_expr_n D_Reading_item_n D_Reading_atom_n : (D → LH → Prop) → DSp) (wx : DWish) : DTS :=
  (sSeq (sIf (dTV (dEq (dMeth0 cl_Reading D_Reading_sign (dVar 0)) (dC (.str "1")))) (sSeq (sExpr (xMeth cl_Reading D_Reading_take wx (dVar 0) (aCons (dC (.str "1")) aNil)))
  (sRet (dTup (aCons (dC (.str "none")) aNil)))) sNext)
  (nS (T_Reading_atom_2 D_Reading_expr_n D_Reading_item_n D_Reading_atom_n wx)))
def G_Reading_expr : Nat → ((D → LH → Prop) → DSp) × ((D → LH → Prop) → DSp) × ((D → LH → Prop) → DSp)
  | 0 => (fun _ _ _ _ => False, fun _ _ _ _ => False, fun _ _ _ _ => False)
  | n + 1 => (fnDX (T_Reading_expr (G_Reading_expr n).1 (G_Reading_expr n).2.1 (G_Reading_expr n).2.2) 1 1, fnDX (T_Reading_item (G_Reading_expr n).1 (G_Reading_expr n).2.1 (G_Reading_expr n).2.2) 1 1, fnDX (T_Reading_atom (G_Reading_expr n).1 (G_Reading_expr n).2.1 (G_Reading_expr n).2.2) 1 3)
abbrev D_Reading_expr (n : Nat) : (D → LH → Prop) → DSp := (G_Reading_expr n).1
abbrev D_Reading_item (n : Nat) : (D → LH → Prop) → DSp := (G_Reading_expr n).2.1
abbrev D_Reading_atom (n : Nat) : (D → LH → Prop) → DSp := (G_Reading_expr n).2.2
def T_read_tree_4 (wx : DWish) : DTS :=
  (sRet (dVar 2))
def T_read_tree_3 (wx : DWish) : DTS :=
  (sSeq (sIf (dTV (dLt (dFld cl_Reading 1 (dVar 1)) (dCall kLen (aCons (dVar 0) aNil)))) (sExpr (xMeth0 cl_Reading D_Reading_stop wx (dVar 1))) sNext)
  (nS (T_read_tree_4 wx)))
def T_read_tree_2 (wx : DWish) : DTS :=
  (sSeq (sSet 2 (xMeth0 cl_Reading (D_Reading_expr 70) wx (dVar 1)))
  (nS (T_read_tree_3 wx)))
def T_read_tree (wx : DWish) : DTS :=
  (sSeq (sSet 1 (dMake cl_Reading D_Reading_init (aCons (dVar 0) aNil)))
  (nS (T_read_tree_2 wx)))
abbrev D_read_tree : (D → LH → Prop) → DSp := fnDX T_read_tree 1 2
def B_leaves_of_1 (D_leaves_of_n : DSp) : DTS :=
  (sExpr (dMt kExtend (dVar 2) (aCons (dDef D_leaves_of_n (aCons (dVar 3) aNil)) aNil)))
def T_leaves_of_7 (D_leaves_of_n : DSp) : DTS :=
  (sRet (dFrz (dVar 2)))
def T_leaves_of_6 (D_leaves_of_n : DSp) : DTS :=
  (sSeq (sFor (iSeq (dVar 1)) (gName 3)
  (nS (B_leaves_of_1 D_leaves_of_n)))
  (nS (T_leaves_of_7 D_leaves_of_n)))
def T_leaves_of_5 (D_leaves_of_n : DSp) : DTS :=
  (sSeq (sSet 2 (dLstM aNil))
  (nS (T_leaves_of_6 D_leaves_of_n)))
def T_leaves_of_4 (D_leaves_of_n : DSp) : DTS :=
  (sSeq (sIf (dTV (dEq (dIx (dVar 0) (dC (.int 0))) (dC (.str "items")))) (sSet 1 (dCall kListF (aCons (dIx (dVar 0) (dC (.int 1))) aNil))) (sIf (dTV (dEq (dIx (dVar 0) (dC (.int 0))) (dC (.str "power")))) (sSet 1 (dLst (aCons (dIx (dVar 0) (dC (.int 1))) aNil))) sNext))
  (nS (T_leaves_of_5 D_leaves_of_n)))
def T_leaves_of_3 (D_leaves_of_n : DSp) : DTS :=
  (sSeq (sSet 1 (dCall kListF (aCons (dSl (dVar 0) (oSm (dC (.int 1))) oNo) aNil)))
  (nS (T_leaves_of_4 D_leaves_of_n)))
def T_leaves_of_2 (D_leaves_of_n : DSp) : DTS :=
  (sSeq (sIf (dTV (dEq (dIx (dVar 0) (dC (.int 0))) (dC (.str "none")))) (sRet (dLst aNil)) sNext)
  (nS (T_leaves_of_3 D_leaves_of_n)))
def T_leaves_of (D_leaves_of_n : DSp) : DTS :=
  (sSeq (sIf (dTV (dInTu (dIx (dVar 0) (dC (.int 0))) (dTup (aCons (dC (.str "letter")) (aCons (dC (.str "name")) aNil))))) (sRet (dLst (aCons (dVar 0) aNil))) sNext)
  (nS (T_leaves_of_2 D_leaves_of_n)))
def D_leaves_of : Nat → DSp
  | 0 => fun _ _ _ => False
  | n + 1 => fnD (T_leaves_of (D_leaves_of n)) 1 3
def T_Ground_letters : DTS :=
  (sRet (dFld cl_Ground 0 (dVar 0)))
abbrev D_Ground_letters : DSp := fnD T_Ground_letters 1 0
def B_look_letters_1 (wx : DWish) : DTS :=
  (sIf (tAnd (dTV (dEq (dIx (dVar 2) (dC (.int 0))) (dC (.str "letter")))) (dTV (dGt (dIx (dVar 2) (dC (.int 1))) (dMeth0 cl_Ground D_Ground_letters (dVar 0))))) (xRaise1 7 (dIx (dVar 2) (dC (.int 1))) wx) sNext)
def T_look_letters (wx : DWish) : DTS :=
  (sFor (iSeq (dDef (D_leaves_of 100) (aCons (dVar 1) aNil))) (gName 2)
  (nS (B_look_letters_1 wx)))
abbrev D_look_letters : (D → LH → Prop) → DSp := fnDX T_look_letters 2 1
def C_names_in_1 : DTE :=
  (dIx (dVar 1) (dC (.int 1)))
def T_names_in : DTS :=
  (sRet (dSortSetS (dLc (iSeq (dDef (D_leaves_of 100) (aCons (dVar 0) aNil))) (gName 1) (dTV (dEq (dIx (dVar 1) (dC (.int 0))) (dC (.str "name")))) (nE C_names_in_1) [1])))
abbrev D_names_in : DSp := fnD T_names_in 1 1
def C_Book_ring_by_1 : DTE :=
  (dLst (aCons (dVar 1) (aCons (dVar 7) aNil)))
def T_Book_own_needs_2 : DTS :=
  (sRet (dDef D_names_in (aCons (dGetD (dFld cl_Book 1 (dVar 0)) (dVar 1)) aNil)))
def T_Book_own_needs : DTS :=
  (sSeq (sIf (dTV (dNotInD (dVar 1) (dFld cl_Book 1 (dVar 0)))) (sRet (dLst aNil)) sNext)
  (nS T_Book_own_needs_2))
abbrev D_Book_own_needs : DSp := fnD T_Book_own_needs 2 0
def C_Book_ring_by_2 : DTE :=
  (dAdd (dVar 6) (dLst (aCons (dVar 7) aNil)))
def B_Book_ring_by_1 : DTS :=
  (sSeq (sIf (dTV (dEq (dIx (dVar 6) (dNeg (dC (.int 1)))) (dVar 1))) (sRet (dVar 6)) sNext)
  (sIf (dTV (dNotInD (dIx (dVar 6) (dNeg (dC (.int 1)))) (dVar 4))) (sSeq (sPutD (dVar 4) (dIx (dVar 6) (dNeg (dC (.int 1)))) (dC (.bl true)))
  (sExpr (dMt kExtend (dVar 5) (aCons (dLc (iSeq (dMeth cl_Book D_Book_own_needs (dVar 0) (aCons (dIx (dVar 6) (dNeg (dC (.int 1)))) aNil))) (gName 7) tYes (nE C_Book_ring_by_2) [7]) aNil)))) sNext))
def B_Book_ring_by_2 : DTS :=
  (sSeq (sSet 5 (dLstM aNil))
  (sSeq (sFor (iSeq (dVar 3)) (gName 6)
  (nS B_Book_ring_by_1))
  (sSet 3 (dFrz (dVar 5)))))
def T_Book_ring_by_4 : DTS :=
  (sRet (dC .non))
def T_Book_ring_by_3 : DTS :=
  (sSeq (sWhile (dTV (dGt (dCall kLen (aCons (dVar 3) aNil)) (dC (.int 0)))) (nS B_Book_ring_by_2))
  (nS T_Book_ring_by_4))
def T_Book_ring_by_2 : DTS :=
  (sSeq (sSet 4 dNewK)
  (nS T_Book_ring_by_3))
def T_Book_ring_by : DTS :=
  (sSeq (sSet 3 (dLc (iSeq (dDef D_names_in (aCons (dVar 2) aNil))) (gName 7) tYes (nE C_Book_ring_by_1) [7]))
  (nS T_Book_ring_by_2))
abbrev D_Book_ring_by : DSp := fnD T_Book_ring_by 3 5
def T_Book_let_6 (wx : DWish) : DTS :=
  (sPutD (dFld cl_Book 1 (dVar 0)) (dVar 1) (dVar 3))
def T_Book_let_5 (wx : DWish) : DTS :=
  (sSeq (sIf (dTV (dNotN (dVar 4) (dC .non))) (xRaise1 11 (dVar 4) wx) sNext)
  (nS (T_Book_let_6 wx)))
def T_Book_let_4 (wx : DWish) : DTS :=
  (sSeq (sSet 4 (dMeth cl_Book D_Book_ring_by (dVar 0) (aCons (dVar 1) (aCons (dVar 3) aNil))))
  (nS (T_Book_let_5 wx)))
def T_Book_let_3 (wx : DWish) : DTS :=
  (sSeq (sExpr (xDef D_look_letters wx (aCons (dFld cl_Book 0 (dVar 0)) (aCons (dVar 3) aNil))))
  (nS (T_Book_let_4 wx)))
def T_Book_let_2 (wx : DWish) : DTS :=
  (sSeq (sSet 3 (xDef D_read_tree wx (aCons (dVar 2) aNil)))
  (nS (T_Book_let_3 wx)))
def T_Book_let (wx : DWish) : DTS :=
  (sSeq (sIf (tNot (dTV (dDef D_is_name (aCons (dVar 1) aNil)))) (xRaise 10 wx) sNext)
  (nS (T_Book_let_2 wx)))
abbrev D_Book_let : (D → LH → Prop) → DSp := fnDX T_Book_let 3 2
def T__law_let_6 (wx : DWish) : DTS :=
  (sRet (dFldX 11 (dVar 3)))
def T__law_let_5 (wx : DWish) : DTS :=
  (sSeq (sIf (tOr (dTV (dVar 5)) (tOr (dTV (dIsX [(6, false), (7, false), (8, false), (9, true), (10, false), (11, false)] (dVar 3))) (tNot (dTV (dIsX [(6, false), (7, false), (8, false), (9, false), (10, false), (11, true)] (dVar 3)))))) (sRet (dLst (aCons (dC (.str "other")) aNil))) sNext)
  (nS (T__law_let_6 wx)))
def T__law_let_4 (wx : DWish) : DTS :=
  (sSeq (sSet 5 (dIsX [(6, true), (7, true), (8, true), (9, false), (10, true), (11, false)] (dVar 3)))
  (nS (T__law_let_5 wx)))
def T__law_let_3 (wx : DWish) : DTS :=
  (sSeq (sIf (dTV (dIsN (dVar 3) (dC .non))) (sRet (dC .non)) sNext)
  (nS (T__law_let_4 wx)))
def T__law_let_2 (wx : DWish) : DTS :=
  (sSeq (xTry [(6, true), (7, true), (8, true), (9, true), (10, true), (11, true)] 4 (fun wx => (sExpr (xMeth cl_Book D_Book_let wx (dVar 0) (aCons (dVar 1) (aCons (dVar 2) aNil))))) (sSet 3 (dVar 4)) wx)
  (nS (T__law_let_3 wx)))
def T__law_let (wx : DWish) : DTS :=
  (sSeq (sSet 3 (dC .non))
  (nS (T__law_let_2 wx)))
abbrev D__law_let : (D → LH → Prop) → DSp := fnDX T__law_let 3 3
def C__law_text_1 (D__law_text_n D__law_item_text_n : DSp) : DTE :=
  (dDef D__law_item_text_n (aCons (dVar 1) aNil))
def T__law_item_text_5 (D__law_text_n D__law_item_text_n : DSp) : DTS :=
  (sRet (dGetD (dFz 1 (dDispK (pCons (dC (.str "name")) (dIx (dVar 0) (dNeg (dC (.int 1)))) (pCons (dC (.str "none")) (dC (.str "1")) pNil)))) (dIx (dVar 0) (dC (.int 0)))))
def T__law_item_text_4 (D__law_text_n D__law_item_text_n : DSp) : DTS :=
  (sSeq (sIf (dTV (dEq (dIx (dVar 0) (dC (.int 0))) (dC (.str "items")))) (sRet (dAdd (dAdd (dC (.str "(")) (dDef D__law_text_n (aCons (dVar 0) aNil))) (dC (.str ")")))) sNext)
  (nS (T__law_item_text_5 D__law_text_n D__law_item_text_n)))
def T__law_item_text_3 (D__law_text_n D__law_item_text_n : DSp) : DTS :=
  (sSeq (sIf (dTV (dEq (dIx (dVar 0) (dC (.int 0))) (dC (.str "bracket")))) (sRet (dAdd (dAdd (dAdd (dAdd (dC (.str "[")) (dDef D__law_text_n (aCons (dIx (dVar 0) (dC (.int 1))) aNil))) (dC (.str ", "))) (dDef D__law_text_n (aCons (dIx (dVar 0) (dC (.int 2))) aNil))) (dC (.str "]")))) sNext)
  (nS (T__law_item_text_4 D__law_text_n D__law_item_text_n)))
def T__law_item_text_2 (D__law_text_n D__law_item_text_n : DSp) : DTS :=
  (sSeq (sIf (dTV (dEq (dIx (dVar 0) (dC (.int 0))) (dC (.str "letter")))) (sRet (dIx (dC (.str "abcd")) (dSub (dIx (dVar 0) (dC (.int 1))) (dC (.int 1))))) sNext)
  (nS (T__law_item_text_3 D__law_text_n D__law_item_text_n)))
def T__law_text (D__law_text_n D__law_item_text_n : DSp) : DTS :=
  (sRet (dJoin (dC (.str " ")) (dLc (iSeq (dIx (dVar 0) (dC (.int 1)))) (gName 1) tYes (nE (C__law_text_1 D__law_text_n D__law_item_text_n)) [1])))
def T__law_item_text (D__law_text_n D__law_item_text_n : DSp) : DTS :=
  (sSeq (sIf (dTV (dEq (dIx (dVar 0) (dC (.int 0))) (dC (.str "power")))) (sRet (dAdd (dAdd (dDef D__law_item_text_n (aCons (dIx (dVar 0) (dC (.int 1))) aNil)) (dC (.str "^"))) (dCall kStr2 (aCons (dIx (dVar 0) (dC (.int 2))) aNil)))) sNext)
  (nS (T__law_item_text_2 D__law_text_n D__law_item_text_n)))
def G__law_text : Nat → (DSp) × (DSp)
  | 0 => (fun _ _ _ => False, fun _ _ _ => False)
  | n + 1 => (fnD (T__law_text (G__law_text n).1 (G__law_text n).2) 1 1, fnD (T__law_item_text (G__law_text n).1 (G__law_text n).2) 1 0)
abbrev D__law_text (n : Nat) : DSp := (G__law_text n).1
abbrev D__law_item_text (n : Nat) : DSp := (G__law_text n).2
def C_law_1 : DTE :=
  (dTup (aCons (dVar 15) (aCons (dDef (D__law_text 70) (aCons (dGetD (dVar 6) (dVar 15)) aNil)) aNil)))
def T_atom_text_6 (D_atom_text_n D_item_text_n D_tree_text_n : DSp) : DTS :=
  (sRet (dAdd (dAdd (dC (.str "(")) (dDef D_tree_text_n (aCons (dVar 0) aNil))) (dC (.str ")"))))
def T_atom_text_5 (D_atom_text_n D_item_text_n D_tree_text_n : DSp) : DTS :=
  (sSeq (sIf (dTV (dEq (dVar 1) (dC (.str "bracket")))) (sRet (dAdd (dAdd (dAdd (dAdd (dC (.str "[")) (dDef D_tree_text_n (aCons (dIx (dVar 0) (dC (.int 1))) aNil))) (dC (.str ", "))) (dDef D_tree_text_n (aCons (dIx (dVar 0) (dC (.int 2))) aNil))) (dC (.str "]")))) sNext)
  (nS (T_atom_text_6 D_atom_text_n D_item_text_n D_tree_text_n)))
def T_atom_text_4 (D_atom_text_n D_item_text_n D_tree_text_n : DSp) : DTS :=
  (sSeq (sIf (dTV (dEq (dVar 1) (dC (.str "none")))) (sRet (dC (.str "1"))) sNext)
  (nS (T_atom_text_5 D_atom_text_n D_item_text_n D_tree_text_n)))
def T_atom_text_3 (D_atom_text_n D_item_text_n D_tree_text_n : DSp) : DTS :=
  (sSeq (sIf (dTV (dEq (dVar 1) (dC (.str "name")))) (sRet (dIx (dVar 0) (dC (.int 1)))) sNext)
  (nS (T_atom_text_4 D_atom_text_n D_item_text_n D_tree_text_n)))
def T_atom_text_2 (D_atom_text_n D_item_text_n D_tree_text_n : DSp) : DTS :=
  (sSeq (sIf (dTV (dEq (dVar 1) (dC (.str "letter")))) (sRet (dIx (dC (.str "abcd")) (dSub (dIx (dVar 0) (dC (.int 1))) (dC (.int 1))))) sNext)
  (nS (T_atom_text_3 D_atom_text_n D_item_text_n D_tree_text_n)))
def T_item_text_2 (D_atom_text_n D_item_text_n D_tree_text_n : DSp) : DTS :=
  (sRet (dDef D_atom_text_n (aCons (dVar 0) aNil)))
def C_tree_text_1 (D_atom_text_n D_item_text_n D_tree_text_n : DSp) : DTE :=
  (dDef D_item_text_n (aCons (dVar 1) aNil))
def T_atom_text (D_atom_text_n D_item_text_n D_tree_text_n : DSp) : DTS :=
  (sSeq (sSet 1 (dIx (dVar 0) (dC (.int 0))))
  (nS (T_atom_text_2 D_atom_text_n D_item_text_n D_tree_text_n)))
def T_item_text (D_atom_text_n D_item_text_n D_tree_text_n : DSp) : DTS :=
  (sSeq (sIf (dTV (dEq (dIx (dVar 0) (dC (.int 0))) (dC (.str "power")))) (sRet (dAdd (dAdd (dDef D_atom_text_n (aCons (dIx (dVar 0) (dC (.int 1))) aNil)) (dC (.str "^"))) (dCall kStr2 (aCons (dIx (dVar 0) (dC (.int 2))) aNil)))) sNext)
  (nS (T_item_text_2 D_atom_text_n D_item_text_n D_tree_text_n)))
def T_tree_text (D_atom_text_n D_item_text_n D_tree_text_n : DSp) : DTS :=
  (sRet (dJoin (dC (.str " ")) (dLc (iSeq (dIx (dVar 0) (dC (.int 1)))) (gName 1) tYes (nE (C_tree_text_1 D_atom_text_n D_item_text_n D_tree_text_n)) [1])))
def G_atom_text : Nat → (DSp) × (DSp) × (DSp)
  | 0 => (fun _ _ _ => False, fun _ _ _ => False, fun _ _ _ => False)
  | n + 1 => (fnD (T_atom_text (G_atom_text n).1 (G_atom_text n).2.1 (G_atom_text n).2.2) 1 1, fnD (T_item_text (G_atom_text n).1 (G_atom_text n).2.1 (G_atom_text n).2.2) 1 0, fnD (T_tree_text (G_atom_text n).1 (G_atom_text n).2.1 (G_atom_text n).2.2) 1 1)
abbrev D_atom_text (n : Nat) : DSp := (G_atom_text n).1
abbrev D_item_text (n : Nat) : DSp := (G_atom_text n).2.1
abbrev D_tree_text (n : Nat) : DSp := (G_atom_text n).2.2
def T_Book_text_of_2 (wx : DWish) : DTS :=
  (sRet (dDef (D_tree_text 70) (aCons (dGetD (dFld cl_Book 1 (dVar 0)) (dVar 1)) aNil)))
def T_Book_text_of (wx : DWish) : DTS :=
  (sSeq (sExpr (xMeth cl_Book D_Book_look_there wx (dVar 0) (aCons (dVar 1) aNil)))
  (nS (T_Book_text_of_2 wx)))
abbrev D_Book_text_of : (D → LH → Prop) → DSp := fnDX T_Book_text_of 2 0
def C_law_2 : DTE :=
  (dNe (dMeth cl_Book (D_Book_text_of fun _ _ => False) (dVar 5) (aCons (dVar 15) aNil)) (dGetD (dVar 13) (dVar 15)))
def T_Book_names : DTS :=
  (sRet (dCall kSortDK (aCons (dFld cl_Book 1 (dVar 0)) aNil)))
abbrev D_Book_names : DSp := fnD T_Book_names 1 0
def B_law_1 : DTS :=
  (sSeq (sSet 8 (dDef D__law_take (aCons (dVar 2) (aCons (dVar 3) aNil))))
  (sSeq (sSet 9 (dIx (dVar 4) (dVar 8)))
  (sSeq (sIf (tAnd (dTV (dInD (dVar 9) (dVar 6))) (dTV (dEq (dDef D__law_take (aCons (dVar 2) (aCons (dC (.int 8)) aNil))) (dC (.int 0))))) (sSeq (sExpr (dMeth cl_Book (D_Book_drop fun _ _ => False) (dVar 5) (aCons (dVar 9) aNil)))
  (sExpr (dDPop (dVar 6) (dVar 9)))) sNext)
  (sSeq (sSet 10 (dCall kMax (aCons (dC (.int 0)) (aCons (dCall kMin (aCons (dSub (dVar 8) (dC (.int 2))) (aCons (dSub (dVar 3) (dC (.int 6))) aNil))) aNil))))
  (sSeq (sSet 11 (dDef D__law_formula (aCons (dVar 2) (aCons (dC (.int 2)) (aCons (dSl (dVar 4) (oSm (dVar 10)) (oSm (dAdd (dVar 10) (dC (.int 6))))) aNil)))))
  (sSeq (sIf (dTV (dEq (dDef D__law_take (aCons (dVar 2) (aCons (dC (.int 6)) aNil))) (dC (.int 0)))) (sSet 11 (dTup (aCons (dC (.str "items")) (aCons (dAdd (dIx (dVar 11) (dC (.int 1))) (dTup (aCons (dTup (aCons (dC (.str "name")) (aCons (dVar 9) aNil))) aNil))) aNil)))) sNext)
  (sSeq (sSet 12 (dDef D__law_ring (aCons (dVar 6) (aCons (dVar 9) (aCons (dVar 11) aNil)))))
  (sSeq (sIf (tNot (dTV (dDef (D__law_same 100) (aCons (dDef (D__law_let fun _ _ => False) (aCons (dVar 5) (aCons (dVar 9) (aCons (dDef (D__law_text 70) (aCons (dVar 11) aNil)) aNil)))) (aCons (dVar 12) aNil))))) (sRet (dC (.bl false))) sNext)
  (sSeq (sIf (dTV (dIsN (dVar 12) (dC .non))) (sPutD (dVar 6) (dVar 9) (dVar 11)) sNext)
  (sSeq (sSet 13 (dDictP (dBorD 6 (dLc (iKeysK (dVar 6)) (gName 15) tYes (nE C_law_1) [15]))))
  (sSeq (sIf (tBorD 6 (tOr (tNot (dTV (dDef (D__law_same 100) (aCons (dMeth0 cl_Book D_Book_names (dVar 5)) (aCons (dCall kSortDK (aCons (dVar 6) aNil)) aNil))))) (dTV (dCall kAny (aCons (dLc (iKeysK (dVar 6)) (gName 15) tYes (nE C_law_2) [15]) aNil))))) (sRet (dC (.bl false))) sNext)
  (sIf (tAnd (dTV (dNotN (dVar 12) (dC .non))) (tAnd (dTV (dGt (dCall kLen (aCons (dVar 12) aNil)) (dC (.int 2)))) (dTV (dEq (dDef D__law_take (aCons (dVar 2) (aCons (dC (.int 2)) aNil))) (dC (.int 0)))))) (sSeq (sSet 14 (dIx (dVar 12) (dAdd (dC (.int 1)) (dDef D__law_take (aCons (dVar 2) (aCons (dSub (dCall kLen (aCons (dVar 12) aNil)) (dC (.int 2))) aNil))))))
  (sSeq (sExpr (dMeth cl_Book (D_Book_drop fun _ _ => False) (dVar 5) (aCons (dVar 14) aNil)))
  (sSeq (sExpr (dDPop (dVar 6) (dVar 14)))
  (sSeq (sSet 12 (dDef D__law_ring (aCons (dVar 6) (aCons (dVar 9) (aCons (dVar 11) aNil)))))
  (sSeq (sIf (tNot (dTV (dDef (D__law_same 100) (aCons (dDef (D__law_let fun _ _ => False) (aCons (dVar 5) (aCons (dVar 9) (aCons (dDef (D__law_text 70) (aCons (dVar 11) aNil)) aNil)))) (aCons (dVar 12) aNil))))) (sRet (dC (.bl false))) sNext)
  (sIf (dTV (dIsN (dVar 12) (dC .non))) (sPutD (dVar 6) (dVar 9) (dVar 11)) sNext)))))) sNext))))))))))))
def T_law_8 : DTS :=
  (sRet (dC (.bl true)))
def T_law_7 : DTS :=
  (sSeq (sFor (iRg1 (aCons (dAdd (dC (.int 12)) (dDef D__law_take (aCons (dVar 2) (aCons (dC (.int 19)) aNil)))) aNil)) (gName 7)
  (nS B_law_1))
  (nS T_law_8))
def T_law_6 : DTS :=
  (sSeq (sSet 2 (dDef D__law_box_m (aCons (dVar 1) (aCons (dC (.int 1)) aNil))))
  (nS T_law_7))
def T_law_5 : DTS :=
  (sSeq (sAsg (dTup (aCons (dMake cl_Book D_Book_init (aCons (dMake cl_Ground D_Ground_init (aCons (dC (.int 2)) (aCons (dC (.int 2)) aNil))) aNil)) (aCons dNewK aNil))) (gTup 2 (gCons (gName 5) (gCons (gName 6) gNil))))
  (nS T_law_6))
def T_law_4 : DTS :=
  (sSeq (sSet 4 (dDef D__law_names (aCons (dVar 2) (aCons (dVar 3) aNil))))
  (nS T_law_5))
def T_law_3 : DTS :=
  (sSeq (sSet 3 (dIf (dTV (dEq (dDef D__law_take (aCons (dVar 2) (aCons (dC (.int 4)) aNil))) (dC (.int 0)))) (dC (.int 30)) (dAdd (dC (.int 2)) (dDef D__law_take (aCons (dVar 2) (aCons (dC (.int 6)) aNil))))))
  (nS T_law_4))
def T_law_2 : DTS :=
  (sSeq (sSet 2 (dDef D__law_box_m (aCons (dVar 1) (aCons (dC (.int 0)) aNil))))
  (nS T_law_3))
def T_law : DTS :=
  (sSeq (sSet 1 (dDef D__law_folded (aCons (dVar 0) (aCons (dC (.int 2)) aNil))))
  (nS T_law_2))
abbrev D_law : DSp := fnD T_law 1 15
structure Facts (K : PySem.W.Frag) (mg : Str → Option Value) where
  C_Book : Addr
  n_Book : PySem.W.nsIn K mainGlobals "Book" = some (some (.ref C_Book))
  k_Book : Cls K C_Book
  gc_Book : mg "Book" = some (.ref C_Book)
  na_Book_kept_ground : NoAttr K C_Book "kept_ground"
  na_Book_formulas : NoAttr K C_Book "formulas"
  C_Ground : Addr
  n_Ground : PySem.W.nsIn K mainGlobals "Ground" = some (some (.ref C_Ground))
  k_Ground : Cls K C_Ground
  gc_Ground : mg "Ground" = some (.ref C_Ground)
  na_Ground_letter_count : NoAttr K C_Ground "letter_count"
  na_Ground_depth_count : NoAttr K C_Ground "depth_count"
  na_Ground_turn_list : NoAttr K C_Ground "turn_list"
  na_Ground_place_by_word : NoAttr K C_Ground "place_by_word"
  na_Ground_kept_powers : NoAttr K C_Ground "kept_powers"
  C_Reading : Addr
  n_Reading : PySem.W.nsIn K mainGlobals "Reading" = some (some (.ref C_Reading))
  k_Reading : Cls K C_Reading
  gc_Reading : mg "Reading" = some (.ref C_Reading)
  na_Reading_text : NoAttr K C_Reading "text"
  na_Reading_at : NoAttr K C_Reading "at"
  na_Reading_open_count : NoAttr K C_Reading "open_count"
  f__law_folded : Addr
  fd__law_folded : FuncData
  F__law_folded : Fun K "_law_folded" "_law_folded" s__law_folded f__law_folded fd__law_folded
  b__law_folded : Binds K fd__law_folded p__law_folded []
  g__law_folded : mg "_law_folded" = some (.ref f__law_folded)
  f__law_box : Addr
  fd__law_box : FuncData
  F__law_box : Fun K "_law_box" "_law_box" s__law_box f__law_box fd__law_box
  b__law_box : Binds K fd__law_box p__law_box []
  g__law_box : mg "_law_box" = some (.ref f__law_box)
  f__law_take : Addr
  fd__law_take : FuncData
  F__law_take : Fun K "_law_take" "_law_take" s__law_take f__law_take fd__law_take
  b__law_take : Binds K fd__law_take p__law_take []
  g__law_take : mg "_law_take" = some (.ref f__law_take)
  f__law_names : Addr
  fd__law_names : FuncData
  F__law_names : Fun K "_law_names" "_law_names" s__law_names f__law_names fd__law_names
  b__law_names : Binds K fd__law_names p__law_names []
  g__law_names : mg "_law_names" = some (.ref f__law_names)
  f_Book_init : Addr
  fd_Book_init : FuncData
  F_Book_init : Fun K "__init__" "Book.__init__" s_Book_init f_Book_init fd_Book_init
  b_Book_init : Binds K fd_Book_init p_Book_init []
  mk_Book : Mk K C_Book f_Book_init
  f_next_turnword : Addr
  fd_next_turnword : FuncData
  F_next_turnword : Fun K "next_turnword" "next_turnword" s_next_turnword f_next_turnword fd_next_turnword
  b_next_turnword : Binds K fd_next_turnword p_next_turnword []
  g_next_turnword : mg "next_turnword" = some (.ref f_next_turnword)
  f_turnwords : Addr
  fd_turnwords : FuncData
  F_turnwords : Fun K "turnwords" "turnwords" s_turnwords f_turnwords fd_turnwords
  b_turnwords : Binds K fd_turnwords p_turnwords []
  g_turnwords : mg "turnwords" = some (.ref f_turnwords)
  f_Ground_init : Addr
  fd_Ground_init : FuncData
  F_Ground_init : Fun K "__init__" "Ground.__init__" s_Ground_init f_Ground_init fd_Ground_init
  b_Ground_init : Binds K fd_Ground_init p_Ground_init []
  mk_Ground : Mk K C_Ground f_Ground_init
  f_Book_look_there : Addr
  fd_Book_look_there : FuncData
  F_Book_look_there : Fun K "look_there" "Book.look_there" s_Book_look_there f_Book_look_there fd_Book_look_there
  b_Book_look_there : Binds K fd_Book_look_there p_Book_look_there []
  m_Book_look_there : Meth K C_Book "look_there" f_Book_look_there
  f_Book_drop : Addr
  fd_Book_drop : FuncData
  F_Book_drop : Fun K "drop" "Book.drop" s_Book_drop f_Book_drop fd_Book_drop
  b_Book_drop : Binds K fd_Book_drop p_Book_drop []
  m_Book_drop : Meth K C_Book "drop" f_Book_drop
  f__law_formula : Addr
  fd__law_formula : FuncData
  F__law_formula : Fun K "_law_formula" "_law_formula" s__law_formula f__law_formula fd__law_formula
  b__law_formula : Binds K fd__law_formula p__law_formula []
  g__law_formula : mg "_law_formula" = some (.ref f__law_formula)
  f__law_parts : Addr
  fd__law_parts : FuncData
  F__law_parts : Fun K "_law_parts" "_law_parts" s__law_parts f__law_parts fd__law_parts
  b__law_parts : Binds K fd__law_parts p__law_parts []
  g__law_parts : mg "_law_parts" = some (.ref f__law_parts)
  f__law_own : Addr
  fd__law_own : FuncData
  F__law_own : Fun K "_law_own" "_law_own" s__law_own f__law_own fd__law_own
  b__law_own : Binds K fd__law_own p__law_own []
  g__law_own : mg "_law_own" = some (.ref f__law_own)
  f__law_ring : Addr
  fd__law_ring : FuncData
  F__law_ring : Fun K "_law_ring" "_law_ring" s__law_ring f__law_ring fd__law_ring
  b__law_ring : Binds K fd__law_ring p__law_ring []
  g__law_ring : mg "_law_ring" = some (.ref f__law_ring)
  f__law_same : Addr
  fd__law_same : FuncData
  F__law_same : Fun K "_law_same" "_law_same" s__law_same f__law_same fd__law_same
  b__law_same : Binds K fd__law_same p__law_same []
  g__law_same : mg "_law_same" = some (.ref f__law_same)
  f_is_name : Addr
  fd_is_name : FuncData
  F_is_name : Fun K "is_name" "is_name" s_is_name f_is_name fd_is_name
  b_is_name : Binds K fd_is_name p_is_name []
  g_is_name : mg "is_name" = some (.ref f_is_name)
  f_Reading_init : Addr
  fd_Reading_init : FuncData
  F_Reading_init : Fun K "__init__" "Reading.__init__" s_Reading_init f_Reading_init fd_Reading_init
  b_Reading_init : Binds K fd_Reading_init p_Reading_init []
  mk_Reading : Mk K C_Reading f_Reading_init
  f_Reading_sign : Addr
  fd_Reading_sign : FuncData
  F_Reading_sign : Fun K "sign" "Reading.sign" s_Reading_sign f_Reading_sign fd_Reading_sign
  b_Reading_sign : Binds K fd_Reading_sign p_Reading_sign []
  m_Reading_sign : Meth K C_Reading "sign" f_Reading_sign
  f_Reading_stop : Addr
  fd_Reading_stop : FuncData
  F_Reading_stop : Fun K "stop" "Reading.stop" s_Reading_stop f_Reading_stop fd_Reading_stop
  b_Reading_stop : Binds K fd_Reading_stop p_Reading_stop []
  m_Reading_stop : Meth K C_Reading "stop" f_Reading_stop
  f_Reading_take : Addr
  fd_Reading_take : FuncData
  F_Reading_take : Fun K "take" "Reading.take" s_Reading_take f_Reading_take fd_Reading_take
  b_Reading_take : Binds K fd_Reading_take p_Reading_take []
  m_Reading_take : Meth K C_Reading "take" f_Reading_take
  f_Reading_expr : Addr
  fd_Reading_expr : FuncData
  F_Reading_expr : Fun K "expr" "Reading.expr" s_Reading_expr f_Reading_expr fd_Reading_expr
  b_Reading_expr : Binds K fd_Reading_expr p_Reading_expr []
  m_Reading_expr : Meth K C_Reading "expr" f_Reading_expr
  f_is_among : Addr
  fd_is_among : FuncData
  F_is_among : Fun K "is_among" "is_among" s_is_among f_is_among fd_is_among
  b_is_among : Binds K fd_is_among p_is_among []
  g_is_among : mg "is_among" = some (.ref f_is_among)
  f_Reading_number : Addr
  fd_Reading_number : FuncData
  F_Reading_number : Fun K "number" "Reading.number" s_Reading_number f_Reading_number fd_Reading_number
  b_Reading_number : Binds K fd_Reading_number p_Reading_number []
  m_Reading_number : Meth K C_Reading "number" f_Reading_number
  f_Reading_item : Addr
  fd_Reading_item : FuncData
  F_Reading_item : Fun K "item" "Reading.item" s_Reading_item f_Reading_item fd_Reading_item
  b_Reading_item : Binds K fd_Reading_item p_Reading_item []
  m_Reading_item : Meth K C_Reading "item" f_Reading_item
  f_Reading_enter : Addr
  fd_Reading_enter : FuncData
  F_Reading_enter : Fun K "enter" "Reading.enter" s_Reading_enter f_Reading_enter fd_Reading_enter
  b_Reading_enter : Binds K fd_Reading_enter p_Reading_enter []
  m_Reading_enter : Meth K C_Reading "enter" f_Reading_enter
  f_Reading_leave : Addr
  fd_Reading_leave : FuncData
  F_Reading_leave : Fun K "leave" "Reading.leave" s_Reading_leave f_Reading_leave fd_Reading_leave
  b_Reading_leave : Binds K fd_Reading_leave p_Reading_leave []
  m_Reading_leave : Meth K C_Reading "leave" f_Reading_leave
  f_Reading_letters : Addr
  fd_Reading_letters : FuncData
  F_Reading_letters : Fun K "letters" "Reading.letters" s_Reading_letters f_Reading_letters fd_Reading_letters
  b_Reading_letters : Binds K fd_Reading_letters p_Reading_letters []
  m_Reading_letters : Meth K C_Reading "letters" f_Reading_letters
  f_Reading_atom : Addr
  fd_Reading_atom : FuncData
  F_Reading_atom : Fun K "atom" "Reading.atom" s_Reading_atom f_Reading_atom fd_Reading_atom
  b_Reading_atom : Binds K fd_Reading_atom p_Reading_atom []
  m_Reading_atom : Meth K C_Reading "atom" f_Reading_atom
  f_read_tree : Addr
  fd_read_tree : FuncData
  F_read_tree : Fun K "read_tree" "read_tree" s_read_tree f_read_tree fd_read_tree
  b_read_tree : Binds K fd_read_tree p_read_tree []
  g_read_tree : mg "read_tree" = some (.ref f_read_tree)
  f_leaves_of : Addr
  fd_leaves_of : FuncData
  F_leaves_of : Fun K "leaves_of" "leaves_of" s_leaves_of f_leaves_of fd_leaves_of
  b_leaves_of : Binds K fd_leaves_of p_leaves_of []
  g_leaves_of : mg "leaves_of" = some (.ref f_leaves_of)
  f_Ground_letters : Addr
  fd_Ground_letters : FuncData
  F_Ground_letters : Fun K "letters" "Ground.letters" s_Ground_letters f_Ground_letters fd_Ground_letters
  b_Ground_letters : Binds K fd_Ground_letters p_Ground_letters []
  m_Ground_letters : Meth K C_Ground "letters" f_Ground_letters
  f_look_letters : Addr
  fd_look_letters : FuncData
  F_look_letters : Fun K "look_letters" "look_letters" s_look_letters f_look_letters fd_look_letters
  b_look_letters : Binds K fd_look_letters p_look_letters []
  g_look_letters : mg "look_letters" = some (.ref f_look_letters)
  f_names_in : Addr
  fd_names_in : FuncData
  F_names_in : Fun K "names_in" "names_in" s_names_in f_names_in fd_names_in
  b_names_in : Binds K fd_names_in p_names_in []
  g_names_in : mg "names_in" = some (.ref f_names_in)
  f_Book_own_needs : Addr
  fd_Book_own_needs : FuncData
  F_Book_own_needs : Fun K "own_needs" "Book.own_needs" s_Book_own_needs f_Book_own_needs fd_Book_own_needs
  b_Book_own_needs : Binds K fd_Book_own_needs p_Book_own_needs []
  m_Book_own_needs : Meth K C_Book "own_needs" f_Book_own_needs
  f_Book_ring_by : Addr
  fd_Book_ring_by : FuncData
  F_Book_ring_by : Fun K "ring_by" "Book.ring_by" s_Book_ring_by f_Book_ring_by fd_Book_ring_by
  b_Book_ring_by : Binds K fd_Book_ring_by p_Book_ring_by []
  m_Book_ring_by : Meth K C_Book "ring_by" f_Book_ring_by
  f_Book_let : Addr
  fd_Book_let : FuncData
  F_Book_let : Fun K "let" "Book.let" s_Book_let f_Book_let fd_Book_let
  b_Book_let : Binds K fd_Book_let p_Book_let []
  m_Book_let : Meth K C_Book "let" f_Book_let
  f__law_let : Addr
  fd__law_let : FuncData
  F__law_let : Fun K "_law_let" "_law_let" s__law_let f__law_let fd__law_let
  b__law_let : Binds K fd__law_let p__law_let []
  g__law_let : mg "_law_let" = some (.ref f__law_let)
  f__law_text : Addr
  fd__law_text : FuncData
  F__law_text : Fun K "_law_text" "_law_text" s__law_text f__law_text fd__law_text
  b__law_text : Binds K fd__law_text p__law_text []
  g__law_text : mg "_law_text" = some (.ref f__law_text)
  f__law_item_text : Addr
  fd__law_item_text : FuncData
  F__law_item_text : Fun K "_law_item_text" "_law_item_text" s__law_item_text f__law_item_text fd__law_item_text
  b__law_item_text : Binds K fd__law_item_text p__law_item_text []
  g__law_item_text : mg "_law_item_text" = some (.ref f__law_item_text)
  f_atom_text : Addr
  fd_atom_text : FuncData
  F_atom_text : Fun K "atom_text" "atom_text" s_atom_text f_atom_text fd_atom_text
  b_atom_text : Binds K fd_atom_text p_atom_text []
  g_atom_text : mg "atom_text" = some (.ref f_atom_text)
  f_item_text : Addr
  fd_item_text : FuncData
  F_item_text : Fun K "item_text" "item_text" s_item_text f_item_text fd_item_text
  b_item_text : Binds K fd_item_text p_item_text []
  g_item_text : mg "item_text" = some (.ref f_item_text)
  f_tree_text : Addr
  fd_tree_text : FuncData
  F_tree_text : Fun K "tree_text" "tree_text" s_tree_text f_tree_text fd_tree_text
  b_tree_text : Binds K fd_tree_text p_tree_text []
  g_tree_text : mg "tree_text" = some (.ref f_tree_text)
  f_Book_text_of : Addr
  fd_Book_text_of : FuncData
  F_Book_text_of : Fun K "text_of" "Book.text_of" s_Book_text_of f_Book_text_of fd_Book_text_of
  b_Book_text_of : Binds K fd_Book_text_of p_Book_text_of []
  m_Book_text_of : Meth K C_Book "text_of" f_Book_text_of
  f_Book_names : Addr
  fd_Book_names : FuncData
  F_Book_names : Fun K "names" "Book.names" s_Book_names f_Book_names fd_Book_names
  b_Book_names : Binds K fd_Book_names p_Book_names []
  m_Book_names : Meth K C_Book "names" f_Book_names
  f_law : Addr
  fd_law : FuncData
  F_law : Fun K "law" "law" s_law f_law fd_law
  b_law : Binds K fd_law p_law []
  g_law : mg "law" = some (.ref f_law)
  E_NoName : Addr
  en_NoName : PySem.W.nsIn K mainGlobals "NoName" = some (some (.ref E_NoName))
  eg_NoName : mg "NoName" = some (.ref E_NoName)
  E_BracketError : Addr
  en_BracketError : PySem.W.nsIn K mainGlobals "BracketError" = some (some (.ref E_BracketError))
  eg_BracketError : mg "BracketError" = some (.ref E_BracketError)
  E_BadName : Addr
  en_BadName : PySem.W.nsIn K mainGlobals "BadName" = some (some (.ref E_BadName))
  eg_BadName : mg "BadName" = some (.ref E_BadName)
  E_BadText : Addr
  en_BadText : PySem.W.nsIn K mainGlobals "BadText" = some (some (.ref E_BadText))
  eg_BadText : mg "BadText" = some (.ref E_BadText)
  E_NoLetter : Addr
  en_NoLetter : PySem.W.nsIn K mainGlobals "NoLetter" = some (some (.ref E_NoLetter))
  eg_NoLetter : mg "NoLetter" = some (.ref E_NoLetter)
  E_Ring : Addr
  en_Ring : PySem.W.nsIn K mainGlobals "Ring" = some (some (.ref E_Ring))
  eg_Ring : mg "Ring" = some (.ref E_Ring)
  E_TooGreat : Addr
  en_TooGreat : PySem.W.nsIn K mainGlobals "TooGreat" = some (some (.ref E_TooGreat))
  eg_TooGreat : mg "TooGreat" = some (.ref E_TooGreat)
  E_BadRow : Addr
  en_BadRow : PySem.W.nsIn K mainGlobals "BadRow" = some (some (.ref E_BadRow))
  eg_BadRow : mg "BadRow" = some (.ref E_BadRow)
  E_NoGround : Addr
  en_NoGround : PySem.W.nsIn K mainGlobals "NoGround" = some (some (.ref E_NoGround))
  eg_NoGround : mg "NoGround" = some (.ref E_NoGround)
  E_NoPlace : Addr
  en_NoPlace : PySem.W.nsIn K mainGlobals "NoPlace" = some (some (.ref E_NoPlace))
  eg_NoPlace : mg "NoPlace" = some (.ref E_NoPlace)
  E_NoPut : Addr
  en_NoPut : PySem.W.nsIn K mainGlobals "NoPut" = some (some (.ref E_NoPut))
  eg_NoPut : mg "NoPut" = some (.ref E_NoPut)
  E_NoRules : Addr
  en_NoRules : PySem.W.nsIn K mainGlobals "NoRules" = some (some (.ref E_NoRules))
  eg_NoRules : mg "NoRules" = some (.ref E_NoRules)
  E_TooLong : Addr
  en_TooLong : PySem.W.nsIn K mainGlobals "TooLong" = some (some (.ref E_TooLong))
  eg_TooLong : mg "TooLong" = some (.ref E_TooLong)
  ex_BadName : XCls K E_BadName
  ei_BadText : XIs K E_BadText
  ei_NoLetter : XIs K E_NoLetter
  ei_NoName : XIs K E_NoName
  ei_TooGreat : XIs K E_TooGreat
  ei_BadName : XIs K E_BadName
  ei_Ring : XIs K E_Ring
  em_BadText_BracketError : PySem.W.exmOne K (.ref E_BadText) (.ref E_BracketError) = some true
  em_NoLetter_BracketError : PySem.W.exmOne K (.ref E_NoLetter) (.ref E_BracketError) = some true
  em_NoName_BracketError : PySem.W.exmOne K (.ref E_NoName) (.ref E_BracketError) = some true
  em_TooGreat_BracketError : PySem.W.exmOne K (.ref E_TooGreat) (.ref E_BracketError) = some true
  em_BadName_BracketError : PySem.W.exmOne K (.ref E_BadName) (.ref E_BracketError) = some true
  em_Ring_BracketError : PySem.W.exmOne K (.ref E_Ring) (.ref E_BracketError) = some true
  ki_0 : PySem.W.kitAny K (.ref E_Ring) [.ref E_BadName, .ref E_BadRow, .ref E_BadText, .ref E_NoGround, .ref E_NoLetter, .ref E_NoName, .ref E_NoPlace, .ref E_NoPut] = some false
  ki_1 : PySem.W.kitAny K (.ref E_BadName) [.ref E_BadName, .ref E_BadRow, .ref E_BadText, .ref E_NoGround, .ref E_NoLetter, .ref E_NoName, .ref E_NoPlace, .ref E_NoPut] = some true
  ki_2 : PySem.W.kitAny K (.ref E_TooGreat) [.ref E_BadName, .ref E_BadRow, .ref E_BadText, .ref E_NoGround, .ref E_NoLetter, .ref E_NoName, .ref E_NoPlace, .ref E_NoPut] = some false
  ki_3 : PySem.W.kitAny K (.ref E_NoName) [.ref E_BadName, .ref E_BadRow, .ref E_BadText, .ref E_NoGround, .ref E_NoLetter, .ref E_NoName, .ref E_NoPlace, .ref E_NoPut] = some true
  ki_4 : PySem.W.kitAny K (.ref E_NoLetter) [.ref E_BadName, .ref E_BadRow, .ref E_BadText, .ref E_NoGround, .ref E_NoLetter, .ref E_NoName, .ref E_NoPlace, .ref E_NoPut] = some true
  ki_5 : PySem.W.kitAny K (.ref E_BadText) [.ref E_BadName, .ref E_BadRow, .ref E_BadText, .ref E_NoGround, .ref E_NoLetter, .ref E_NoName, .ref E_NoPlace, .ref E_NoPut] = some true
  ki_6 : PySem.W.kitOne K (.ref E_Ring) (.ref E_Ring) = some true
  ki_7 : PySem.W.kitOne K (.ref E_BadName) (.ref E_Ring) = some false
  ki_8 : PySem.W.kitOne K (.ref E_TooGreat) (.ref E_Ring) = some false
  ki_9 : PySem.W.kitOne K (.ref E_NoName) (.ref E_Ring) = some false
  ki_10 : PySem.W.kitOne K (.ref E_NoLetter) (.ref E_Ring) = some false
  ki_11 : PySem.W.kitOne K (.ref E_BadText) (.ref E_Ring) = some false
  ki_12 : PySem.W.kitAny K (.ref E_Ring) [.ref E_NoRules, .ref E_TooGreat, .ref E_TooLong] = some false
  ki_13 : PySem.W.kitAny K (.ref E_BadName) [.ref E_NoRules, .ref E_TooGreat, .ref E_TooLong] = some false
  ki_14 : PySem.W.kitAny K (.ref E_TooGreat) [.ref E_NoRules, .ref E_TooGreat, .ref E_TooLong] = some true
  ki_15 : PySem.W.kitAny K (.ref E_NoName) [.ref E_NoRules, .ref E_TooGreat, .ref E_TooLong] = some false
  ki_16 : PySem.W.kitAny K (.ref E_NoLetter) [.ref E_NoRules, .ref E_TooGreat, .ref E_TooLong] = some false
  ki_17 : PySem.W.kitAny K (.ref E_BadText) [.ref E_NoRules, .ref E_TooGreat, .ref E_TooLong] = some false
  fi_NoName : Addr
  fdi_NoName : FuncData
  Fi_NoName : Fun K "__init__" "NoName.__init__" si_NoName fi_NoName fdi_NoName
  bi_NoName : Binds K fdi_NoName pi_NoName []
  xf_NoName : XFld K E_NoName fi_NoName "name"
  fi_BadText : Addr
  fdi_BadText : FuncData
  Fi_BadText : Fun K "__init__" "BadText.__init__" si_BadText fi_BadText fdi_BadText
  bi_BadText : Binds K fdi_BadText pi_BadText []
  xf_BadText : XFld K E_BadText fi_BadText "at"
  fi_NoLetter : Addr
  fdi_NoLetter : FuncData
  Fi_NoLetter : Fun K "__init__" "NoLetter.__init__" si_NoLetter fi_NoLetter fdi_NoLetter
  bi_NoLetter : Binds K fdi_NoLetter pi_NoLetter []
  xf_NoLetter : XFld K E_NoLetter fi_NoLetter "letter"
  fi_Ring : Addr
  fdi_Ring : FuncData
  Fi_Ring : Fun K "__init__" "Ring.__init__" si_Ring fi_Ring fdi_Ring
  bi_Ring : Binds K fdi_Ring pi_Ring []
  xf_Ring : XFld K E_Ring fi_Ring "ring"
  crB : ClX.CRead K E_BracketError (.type "type")
  vvB : PySem.W.findCls K (.ref E_BracketError) (.type "type") "__init__" = some (.val (.builtin "ValueError.__init__"))
  xg_Ring : XGet K E_Ring "ring"
  g_turnwords_turning : mg "turnwords_turning" = some (.ref f_turnwords)
  t_FIGURE_SIGNS : Tok
  v_FIGURE_SIGNS : mg "FIGURE_SIGNS" = some (.str "0123456789" t_FIGURE_SIGNS)
  t_LETTER_SIGNS : Tok
  v_LETTER_SIGNS : mg "LETTER_SIGNS" = some (.str "abcd" t_LETTER_SIGNS)
  t_MOST_BOTH : Tok
  v_MOST_BOTH : mg "MOST_BOTH" = some (.int 7 t_MOST_BOTH)
  t_MOST_DEPTH : Tok
  v_MOST_DEPTH : mg "MOST_DEPTH" = some (.int 5 t_MOST_DEPTH)
  t_MOST_FIGURES : Tok
  v_MOST_FIGURES : mg "MOST_FIGURES" = some (.int 9 t_MOST_FIGURES)
  t_MOST_LETTERS : Tok
  v_MOST_LETTERS : mg "MOST_LETTERS" = some (.int 4 t_MOST_LETTERS)
  t_MOST_NAME : Tok
  v_MOST_NAME : mg "MOST_NAME" = some (.int 8 t_MOST_NAME)
  t_MOST_NESTED : Tok
  v_MOST_NESTED : mg "MOST_NESTED" = some (.int 20 t_MOST_NESTED)
  t_SMALL_SIGNS : Tok
  v_SMALL_SIGNS : mg "SMALL_SIGNS" = some (.str "abcdefghijklmnopqrstuvwxyz" t_SMALL_SIGNS)
  m_abs : mg "abs" = none
  m_all : mg "all" = none
  m_any : mg "any" = none
  m_bool : mg "bool" = none
  m_dict : mg "dict" = none
  m_divmod : mg "divmod" = none
  m_enumerate : mg "enumerate" = none
  m_int : mg "int" = none
  m_isinstance : mg "isinstance" = none
  m_len : mg "len" = none
  m_list : mg "list" = none
  m_max : mg "max" = none
  m_min : mg "min" = none
  m_range : mg "range" = none
  m_set : mg "set" = none
  m_sorted : mg "sorted" = none
  m_str : mg "str" = none
  m_tuple : mg "tuple" = none
  m_zip : mg "zip" = none
section
variable {P : Program} {w : World} {K : PySem.W.Frag} {mg : Str → Option Value} {base : Heap}
theorem okI_NoName (T : Facts K mg) : FnOk P w K mg base CX0 1 T.fi_NoName T.fdi_NoName pi_NoName (rInitF K "name") :=
  init_fn (k := 0) T.Fi_NoName sci_NoName rfl rfl fun cdv A outer s H E => by exact (pss_cons (ps_expr (pe_oinit (by rfl) T.eg_BracketError T.crB T.vvB (pa_cons (pv 0) (pa_cons (pv 1) pa_nil)))) (pss_one (ps_ost (pv 0) (pv 2))))
theorem okI_BadText (T : Facts K mg) : FnOk P w K mg base CX0 1 T.fi_BadText T.fdi_BadText pi_BadText (rInitF K "at") :=
  init_fn (k := 0) T.Fi_BadText sci_BadText rfl rfl fun cdv A outer s H E => by exact (pss_cons (ps_expr (pe_oinit (by rfl) T.eg_BracketError T.crB T.vvB (pa_cons (pv 0) (pa_cons (pv 1) pa_nil)))) (pss_one (ps_ost (pv 0) (pv 2))))
theorem okI_NoLetter (T : Facts K mg) : FnOk P w K mg base CX0 1 T.fi_NoLetter T.fdi_NoLetter pi_NoLetter (rInitF K "letter") :=
  init_fn (k := 0) T.Fi_NoLetter sci_NoLetter rfl rfl fun cdv A outer s H E => by exact (pss_cons (ps_expr (pe_oinit (by rfl) T.eg_BracketError T.crB T.vvB (pa_cons (pv 0) (pa_cons (pv 1) pa_nil)))) (pss_one (ps_ost (pv 0) (pv 2))))
theorem okI_Ring (T : Facts K mg) : FnOk P w K mg base CX0 1 T.fi_Ring T.fdi_Ring pi_Ring (rInitF K "ring") :=
  init_fn (k := 0) T.Fi_Ring sci_Ring rfl rfl fun cdv A outer s H E => by exact (pss_cons (ps_expr (pe_oinit (by rfl) T.eg_BracketError T.crB T.vvB (pa_cons (pv 0) (pa_cons (pv 1) pa_nil)))) (pss_one (ps_ost (pv 0) (pv 2))))
theorem ok__law_folded (T : Facts K mg) : FnG P w K mg base 1 T.f__law_folded T.fd__law_folded p__law_folded D__law_folded := by
  refine fn_ok T.F__law_folded sc__law_folded rfl fun cdv A outer s H E hr hgd => ?_
  refine dss_cons ?_ ?_
  · exact (ds_set (i := 2) sc__law_folded.nd rfl (.inl rfl) (de_callT call_list_of kListM_ok (by rfl) T.m_list (by decide +kernel) (da_cons (de_sl (de_var 0) dp_no (dp_sm (de_var 1))) da_nil)))
  refine dss_nS ?_
  refine dss_cons ?_ ?_
  · exact (ds_for (vs := [3, 4]) PassesOwn.never rfl (di_enum (by rfl) T.m_enumerate (da_cons (de_sl (de_var 0) (dp_sm (de_var 1)) (dp_sm de_int)) da_nil)) (dg_tup rfl (dgs_cons (dg_name (i := 3) sc__law_folded.nd rfl (.inl rfl) (by decide)) (dgs_cons (dg_name (i := 4) sc__law_folded.nd rfl (.inl rfl) (by decide)) dgs_nil)))
      (dss_nS (dss_one (ds_asg (vs := []) (de_add (de_ix (de_var 2) (de_mod (de_var 3) (de_var 1))) (de_mul (de_var 4) (de_add (de_var 3) de_int))) (dg_sub set_list kSetL_ok (de_var 2) (de_mod (de_var 3) (de_var 1)))))))
  refine dss_nS ?_
  refine dss_one ?_
  exact (ds_ret (de_frz (de_var 2)))
theorem ok__law_box_m (T : Facts K mg) : FnG P w K mg base 1 T.f__law_box T.fd__law_box p__law_box D__law_box_m := by
  refine fn_ok T.F__law_box sc__law_box rfl fun cdv A outer s H E hr hgd => ?_
  refine dss_cons ?_ ?_
  · exact (ds_set (i := 2) sc__law_box.nd rfl (.inl rfl) (de_if (dt_lt hr.units0 (de_var 1) (de_len (by rfl) T.m_len (de_var 0))) (de_ix (de_var 0) (de_var 1)) de_int))
  refine dss_nS ?_
  refine dss_one ?_
  exact (ds_ret (de_lstM (da_cons (de_mul (de_callB call_abs kAbs_ok (by rfl) T.m_abs (by decide +kernel) (da_cons (de_var 2) da_nil)) (de_callT call_int1 kInt1_ok (by rfl) T.m_int (by decide +kernel) (da_cons (de_ge (de_callB call_abs kAbs_ok (by rfl) T.m_abs (by decide +kernel) (da_cons (de_var 2) da_nil)) (de_pow de_int de_int)) da_nil))) (da_cons (de_mod (de_mul (de_add (de_add (de_mod (de_var 2) de_int) (de_mul de_int (de_var 1))) de_int) de_int) de_int) (da_cons de_int da_nil)))))
theorem ok__law_take (T : Facts K mg) : FnG P w K mg base 1 T.f__law_take T.fd__law_take p__law_take D__law_take := by
  refine fn_ok T.F__law_take sc__law_take rfl fun cdv A outer s H E hr hgd => ?_
  refine dss_cons ?_ ?_
  · exact (ds_if (dt_gt (de_ix (de_var 0) de_int) de_int) (dss_cons (ds_asg (vs := [2]) (de_callB call_divmodW kDivmodW_ok (by rfl) T.m_divmod (by decide +kernel) (da_cons (de_ix (de_var 0) de_int) (da_cons (de_var 1) da_nil))) (dg_tup rfl (dgs_cons (dg_sub set_list kSetL_ok (de_var 0) de_int) (dgs_cons (dg_name (i := 2) sc__law_take.nd rfl (.inl rfl) (by decide)) dgs_nil))))
      (dss_one (ds_ret (de_var 2)))) dss_nil)
  refine dss_nS ?_
  refine dss_cons ?_ ?_
  · exact (ds_asg (vs := []) (de_add (de_ix (de_var 0) de_int) de_int) (dg_sub set_list kSetL_ok (de_var 0) de_int))
  refine dss_nS ?_
  refine dss_cons ?_ ?_
  · exact (ds_set (i := 3) sc__law_take.nd rfl (.inl rfl) (de_add de_int (de_mul (de_ix (de_var 0) de_int) (de_ix (de_var 0) de_int))))
  refine dss_nS ?_
  refine dss_cons ?_ ?_
  · exact (ds_set (i := 4) sc__law_take.nd rfl (.inl rfl) (de_mod (de_mul (de_add (de_ix (de_var 0) de_int) (de_mul de_int (de_ix (de_var 0) de_int))) (de_var 3)) de_int))
  refine dss_nS ?_
  refine dss_cons ?_ ?_
  · exact (ds_set (i := 5) sc__law_take.nd rfl (.inl rfl) (de_mod (de_add (de_mul (de_var 4) (de_add (de_mod (de_var 4) de_int) de_int)) (de_ix (de_var 0) de_int)) de_int))
  refine dss_nS ?_
  refine dss_one ?_
  exact (ds_ret (de_mod (de_div (de_mod (de_mul (de_var 5) (de_add (de_mod (de_var 5) de_int) de_int)) de_int) de_int) (de_var 1)))
theorem ok__law_names (T : Facts K mg) : FnG P w K mg base 2 T.f__law_names T.fd__law_names p__law_names D__law_names := by
  refine fn_ok T.F__law_names sc__law_names rfl fun cdv A outer s H E hr hgd => ?_
  refine dss_cons ?_ ?_
  · exact (ds_asg (vs := [2, 3]) (de_tup (da_cons de_str (da_consL (de_lstM da_nil) da_nil))) (dg_tup rfl (dgs_cons (dg_name (i := 2) sc__law_names.nd rfl (.inr rfl) (by decide)) (dgs_cons (dg_name (i := 3) sc__law_names.nd rfl (.inl rfl) (by decide)) dgs_nil))))
  refine dss_nS ?_
  refine dss_cons ?_ ?_
  · exact (ds_par (i := 4) (j := 5) rfl sc__law_names.nd rfl rfl (by decide) rfl rfl (da_cons (de_call (ok__law_take T) (hr.mono (by decide)) hgd (by rfl) T.g__law_take T.F__law_take.kp T.b__law_take (da_cons (de_var 0) (da_cons de_int da_nil))) (da_cons (de_lc (own := [("_law_turn", 9)]) rfl sc__law_names.nd (di_range1 (by rfl) T.m_range (da_cons (de_call (ok__law_take T) (hr.mono (by decide)) hgd (by rfl) T.g__law_take T.F__law_take.kp T.b__law_take (da_cons (de_var 0) (da_cons de_int da_nil))) da_nil)) (blkOk_by (N := N__law_names) (sc := defScope s__law_names) (by decide +kernel)) (fun _ _ _ _ _ => (dg_name (i := 9) sc__law_names.nd rfl (.inl rfl) (by decide))) (fun _ _ _ _ _ => dts_nil) (fun _ _ _ _ _ => (de_nE (de_ix (de_var 2) (de_call (ok__law_take T) (hr.mono (by decide)) hgd (by rfl) T.g__law_take T.F__law_take.kp T.b__law_take (da_cons (de_var 0) (da_cons de_int da_nil))))))) da_nil)) (by rfl))
  refine dss_nS ?_
  refine dss_cons ?_ ?_
  · exact (ds_set (i := 6) sc__law_names.nd rfl (.inl rfl) (de_eq hr.units (de_call (ok__law_take T) (hr.mono (by decide)) hgd (by rfl) T.g__law_take T.F__law_take.kp T.b__law_take (da_cons (de_var 0) (da_cons de_int da_nil))) de_int))
  refine dss_nS ?_
  refine dss_cons ?_ ?_
  · exact (ds_for (vs := [7]) PassesOwn.never rfl (di_range1 (by rfl) T.m_range (da_cons (de_var 1) da_nil)) (dg_name (i := 7) sc__law_names.nd rfl (.inl rfl) (by decide))
      (dss_nS (dss_cons (ds_if (dt_not (dt_val (de_var 6))) (dss_one (ds_setLc (own := [("_law_turn", 9)]) rfl sc__law_names.nd (di_range1 (by rfl) T.m_range (da_cons (de_call (ok__law_take T) (hr.mono (by decide)) hgd (by rfl) T.g__law_take T.F__law_take.kp T.b__law_take (da_cons (de_var 0) (da_cons de_int da_nil))) da_nil)) (blkOk_by (N := N__law_names) (sc := defScope s__law_names) (by decide +kernel)) (fun _ _ _ _ _ => (dg_name (i := 9) sc__law_names.nd rfl (.inl rfl) (by decide))) (fun _ _ _ _ _ => dts_nil) (fun _ _ _ _ _ => (de_nE (de_ix (de_var 2) (de_call (ok__law_take T) (hr.mono (by decide)) hgd (by rfl) T.g__law_take T.F__law_take.kp T.b__law_take (da_cons (de_var 0) (da_cons de_int da_nil)))))) (i := 5) rfl rfl (sw_true rfl rfl rfl (by decide +kernel)))) dss_nil)
      (dss_cons (ds_set (i := 8) sc__law_names.nd rfl (.inl rfl) (de_lst (da_cons (de_ix (de_var 2) (de_mod (de_add (de_mul de_int (de_div (de_var 7) de_int)) de_int) de_int)) (da_cons (de_ix (de_var 2) (de_mod (de_add (de_mul de_int (de_var 7)) de_int) de_int)) da_nil))))
      (dss_one (ds_expr (de_append (de_var 3) (de_join de_str (de_add (de_add (de_sl (de_var 5) dp_no (dp_sm (de_var 4))) (de_var 8)) (de_sl (de_var 5) (dp_sm (de_var 4)) dp_no))))))))))
  refine dss_nS ?_
  refine dss_one ?_
  exact (ds_ret (de_frz (de_var 3)))
theorem ok_Book_init (T : Facts K mg) : FnG P w K mg base 1 T.f_Book_init T.fd_Book_init p_Book_init D_Book_init := by
  refine fn_ok T.F_Book_init sc_Book_init rfl fun cdv A outer s H E hr hgd => ?_
  refine dss_cons ?_ ?_
  · exact (ds_fld 0 rfl (by decide +kernel) (by decide +kernel) T.n_Book T.k_Book T.na_Book_kept_ground (de_var 0) (de_var 1))
  refine dss_nS ?_
  refine dss_one ?_
  exact (ds_fld 1 rfl (by decide +kernel) (by decide +kernel) T.n_Book T.k_Book T.na_Book_formulas (de_var 0) (de_newK))
theorem ok_next_turnword (T : Facts K mg) : FnG P w K mg base 1 T.f_next_turnword T.fd_next_turnword p_next_turnword D_next_turnword := by
  refine fn_ok T.F_next_turnword sc_next_turnword rfl fun cdv A outer s H E hr hgd => ?_
  refine dss_cons ?_ ?_
  · exact (ds_set (i := 3) sc_next_turnword.nd rfl (.inl rfl) (de_sl (de_mul (de_var 0) (de_var 2)) dp_no (dp_sm (de_var 2))))
  refine dss_nS ?_
  refine dss_cons ?_ ?_
  · exact (ds_while PassesOwn.never (dw_dt (dw_and (dt_gt (de_len (by rfl) T.m_len (de_var 3)) de_int) (dw_and1 (dt_eq hr.units (de_ix (de_var 3) (de_neg de_int)) (de_var 1))))) (dss_nS (dss_one (ds_set (i := 3) sc_next_turnword.nd rfl (.inl rfl) (de_sl (de_var 3) dp_no (dp_sm (de_neg de_int)))))))
  refine dss_nS ?_
  refine dss_cons ?_ ?_
  · exact (ds_if (dt_eq hr.units (de_len (by rfl) T.m_len (de_var 3)) de_int) (dss_one (ds_ret (de_tup da_nil))) dss_nil)
  refine dss_nS ?_
  refine dss_one ?_
  exact (ds_ret (de_add (de_sl (de_var 3) dp_no (dp_sm (de_neg de_int))) (de_tup (da_cons (de_add (de_ix (de_var 3) (de_neg de_int)) de_int) da_nil))))
theorem ok_turnwords (T : Facts K mg) : FnG P w K mg base 2 T.f_turnwords T.fd_turnwords p_turnwords D_turnwords := by
  refine fn_ok T.F_turnwords sc_turnwords rfl fun cdv A outer s H E hr hgd => ?_
  refine dss_cons ?_ ?_
  · exact (ds_set (i := 2) sc_turnwords.nd rfl (.inl rfl) (de_lstM da_nil))
  refine dss_nS ?_
  refine dss_cons ?_ ?_
  · exact (ds_set (i := 3) sc_turnwords.nd rfl (.inl rfl) (de_tup (da_cons de_int da_nil)))
  refine dss_nS ?_
  refine dss_cons ?_ ?_
  · exact (ds_while PassesOwn.never (dt_gt (de_len (by rfl) T.m_len (de_var 3)) de_int) (dss_nS (dss_cons (ds_if (dt_eq hr.units (de_len (by rfl) T.m_len (de_var 3)) (de_var 1)) (dss_one (ds_expr (de_append (de_var 2) (de_var 3)))) dss_nil)
      (dss_one (ds_set (i := 3) sc_turnwords.nd rfl (.inl rfl) (de_call (ok_next_turnword T) (hr.mono (by decide)) hgd (by rfl) T.g_next_turnword T.F_next_turnword.kp T.b_next_turnword (da_cons (de_var 3) (da_cons (de_var 0) (da_cons (de_var 1) da_nil)))))))))
  refine dss_nS ?_
  refine dss_one ?_
  exact (ds_ret (de_frz (de_var 2)))
theorem ok_Ground_init (T : Facts K mg) : FnG P w K mg base 3 T.f_Ground_init T.fd_Ground_init p_Ground_init D_Ground_init := by
  refine fn_ok T.F_Ground_init sc_Ground_init rfl fun cdv A outer s H E hr hgd => ?_
  refine dss_cons ?_ ?_
  · exact (ds_if (dw_dt (dw_or (dt_not (dt_chain op_le op_le kLe_ok kLe_ok de_int (de_var 1) (de_glob (by rfl) T.v_MOST_LETTERS))) (dw_or (dt_not (dt_chain op_le op_le kLe_ok kLe_ok de_int (de_var 2) (de_glob (by rfl) T.v_MOST_DEPTH))) (dw_or1 (dt_gt (de_add (de_var 1) (de_var 2)) (de_glob (by rfl) T.v_MOST_BOTH)))))) (dss_one ds_never) dss_nil)
  refine dss_nS ?_
  refine dss_cons ?_ ?_
  · exact (ds_fld 0 rfl (by decide +kernel) (by decide +kernel) T.n_Ground T.k_Ground T.na_Ground_letter_count (de_var 0) (de_var 1))
  refine dss_nS ?_
  refine dss_cons ?_ ?_
  · exact (ds_fld 1 rfl (by decide +kernel) (by decide +kernel) T.n_Ground T.k_Ground T.na_Ground_depth_count (de_var 0) (de_var 2))
  refine dss_nS ?_
  refine dss_cons ?_ ?_
  · exact (ds_fld 2 rfl (by decide +kernel) (by decide +kernel) T.n_Ground T.k_Ground T.na_Ground_turn_list (de_var 0) (de_lstM da_nil))
  refine dss_nS ?_
  refine dss_cons ?_ ?_
  · exact (ds_for (vs := [3]) PassesOwn.never rfl (di_range2 (by rfl) T.m_range (da_cons de_int (da_cons (de_add (de_var 2) de_int) da_nil))) (dg_name (i := 3) sc_Ground_init.nd rfl (.inl rfl) (by decide))
      (dss_nS (dss_one (ds_expr (de_mt PySem.F.slot_list_extend PySem.F.type_list_extend mt_extend kExtend_ok (de_fld 2 rfl (by decide +kernel) T.n_Ground T.k_Ground T.na_Ground_turn_list (de_var 0)) (da_cons (de_call (ok_turnwords T) (hr.mono (by decide)) hgd (by rfl) T.g_turnwords_turning T.F_turnwords.kp T.b_turnwords (da_cons (de_var 1) (da_cons (de_var 3) da_nil))) da_nil))))))
  refine dss_nS ?_
  refine dss_cons ?_ ?_
  · exact (ds_fld 3 rfl (by decide +kernel) (by decide +kernel) T.n_Ground T.k_Ground T.na_Ground_place_by_word (de_var 0) (de_newT))
  refine dss_nS ?_
  refine dss_cons ?_ ?_
  · exact (ds_for (vs := [4, 5]) PassesOwn.never rfl (di_enum (by rfl) T.m_enumerate (da_cons (de_fzF 2 rfl (by decide +kernel) T.n_Ground T.k_Ground T.na_Ground_turn_list (de_var 0)) da_nil)) (dg_tup rfl (dgs_cons (dg_name (i := 4) sc_Ground_init.nd rfl (.inl rfl) (by decide)) (dgs_cons (dg_name (i := 5) sc_Ground_init.nd rfl (.inl rfl) (by decide)) dgs_nil)))
      (dss_nS (dss_one (ds_putD hr (de_fld 3 rfl (by decide +kernel) T.n_Ground T.k_Ground T.na_Ground_place_by_word (de_var 0)) (de_var 5) (de_var 4)))))
  refine dss_nS ?_
  refine dss_one ?_
  exact (ds_fld 4 rfl (by decide +kernel) (by decide +kernel) T.n_Ground T.k_Ground T.na_Ground_kept_powers (de_var 0) (de_newK))
theorem ok_Book_look_there (T : Facts K mg) : FnX P w K mg base 3 T.f_Book_look_there T.fd_Book_look_there p_Book_look_there D_Book_look_there := by
  refine fnx_ok T.F_Book_look_there sc_Book_look_there rfl fun cdv A outer s H E hr hgd hp => ?_
  refine dxs_one ?_
  exact (dxs_if (dt_notInD hr (de_var 1) (de_fld 1 rfl (by decide +kernel) T.n_Book T.k_Book T.na_Book_formulas (de_var 0))) (dxs_one (dxs_raise1 8 rfl T.eg_NoName T.en_NoName T.xf_NoName (okI_NoName T) (hr.mono (by decide)) T.bi_NoName (by rfl) (de_var 1))) (dx_ss dss_nil))
theorem ok_Book_drop (T : Facts K mg) : FnX P w K mg base 4 T.f_Book_drop T.fd_Book_drop p_Book_drop D_Book_drop := by
  refine fnx_ok T.F_Book_drop sc_Book_drop rfl fun cdv A outer s H E hr hgd hp => ?_
  refine dxs_cons ?_ ?_
  · exact (dxs_expr (dx_meth T.n_Book T.k_Book T.m_Book_look_there (by decide +kernel) (ok_Book_look_there T) (hr.mono (by decide)) hgd T.b_Book_look_there (de_var 0) (dxa_cons (dx_e (de_var 1)) dxa_nil)))
  refine dxs_nS ?_
  refine dxs_one ?_
  exact (dx_s (ds_expr (de_dpop (de_fld 1 rfl (by decide +kernel) T.n_Book T.k_Book T.na_Book_formulas (de_var 0)) (de_var 1) (by constructor <;> rfl))))
theorem ok__law_formula (T : Facts K mg) : FnG P w K mg base 2 T.f__law_formula T.fd__law_formula p__law_formula D__law_formula := by
  refine fn_ok T.F__law_formula sc__law_formula rfl fun cdv A outer s H E hr hgd => ?_
  refine dss_cons ?_ ?_
  · exact (ds_set (i := 3) sc__law_formula.nd rfl (.inl rfl) (de_lstM da_nil))
  refine dss_nS ?_
  refine dss_cons ?_ ?_
  · exact (ds_for (vs := [4]) PassesOwn.never rfl (di_range1 (by rfl) T.m_range (da_cons (de_add de_int (de_call (ok__law_take T) (hr.mono (by decide)) hgd (by rfl) T.g__law_take T.F__law_take.kp T.b__law_take (da_cons (de_var 0) (da_cons de_int da_nil)))) da_nil)) (dg_name (i := 4) sc__law_formula.nd rfl (.inl rfl) (by decide))
      (dss_nS (dss_cons (ds_set (i := 5) sc__law_formula.nd rfl (.inl rfl) (de_call (ok__law_take T) (hr.mono (by decide)) hgd (by rfl) T.g__law_take T.F__law_take.kp T.b__law_take (da_cons (de_var 0) (da_cons de_int da_nil))))
      (dss_cons (ds_set (i := 6) sc__law_formula.nd rfl (.inl rfl) (de_tup (da_cons de_str (da_cons (de_ix (de_var 2) (de_call (ok__law_take T) (hr.mono (by decide)) hgd (by rfl) T.g__law_take T.F__law_take.kp T.b__law_take (da_cons (de_var 0) (da_cons (de_len (by rfl) T.m_len (de_var 2)) da_nil)))) da_nil))))
      (dss_cons (ds_if (dt_lt hr.units0 (de_var 5) de_int) (dss_one (ds_set (i := 6) sc__law_formula.nd rfl (.inl rfl) (de_tup (da_cons de_str (da_cons (de_add de_int (de_call (ok__law_take T) (hr.mono (by decide)) hgd (by rfl) T.g__law_take T.F__law_take.kp T.b__law_take (da_cons (de_var 0) (da_cons (de_var 1) da_nil)))) da_nil))))) (dss_one (ds_if (dt_eq hr.units (de_var 5) de_int) (dss_one (ds_set (i := 6) sc__law_formula.nd rfl (.inl rfl) (de_tup (da_cons de_str (da_consT (de_tup (da_cons de_str (da_consT (de_tup (da_cons (de_var 6) da_nil)) da_nil))) (da_consT (de_tup (da_cons de_str (da_consT (de_tup (da_consT (de_tup (da_cons de_str (da_cons (de_add de_int (de_call (ok__law_take T) (hr.mono (by decide)) hgd (by rfl) T.g__law_take T.F__law_take.kp T.b__law_take (da_cons (de_var 0) (da_cons (de_var 1) da_nil)))) da_nil))) da_nil)) da_nil))) da_nil)))))) (dss_one (ds_if (dt_eq hr.units (de_var 5) de_int) (dss_one (ds_set (i := 6) sc__law_formula.nd rfl (.inl rfl) (de_tup (da_cons de_str (da_consT (de_tup (da_cons (de_var 6) (da_consT (de_tup (da_cons de_str da_nil)) da_nil))) da_nil))))) dss_nil)))))
      (dss_cons (ds_if (dt_eq hr.units (de_call (ok__law_take T) (hr.mono (by decide)) hgd (by rfl) T.g__law_take T.F__law_take.kp T.b__law_take (da_cons (de_var 0) (da_cons de_int da_nil))) de_int) (dss_one (ds_set (i := 6) sc__law_formula.nd rfl (.inl rfl) (de_tup (da_cons de_str (da_cons (de_var 6) (da_cons (de_sub (de_call (ok__law_take T) (hr.mono (by decide)) hgd (by rfl) T.g__law_take T.F__law_take.kp T.b__law_take (da_cons (de_var 0) (da_cons de_int da_nil))) de_int) da_nil)))))) dss_nil)
      (dss_one (ds_expr (de_append (de_var 3) (de_var 6))))))))))
  refine dss_nS ?_
  refine dss_one ?_
  exact (ds_ret (de_tup (da_cons de_str (da_cons (de_callT call_tuple_of kTuple_ok (by rfl) T.m_tuple (by decide +kernel) (da_cons (de_var 3) da_nil)) da_nil))))
theorem ok__law_parts (T : Facts K mg) : FnG P w K mg base 1 T.f__law_parts T.fd__law_parts p__law_parts D__law_parts := by
  refine fn_ok T.F__law_parts sc__law_parts rfl fun cdv A outer s H E hr hgd => ?_
  refine dss_cons ?_ ?_
  · exact (ds_if (dt_eq hr.units (de_ix (de_var 0) de_int) de_str) (dss_one (ds_ret (de_callT call_list_of kListF_ok (by rfl) T.m_list (by decide +kernel) (da_cons (de_ix (de_var 0) de_int) da_nil)))) dss_nil)
  refine dss_nS ?_
  refine dss_one ?_
  exact (ds_ret (de_lc (own := [("_law_part", 1)]) rfl sc__law_parts.nd (di_seq (de_sl (de_var 0) (dp_sm de_int) dp_no)) (blkOk_by (N := N__law_parts) (sc := defScope s__law_parts) (by decide +kernel)) (fun _ _ _ _ _ => (dg_name (i := 1) sc__law_parts.nd rfl (.inl rfl) (by decide))) (fun _ _ _ _ _ => (dts_one (dt_val (de_isI .tup (hg := by rfl) (hm := T.m_isinstance) (hv := by decide +kernel) (hg2 := by rfl) (hm2 := T.m_tuple) (hv2 := by decide +kernel) (hn2 := by decide) (hd2 := by decide) (h := (de_var 1)))))) (fun _ _ _ _ _ => (de_nE (de_var 1)))))
theorem ok__law_own (T : Facts K mg) : FnG P w K mg base 2 T.f__law_own T.fd__law_own p__law_own D__law_own := by
  refine fn_ok T.F__law_own sc__law_own rfl fun cdv A outer s H E hr hgd => ?_
  refine dss_cons ?_ ?_
  · exact (ds_par (i := 2) (j := 3) rfl sc__law_own.nd rfl rfl (by decide) rfl rfl (da_consL (de_lstM da_nil) (da_cons (de_if (dt_inD hr (de_var 1) (de_var 0)) (de_lstM (da_cons (de_getD hr (de_var 0) (de_var 1)) da_nil)) (de_lstM da_nil)) da_nil)) (by rfl))
  refine dss_nS ?_
  refine dss_cons ?_ ?_
  · exact (ds_while PassesOwn.never (dt_ne hr.units (de_var 3) (de_lst da_nil)) (dss_nS (dss_cons (ds_set (i := 4) sc__law_own.nd rfl (.inl rfl) (de_mt0 PySem.F.slot_list_pop PySem.F.type_list_pop mt_pop kPop_ok (de_var 3)))
      (dss_cons (ds_if (dw_dt (dw_and (dt_eq hr.units (de_ix (de_var 4) de_int) de_str) (dw_and1 (dt_notInL hr (de_ix (de_var 4) de_int) (de_var 2))))) (dss_one (ds_expr (de_append (de_var 2) (de_ix (de_var 4) de_int)))) dss_nil)
      (dss_one (ds_expr (de_mt PySem.F.slot_list_extend PySem.F.type_list_extend mt_extend kExtend_ok (de_var 3) (da_cons (de_call (ok__law_parts T) (hr.mono (by decide)) hgd (by rfl) T.g__law_parts T.F__law_parts.kp T.b__law_parts (da_cons (de_var 4) da_nil)) da_nil))))))))
  refine dss_nS ?_
  refine dss_one ?_
  exact (ds_ret (de_callB cr_sortedS kSortSL_ok (by rfl) T.m_sorted (by decide +kernel) (da_cons (de_var 2) da_nil)))
theorem ok__law_ring (T : Facts K mg) : FnG P w K mg base 3 T.f__law_ring T.fd__law_ring p__law_ring D__law_ring := by
  refine fn_ok T.F__law_ring sc__law_ring rfl fun cdv A outer s H E hr hgd => ?_
  refine dss_cons ?_ ?_
  · exact (ds_set (i := 3) sc__law_ring.nd rfl (.inl rfl) (de_callT cr_copyK kCopyK_ok (by rfl) T.m_dict (by decide +kernel) (da_cons (de_var 0) da_nil)))
  refine dss_nS ?_
  refine dss_cons ?_ ?_
  · exact (ds_putD hr (de_var 3) (de_var 1) (de_var 2))
  refine dss_nS ?_
  refine dss_cons ?_ ?_
  · exact (ds_par (i := 4) (j := 5) rfl sc__law_ring.nd rfl rfl (by decide) rfl rfl (da_consL (de_lst (da_consL (de_lst (da_cons (de_var 1) da_nil)) da_nil)) (da_cons (de_newK) da_nil)) (by rfl))
  refine dss_nS ?_
  refine dss_cons ?_ ?_
  · exact (ds_while PassesOwn.never (dt_ne hr.units (de_var 4) (de_lst da_nil)) (dss_nS (dss_cons (ds_set (i := 6) sc__law_ring.nd rfl (.inl rfl) (de_lstM da_nil))
      (dss_cons (ds_for (vs := [7]) PassesOwn.never rfl (di_seq (de_var 4)) (dg_name (i := 7) sc__law_ring.nd rfl (.inl rfl) (by decide))
      (dss_nS (dss_one (ds_for (vs := [8]) PassesOwn.never rfl (di_seq (de_call (ok__law_own T) (hr.mono (by decide)) hgd (by rfl) T.g__law_own T.F__law_own.kp T.b__law_own (da_cons (de_var 3) (da_cons (de_ix (de_var 7) (de_neg de_int)) da_nil)))) (dg_name (i := 8) sc__law_ring.nd rfl (.inl rfl) (by decide))
      (dss_nS (dss_cons (ds_if (dt_eq hr.units (de_var 8) (de_var 1)) (dss_one (ds_ret (de_add (de_var 7) (de_lst (da_cons (de_var 1) da_nil))))) dss_nil)
      (dss_one (ds_if (dt_notInD hr (de_var 8) (de_var 5)) (dss_cons (ds_putD hr (de_var 5) (de_var 8) de_bl)
      (dss_one (ds_expr (de_append (de_var 6) (de_add (de_var 7) (de_lst (da_cons (de_var 8) da_nil))))))) dss_nil))))))))
      (dss_one (ds_set (i := 4) sc__law_ring.nd rfl (.inl rfl) (de_frz (de_var 6))))))))
  refine dss_nS ?_
  refine dss_one ?_
  exact (ds_ret de_non)
theorem ok__law_same (T : Facts K mg) : ∀ n, FnG P w K mg base (0 + n) T.f__law_same T.fd__law_same p__law_same (D__law_same n)
  | 0 => ⟨fun ds l Q h => h.elim, fun A outer s H args us vs Q E hr hg e hb r ⟨F, Fr, ds, l, Qd, a, b, c, d⟩ => c.elim⟩
  | n + 1 => by
    refine fn_ok (k := 0 + n) T.F__law_same sc__law_same rfl fun cdv A outer s H E hr hgd => ?_
    refine dss_cons ?_ ?_
    · exact (ds_if (dt_val (de_isI2 .lst .tup (hg := by rfl) (hm := T.m_isinstance) (hv := by decide +kernel) (hg2 := by rfl) (hm2 := T.m_list) (hv2 := by decide +kernel) (hn2 := by decide) (hd2 := by decide) (hg3 := by rfl) (hm3 := T.m_tuple) (hv3 := by decide +kernel) (hn3 := by decide) (hd3 := by decide) (h := (de_var 1)))) (dss_cons (ds_if (dw_dt (dw_or (dt_ne hr.units (de_isI .lst (hg := by rfl) (hm := T.m_isinstance) (hv := by decide +kernel) (hg2 := by rfl) (hm2 := T.m_list) (hv2 := by decide +kernel) (hn2 := by decide) (hd2 := by decide) (h := (de_var 0))) (de_isI .lst (hg := by rfl) (hm := T.m_isinstance) (hv := by decide +kernel) (hg2 := by rfl) (hm2 := T.m_list) (hv2 := by decide +kernel) (hn2 := by decide) (hd2 := by decide) (h := (de_var 1)))) (dw_or1 (dt_ne hr.units (de_isI .tup (hg := by rfl) (hm := T.m_isinstance) (hv := by decide +kernel) (hg2 := by rfl) (hm2 := T.m_tuple) (hv2 := by decide +kernel) (hn2 := by decide) (hd2 := by decide) (h := (de_var 0))) (de_isI .tup (hg := by rfl) (hm := T.m_isinstance) (hv := by decide +kernel) (hg2 := by rfl) (hm2 := T.m_tuple) (hv2 := by decide +kernel) (hn2 := by decide) (hd2 := by decide) (h := (de_var 1))))))) (dss_one (ds_ret de_bl)) dss_nil)
      (dss_one (ds_ret (de_and (de_eq hr.units (de_len (by rfl) T.m_len (de_var 0)) (de_len (by rfl) T.m_len (de_var 1))) (de_one (de_callB (cr_all rfl) kAll_ok (by rfl) T.m_all (by decide +kernel) (da_cons (de_lcV (own := [("_law_one", 2), ("_law_other", 3)]) rfl sc__law_same.nd (div_zipV (by rfl) T.m_zip (da_cons (de_var 0) (da_cons (de_var 1) da_nil))) (blkOk_by (N := N__law_same) (sc := defScope s__law_same) (by decide +kernel)) (fun _ _ _ _ _ => (dg_tup rfl (dgs_cons (dg_name (i := 2) sc__law_same.nd rfl (.inl rfl) (by decide)) (dgs_cons (dg_name (i := 3) sc__law_same.nd rfl (.inl rfl) (by decide)) dgs_nil)))) (fun _ _ _ _ _ => dts_nil) (fun _ _ _ _ _ => (de_nE (de_call (ok__law_same T n) (hr.mono (by omega)) hgd (by rfl) T.g__law_same T.F__law_same.kp T.b__law_same (da_cons (de_var 2) (da_cons (de_var 3) da_nil)))))) da_nil))))))) dss_nil)
    refine dss_nS ?_
    refine dss_cons ?_ ?_
    · exact (ds_if (dw_dt (dw_or (dt_isN (de_var 1) de_non) (dw_or1 (dt_val (de_isI .str (hg := by rfl) (hm := T.m_isinstance) (hv := by decide +kernel) (hg2 := by rfl) (hm2 := T.m_str) (hv2 := by decide +kernel) (hn2 := by decide) (hd2 := by decide) (h := (de_var 1))))))) (dss_one (ds_ret (de_and (de_eq hr.units (de_isI .str (hg := by rfl) (hm := T.m_isinstance) (hv := by decide +kernel) (hg2 := by rfl) (hm2 := T.m_str) (hv2 := by decide +kernel) (hn2 := by decide) (hd2 := by decide) (h := (de_var 0))) (de_isI .str (hg := by rfl) (hm := T.m_isinstance) (hv := by decide +kernel) (hg2 := by rfl) (hm2 := T.m_str) (hv2 := by decide +kernel) (hn2 := by decide) (hd2 := by decide) (h := (de_var 1)))) (de_one (de_eq hr.units (de_var 0) (de_var 1)))))) dss_nil)
    refine dss_nS ?_
    refine dss_one ?_
    exact (ds_ret (de_and (de_isI .int (hg := by rfl) (hm := T.m_isinstance) (hv := by decide +kernel) (hg2 := by rfl) (hm2 := T.m_int) (hv2 := by decide +kernel) (hn2 := by decide) (hd2 := by decide) (h := (de_var 0))) (de_and (de_eq hr.units (de_isI .bl (hg := by rfl) (hm := T.m_isinstance) (hv := by decide +kernel) (hg2 := by rfl) (hm2 := T.m_bool) (hv2 := by decide +kernel) (hn2 := by decide) (hd2 := by decide) (h := (de_var 0))) (de_isI .bl (hg := by rfl) (hm := T.m_isinstance) (hv := by decide +kernel) (hg2 := by rfl) (hm2 := T.m_bool) (hv2 := by decide +kernel) (hn2 := by decide) (hd2 := by decide) (h := (de_var 1)))) (de_one (de_eq hr.units (de_var 0) (de_var 1))))))
theorem ok_is_name (T : Facts K mg) : FnG P w K mg base 1 T.f_is_name T.fd_is_name p_is_name D_is_name := by
  refine fn_ok T.F_is_name sc_is_name rfl fun cdv A outer s H E hr hgd => ?_
  refine dss_one ?_
  exact (ds_ret (de_and (de_chain op_le op_le kLe_ok kLe_ok de_int (de_len (by rfl) T.m_len (de_var 0)) (de_glob (by rfl) T.v_MOST_NAME)) (de_one (de_callB (cr_all rfl) kAll_ok (by rfl) T.m_all (by decide +kernel) (da_cons (de_lc (own := [("sign", 1)]) rfl sc_is_name.nd (di_str (de_var 0)) (blkOk_by (N := N_is_name) (sc := defScope s_is_name) (by decide +kernel)) (fun _ _ _ _ _ => (dg_name (i := 1) sc_is_name.nd rfl (.inl rfl) (by decide))) (fun _ _ _ _ _ => dts_nil) (fun _ _ _ _ _ => (de_nE (de_inC (de_var 1) (de_globS (by rfl) T.v_SMALL_SIGNS))))) da_nil)))))
theorem ok_Reading_init (T : Facts K mg) : FnG P w K mg base 1 T.f_Reading_init T.fd_Reading_init p_Reading_init D_Reading_init := by
  refine fn_ok T.F_Reading_init sc_Reading_init rfl fun cdv A outer s H E hr hgd => ?_
  refine dss_cons ?_ ?_
  · exact (ds_fld 0 rfl (by decide +kernel) (by decide +kernel) T.n_Reading T.k_Reading T.na_Reading_text (de_var 0) (de_var 1))
  refine dss_nS ?_
  refine dss_cons ?_ ?_
  · exact (ds_fld 1 rfl (by decide +kernel) (by decide +kernel) T.n_Reading T.k_Reading T.na_Reading_at (de_var 0) de_int)
  refine dss_nS ?_
  refine dss_one ?_
  exact (ds_fld 2 rfl (by decide +kernel) (by decide +kernel) T.n_Reading T.k_Reading T.na_Reading_open_count (de_var 0) de_int)
theorem ok_Reading_sign (T : Facts K mg) : FnG P w K mg base 1 T.f_Reading_sign T.fd_Reading_sign p_Reading_sign D_Reading_sign := by
  refine fn_ok T.F_Reading_sign sc_Reading_sign rfl fun cdv A outer s H E hr hgd => ?_
  refine dss_one ?_
  exact (ds_ret (de_slS (de_fld 0 rfl (by decide +kernel) T.n_Reading T.k_Reading T.na_Reading_text (de_var 0)) (dp_sm (de_fld 1 rfl (by decide +kernel) T.n_Reading T.k_Reading T.na_Reading_at (de_var 0))) (dp_sm (de_add (de_fld 1 rfl (by decide +kernel) T.n_Reading T.k_Reading T.na_Reading_at (de_var 0)) de_int))))
theorem ok_Reading_stop (T : Facts K mg) : FnX P w K mg base 3 T.f_Reading_stop T.fd_Reading_stop p_Reading_stop D_Reading_stop := by
  refine fnx_ok T.F_Reading_stop sc_Reading_stop rfl fun cdv A outer s H E hr hgd hp => ?_
  refine dxs_one ?_
  exact (dxs_raise1 6 rfl T.eg_BadText T.en_BadText T.xf_BadText (okI_BadText T) (hr.mono (by decide)) T.bi_BadText (by rfl) (de_fld 1 rfl (by decide +kernel) T.n_Reading T.k_Reading T.na_Reading_at (de_var 0)))
theorem ok_Reading_take (T : Facts K mg) : FnX P w K mg base 4 T.f_Reading_take T.fd_Reading_take p_Reading_take D_Reading_take := by
  refine fnx_ok T.F_Reading_take sc_Reading_take rfl fun cdv A outer s H E hr hgd hp => ?_
  refine dxs_cons ?_ ?_
  · exact (dxs_if (dt_ne hr.units (de_meth0 T.n_Reading T.k_Reading T.m_Reading_sign (by decide +kernel) (ok_Reading_sign T) (hr.mono (by decide)) hgd T.b_Reading_sign (de_var 0)) (de_var 1)) (dxs_one (dxs_expr (dx_meth0 T.n_Reading T.k_Reading T.m_Reading_stop (by decide +kernel) (ok_Reading_stop T) (hr.mono (by decide)) hgd T.b_Reading_stop (de_var 0)))) (dx_ss dss_nil))
  refine dxs_nS ?_
  refine dxs_one ?_
  exact (dx_s (ds_augF 1 rfl (by decide +kernel) (by decide +kernel) T.n_Reading T.k_Reading T.na_Reading_at in_add kAddI_ok (de_var 0) de_int))
theorem ok_is_among (T : Facts K mg) : FnG P w K mg base 1 T.f_is_among T.fd_is_among p_is_among D_is_among := by
  refine fn_ok T.F_is_among sc_is_among rfl fun cdv A outer s H E hr hgd => ?_
  refine dss_one ?_
  exact (ds_ret (de_and (de_ne hr.units (de_var 0) de_str) (de_one (de_inC (de_var 0) (de_var 1)))))
theorem ok_Reading_number (T : Facts K mg) : FnX P w K mg base 5 T.f_Reading_number T.fd_Reading_number p_Reading_number D_Reading_number := by
  refine fnx_ok T.F_Reading_number sc_Reading_number rfl fun cdv A outer s H E hr hgd hp => ?_
  refine dxs_cons ?_ ?_
  · exact (dx_s (ds_set (i := 1) sc_Reading_number.nd rfl (.inl rfl) de_int))
  refine dxs_nS ?_
  refine dxs_cons ?_ ?_
  · exact (dxs_if (dt_eq hr.units (de_meth0 T.n_Reading T.k_Reading T.m_Reading_sign (by decide +kernel) (ok_Reading_sign T) (hr.mono (by decide)) hgd T.b_Reading_sign (de_var 0)) de_str) (dxs_cons (dxs_expr (dx_meth T.n_Reading T.k_Reading T.m_Reading_take (by decide +kernel) (ok_Reading_take T) (hr.mono (by decide)) hgd T.b_Reading_take (de_var 0) (dxa_cons (dx_e de_str) dxa_nil)))
      (dxs_one (dx_s (ds_set (i := 1) sc_Reading_number.nd rfl (.inl rfl) (de_neg de_int))))) (dx_ss dss_nil))
  refine dxs_nS ?_
  refine dxs_cons ?_ ?_
  · exact (dx_s (ds_set (i := 2) sc_Reading_number.nd rfl (.inl rfl) (de_meth0 T.n_Reading T.k_Reading T.m_Reading_sign (by decide +kernel) (ok_Reading_sign T) (hr.mono (by decide)) hgd T.b_Reading_sign (de_var 0))))
  refine dxs_nS ?_
  refine dxs_cons ?_ ?_
  · exact (dxs_if (dw_dt (dw_or (dt_not (dt_val (de_call (ok_is_among T) (hr.mono (by decide)) hgd (by rfl) T.g_is_among T.F_is_among.kp T.b_is_among (da_cons (de_var 2) (da_cons (de_globS (by rfl) T.v_FIGURE_SIGNS) da_nil))))) (dw_or1 (dw_dt (dw_and (dt_lt hr.units0 (de_var 1) de_int) (dw_and1 (dt_eq hr.units (de_var 2) de_str))))))) (dxs_one (dxs_expr (dx_meth0 T.n_Reading T.k_Reading T.m_Reading_stop (by decide +kernel) (ok_Reading_stop T) (hr.mono (by decide)) hgd T.b_Reading_stop (de_var 0)))) (dx_ss dss_nil))
  refine dxs_nS ?_
  refine dxs_cons ?_ ?_
  · exact (dxs_expr (dx_meth T.n_Reading T.k_Reading T.m_Reading_take (by decide +kernel) (ok_Reading_take T) (hr.mono (by decide)) hgd T.b_Reading_take (de_var 0) (dxa_cons (dx_e (de_var 2)) dxa_nil)))
  refine dxs_nS ?_
  refine dxs_cons ?_ ?_
  · exact (dxs_while hp (dw_dt (dw_and (dt_ne hr.units (de_var 2) de_str) (dw_and (dt_lt hr.units0 (de_len (by rfl) T.m_len (de_var 2)) (de_glob (by rfl) T.v_MOST_FIGURES)) (dw_and1 (dt_val (de_call (ok_is_among T) (hr.mono (by decide)) hgd (by rfl) T.g_is_among T.F_is_among.kp T.b_is_among (da_cons (de_meth0 T.n_Reading T.k_Reading T.m_Reading_sign (by decide +kernel) (ok_Reading_sign T) (hr.mono (by decide)) hgd T.b_Reading_sign (de_var 0)) (da_cons (de_globS (by rfl) T.v_FIGURE_SIGNS) da_nil)))))))) (dxs_nS (dxs_cons (dx_s (ds_aug (i := 2) sc_Reading_number.nd rfl (.inl rfl) iop_add2 kAdd2_ok (de_meth0 T.n_Reading T.k_Reading T.m_Reading_sign (by decide +kernel) (ok_Reading_sign T) (hr.mono (by decide)) hgd T.b_Reading_sign (de_var 0))))
      (dxs_one (dxs_expr (dx_meth T.n_Reading T.k_Reading T.m_Reading_take (by decide +kernel) (ok_Reading_take T) (hr.mono (by decide)) hgd T.b_Reading_take (de_var 0) (dxa_cons (dx_e (de_meth0 T.n_Reading T.k_Reading T.m_Reading_sign (by decide +kernel) (ok_Reading_sign T) (hr.mono (by decide)) hgd T.b_Reading_sign (de_var 0))) dxa_nil)))))))
  refine dxs_nS ?_
  refine dxs_one ?_
  exact (dx_s (ds_ret (de_mul (de_var 1) (de_callT call_int_str kIntS_ok (by rfl) T.m_int (by decide +kernel) (da_cons (de_var 2) da_nil)))))
theorem ok_Reading_enter (T : Facts K mg) : FnX P w K mg base 5 T.f_Reading_enter T.fd_Reading_enter p_Reading_enter D_Reading_enter := by
  refine fnx_ok T.F_Reading_enter sc_Reading_enter rfl fun cdv A outer s H E hr hgd hp => ?_
  refine dxs_cons ?_ ?_
  · exact (dxs_if (dt_eq hr.units (de_fld 2 rfl (by decide +kernel) T.n_Reading T.k_Reading T.na_Reading_open_count (de_var 0)) (de_glob (by rfl) T.v_MOST_NESTED)) (dxs_one (dxs_expr (dx_meth0 T.n_Reading T.k_Reading T.m_Reading_stop (by decide +kernel) (ok_Reading_stop T) (hr.mono (by decide)) hgd T.b_Reading_stop (de_var 0)))) (dx_ss dss_nil))
  refine dxs_nS ?_
  refine dxs_cons ?_ ?_
  · exact (dxs_expr (dx_meth T.n_Reading T.k_Reading T.m_Reading_take (by decide +kernel) (ok_Reading_take T) (hr.mono (by decide)) hgd T.b_Reading_take (de_var 0) (dxa_cons (dx_e (de_var 1)) dxa_nil)))
  refine dxs_nS ?_
  refine dxs_one ?_
  exact (dx_s (ds_augF 2 rfl (by decide +kernel) (by decide +kernel) T.n_Reading T.k_Reading T.na_Reading_open_count in_add kAddI_ok (de_var 0) de_int))
theorem ok_Reading_leave (T : Facts K mg) : FnX P w K mg base 5 T.f_Reading_leave T.fd_Reading_leave p_Reading_leave D_Reading_leave := by
  refine fnx_ok T.F_Reading_leave sc_Reading_leave rfl fun cdv A outer s H E hr hgd hp => ?_
  refine dxs_cons ?_ ?_
  · exact (dxs_expr (dx_meth T.n_Reading T.k_Reading T.m_Reading_take (by decide +kernel) (ok_Reading_take T) (hr.mono (by decide)) hgd T.b_Reading_take (de_var 0) (dxa_cons (dx_e (de_var 1)) dxa_nil)))
  refine dxs_nS ?_
  refine dxs_one ?_
  exact (dx_s (ds_augF 2 rfl (by decide +kernel) (by decide +kernel) T.n_Reading T.k_Reading T.na_Reading_open_count in_sub kSubI_ok (de_var 0) de_int))
theorem ok_Reading_letters (T : Facts K mg) : FnX P w K mg base 5 T.f_Reading_letters T.fd_Reading_letters p_Reading_letters D_Reading_letters := by
  refine fnx_ok T.F_Reading_letters sc_Reading_letters rfl fun cdv A outer s H E hr hgd hp => ?_
  refine dxs_cons ?_ ?_
  · exact (dx_s (ds_set (i := 1) sc_Reading_letters.nd rfl (.inl rfl) (de_fld 1 rfl (by decide +kernel) T.n_Reading T.k_Reading T.na_Reading_at (de_var 0))))
  refine dxs_nS ?_
  refine dxs_cons ?_ ?_
  · exact (dxs_while hp (dw_dt (dw_and (dt_lt hr.units0 (de_sub (de_fld 1 rfl (by decide +kernel) T.n_Reading T.k_Reading T.na_Reading_at (de_var 0)) (de_var 1)) (de_glob (by rfl) T.v_MOST_NAME)) (dw_and1 (dt_val (de_call (ok_is_among T) (hr.mono (by decide)) hgd (by rfl) T.g_is_among T.F_is_among.kp T.b_is_among (da_cons (de_meth0 T.n_Reading T.k_Reading T.m_Reading_sign (by decide +kernel) (ok_Reading_sign T) (hr.mono (by decide)) hgd T.b_Reading_sign (de_var 0)) (da_cons (de_globS (by rfl) T.v_SMALL_SIGNS) da_nil))))))) (dxs_nS (dxs_one (dxs_expr (dx_meth T.n_Reading T.k_Reading T.m_Reading_take (by decide +kernel) (ok_Reading_take T) (hr.mono (by decide)) hgd T.b_Reading_take (de_var 0) (dxa_cons (dx_e (de_meth0 T.n_Reading T.k_Reading T.m_Reading_sign (by decide +kernel) (ok_Reading_sign T) (hr.mono (by decide)) hgd T.b_Reading_sign (de_var 0))) dxa_nil))))))
  refine dxs_nS ?_
  refine dxs_cons ?_ ?_
  · exact (dx_s (ds_set (i := 2) sc_Reading_letters.nd rfl (.inl rfl) (de_slS (de_fld 0 rfl (by decide +kernel) T.n_Reading T.k_Reading T.na_Reading_text (de_var 0)) (dp_sm (de_var 1)) (dp_sm (de_fld 1 rfl (by decide +kernel) T.n_Reading T.k_Reading T.na_Reading_at (de_var 0))))))
  refine dxs_nS ?_
  refine dxs_cons ?_ ?_
  · exact (dx_s (ds_if (dt_val (de_call (ok_is_name T) (hr.mono (by decide)) hgd (by rfl) T.g_is_name T.F_is_name.kp T.b_is_name (da_cons (de_var 2) da_nil))) (dss_one (ds_ret (de_tup (da_cons de_str (da_cons (de_var 2) da_nil))))) dss_nil))
  refine dxs_nS ?_
  refine dxs_cons ?_ ?_
  · exact (dxs_if (dt_not (dt_val (de_call (ok_is_among T) (hr.mono (by decide)) hgd (by rfl) T.g_is_among T.F_is_among.kp T.b_is_among (da_cons (de_var 2) (da_cons (de_globS (by rfl) T.v_LETTER_SIGNS) da_nil))))) (dxs_one (dxs_expr (dx_meth0 T.n_Reading T.k_Reading T.m_Reading_stop (by decide +kernel) (ok_Reading_stop T) (hr.mono (by decide)) hgd T.b_Reading_stop (de_var 0)))) (dx_ss dss_nil))
  refine dxs_nS ?_
  refine dxs_one ?_
  exact (dx_s (ds_ret (de_tup (da_cons de_str (da_cons (de_add (de_idxS rfl (de_globS (by rfl) T.v_LETTER_SIGNS) (de_var 2)) de_int) da_nil)))))
theorem okG_Reading_expr (T : Facts K mg) : ∀ n, FnX P w K mg base (5 + n) T.f_Reading_expr T.fd_Reading_expr p_Reading_expr (D_Reading_expr n) ∧ FnX P w K mg base (5 + n) T.f_Reading_item T.fd_Reading_item p_Reading_item (D_Reading_item n) ∧ FnX P w K mg base (5 + n) T.f_Reading_atom T.fd_Reading_atom p_Reading_atom (D_Reading_atom n)
  | 0 => ⟨⟨fun wd ds l Q h => h.elim, fun A outer s H args us vs Q E hr hg e hb r ⟨F, Fr, ds, l, Qd, wd, a, b, c, d⟩ => c.elim⟩, ⟨fun wd ds l Q h => h.elim, fun A outer s H args us vs Q E hr hg e hb r ⟨F, Fr, ds, l, Qd, wd, a, b, c, d⟩ => c.elim⟩, ⟨fun wd ds l Q h => h.elim, fun A outer s H args us vs Q E hr hg e hb r ⟨F, Fr, ds, l, Qd, wd, a, b, c, d⟩ => c.elim⟩⟩
  | n + 1 => by
    obtain ⟨ih_Reading_expr, ih_Reading_item, ih_Reading_atom⟩ := okG_Reading_expr T n
    refine ⟨?_, ?_, ?_⟩
    · refine fnx_ok (k := 5 + n) T.F_Reading_expr sc_Reading_expr rfl fun cdv A outer s H E hr hgd hp => ?_
      refine dxs_cons ?_ ?_
      · exact (dxs_set (i := 1) sc_Reading_expr.nd rfl (.inl rfl) (dx_lstM (dxa_cons (dx_meth0 T.n_Reading T.k_Reading T.m_Reading_item (by decide +kernel) ih_Reading_item (hr.mono (by omega)) hgd T.b_Reading_item (de_var 0)) dxa_nil)))
      refine dxs_nS ?_
      refine dxs_cons ?_ ?_
      · exact (dxs_while hp (dt_eq hr.units (de_meth0 T.n_Reading T.k_Reading T.m_Reading_sign (by decide +kernel) (ok_Reading_sign T) (hr.mono (by omega)) hgd T.b_Reading_sign (de_var 0)) de_str) (dxs_nS (dxs_cons (dxs_expr (dx_meth T.n_Reading T.k_Reading T.m_Reading_take (by decide +kernel) (ok_Reading_take T) (hr.mono (by omega)) hgd T.b_Reading_take (de_var 0) (dxa_cons (dx_e de_str) dxa_nil)))
      (dxs_one (dxs_expr (dx_append (de_var 1) (dx_meth0 T.n_Reading T.k_Reading T.m_Reading_item (by decide +kernel) ih_Reading_item (hr.mono (by omega)) hgd T.b_Reading_item (de_var 0))))))))
      refine dxs_nS ?_
      refine dxs_one ?_
      exact (dx_s (ds_ret (de_tup (da_cons de_str (da_cons (de_callT call_tuple_of kTuple_ok (by rfl) T.m_tuple (by decide +kernel) (da_cons (de_var 1) da_nil)) da_nil)))))
    · refine fnx_ok (k := 5 + n) T.F_Reading_item sc_Reading_item rfl fun cdv A outer s H E hr hgd hp => ?_
      refine dxs_cons ?_ ?_
      · exact (dxs_set (i := 1) sc_Reading_item.nd rfl (.inl rfl) (dx_meth0 T.n_Reading T.k_Reading T.m_Reading_atom (by decide +kernel) ih_Reading_atom (hr.mono (by omega)) hgd T.b_Reading_atom (de_var 0)))
      refine dxs_nS ?_
      refine dxs_cons ?_ ?_
      · exact (dx_s (ds_if (dt_ne hr.units (de_meth0 T.n_Reading T.k_Reading T.m_Reading_sign (by decide +kernel) (ok_Reading_sign T) (hr.mono (by omega)) hgd T.b_Reading_sign (de_var 0)) de_str) (dss_one (ds_ret (de_var 1))) dss_nil))
      refine dxs_nS ?_
      refine dxs_cons ?_ ?_
      · exact (dxs_expr (dx_meth T.n_Reading T.k_Reading T.m_Reading_take (by decide +kernel) (ok_Reading_take T) (hr.mono (by omega)) hgd T.b_Reading_take (de_var 0) (dxa_cons (dx_e de_str) dxa_nil)))
      refine dxs_nS ?_
      refine dxs_one ?_
      exact (dxs_ret (dx_tup (dxa_cons (dx_e de_str) (dxa_cons (dx_e (de_var 1)) (dxa_cons (dx_meth0 T.n_Reading T.k_Reading T.m_Reading_number (by decide +kernel) (ok_Reading_number T) (hr.mono (by omega)) hgd T.b_Reading_number (de_var 0)) dxa_nil)))))
    · refine fnx_ok (k := 5 + n) T.F_Reading_atom sc_Reading_atom rfl fun cdv A outer s H E hr hgd hp => ?_
      refine dxs_cons ?_ ?_
      · exact (dxs_if (dt_eq hr.units (de_meth0 T.n_Reading T.k_Reading T.m_Reading_sign (by decide +kernel) (ok_Reading_sign T) (hr.mono (by omega)) hgd T.b_Reading_sign (de_var 0)) de_str) (dxs_cons (dxs_expr (dx_meth T.n_Reading T.k_Reading T.m_Reading_take (by decide +kernel) (ok_Reading_take T) (hr.mono (by omega)) hgd T.b_Reading_take (de_var 0) (dxa_cons (dx_e de_str) dxa_nil)))
      (dxs_one (dx_s (ds_ret (de_tup (da_cons de_str da_nil)))))) (dx_ss dss_nil))
      refine dxs_nS ?_
      refine dxs_cons ?_ ?_
      · exact (dxs_if (dt_eq hr.units (de_meth0 T.n_Reading T.k_Reading T.m_Reading_sign (by decide +kernel) (ok_Reading_sign T) (hr.mono (by omega)) hgd T.b_Reading_sign (de_var 0)) de_str) (dxs_cons (dxs_expr (dx_meth T.n_Reading T.k_Reading T.m_Reading_enter (by decide +kernel) (ok_Reading_enter T) (hr.mono (by omega)) hgd T.b_Reading_enter (de_var 0) (dxa_cons (dx_e de_str) dxa_nil)))
      (dxs_cons (dxs_set (i := 1) sc_Reading_atom.nd rfl (.inl rfl) (dx_meth0 T.n_Reading T.k_Reading T.m_Reading_expr (by decide +kernel) ih_Reading_expr (hr.mono (by omega)) hgd T.b_Reading_expr (de_var 0)))
      (dxs_cons (dxs_expr (dx_meth T.n_Reading T.k_Reading T.m_Reading_take (by decide +kernel) (ok_Reading_take T) (hr.mono (by omega)) hgd T.b_Reading_take (de_var 0) (dxa_cons (dx_e de_str) dxa_nil)))
      (dxs_cons (dxs_expr (dx_meth T.n_Reading T.k_Reading T.m_Reading_take (by decide +kernel) (ok_Reading_take T) (hr.mono (by omega)) hgd T.b_Reading_take (de_var 0) (dxa_cons (dx_e de_str) dxa_nil)))
      (dxs_cons (dxs_set (i := 2) sc_Reading_atom.nd rfl (.inl rfl) (dx_meth0 T.n_Reading T.k_Reading T.m_Reading_expr (by decide +kernel) ih_Reading_expr (hr.mono (by omega)) hgd T.b_Reading_expr (de_var 0)))
      (dxs_cons (dxs_expr (dx_meth T.n_Reading T.k_Reading T.m_Reading_leave (by decide +kernel) (ok_Reading_leave T) (hr.mono (by omega)) hgd T.b_Reading_leave (de_var 0) (dxa_cons (dx_e de_str) dxa_nil)))
      (dxs_one (dx_s (ds_ret (de_tup (da_cons de_str (da_cons (de_var 1) (da_cons (de_var 2) da_nil))))))))))))) (dx_ss dss_nil))
      refine dxs_nS ?_
      refine dxs_cons ?_ ?_
      · exact (dxs_if (dt_eq hr.units (de_meth0 T.n_Reading T.k_Reading T.m_Reading_sign (by decide +kernel) (ok_Reading_sign T) (hr.mono (by omega)) hgd T.b_Reading_sign (de_var 0)) de_str) (dxs_cons (dxs_expr (dx_meth T.n_Reading T.k_Reading T.m_Reading_enter (by decide +kernel) (ok_Reading_enter T) (hr.mono (by omega)) hgd T.b_Reading_enter (de_var 0) (dxa_cons (dx_e de_str) dxa_nil)))
      (dxs_cons (dxs_set (i := 3) sc_Reading_atom.nd rfl (.inl rfl) (dx_meth0 T.n_Reading T.k_Reading T.m_Reading_expr (by decide +kernel) ih_Reading_expr (hr.mono (by omega)) hgd T.b_Reading_expr (de_var 0)))
      (dxs_cons (dxs_expr (dx_meth T.n_Reading T.k_Reading T.m_Reading_leave (by decide +kernel) (ok_Reading_leave T) (hr.mono (by omega)) hgd T.b_Reading_leave (de_var 0) (dxa_cons (dx_e de_str) dxa_nil)))
      (dxs_one (dx_s (ds_ret (de_var 3))))))) (dx_ss dss_nil))
      refine dxs_nS ?_
      refine dxs_one ?_
      exact (dxs_ret (dx_meth0 T.n_Reading T.k_Reading T.m_Reading_letters (by decide +kernel) (ok_Reading_letters T) (hr.mono (by omega)) hgd T.b_Reading_letters (de_var 0)))
theorem ok_Reading_expr (T : Facts K mg) (n : Nat) : FnX P w K mg base (5 + n) T.f_Reading_expr T.fd_Reading_expr p_Reading_expr (D_Reading_expr n) := (okG_Reading_expr T n).1
theorem ok_Reading_item (T : Facts K mg) (n : Nat) : FnX P w K mg base (5 + n) T.f_Reading_item T.fd_Reading_item p_Reading_item (D_Reading_item n) := (okG_Reading_expr T n).2.1
theorem ok_Reading_atom (T : Facts K mg) (n : Nat) : FnX P w K mg base (5 + n) T.f_Reading_atom T.fd_Reading_atom p_Reading_atom (D_Reading_atom n) := (okG_Reading_expr T n).2.2
theorem ok_read_tree (T : Facts K mg) : FnX P w K mg base 76 T.f_read_tree T.fd_read_tree p_read_tree D_read_tree := by
  refine fnx_ok T.F_read_tree sc_read_tree rfl fun cdv A outer s H E hr hgd hp => ?_
  refine dxs_cons ?_ ?_
  · exact (dx_s (ds_set (i := 1) sc_read_tree.nd rfl (.inl rfl) (de_make T.n_Reading T.mk_Reading (ok_Reading_init T) (hr.mono (by decide)) hgd (by rfl) T.gc_Reading T.b_Reading_init (da_cons (de_var 0) da_nil))))
  refine dxs_nS ?_
  refine dxs_cons ?_ ?_
  · exact (dxs_set (i := 2) sc_read_tree.nd rfl (.inl rfl) (dx_meth0 T.n_Reading T.k_Reading T.m_Reading_expr (by decide +kernel) (ok_Reading_expr T 70) (hr.mono (by decide)) hgd T.b_Reading_expr (de_var 1)))
  refine dxs_nS ?_
  refine dxs_cons ?_ ?_
  · exact (dxs_if (dt_lt hr.units0 (de_fld 1 rfl (by decide +kernel) T.n_Reading T.k_Reading T.na_Reading_at (de_var 1)) (de_len (by rfl) T.m_len (de_var 0))) (dxs_one (dxs_expr (dx_meth0 T.n_Reading T.k_Reading T.m_Reading_stop (by decide +kernel) (ok_Reading_stop T) (hr.mono (by decide)) hgd T.b_Reading_stop (de_var 1)))) (dx_ss dss_nil))
  refine dxs_nS ?_
  refine dxs_one ?_
  exact (dx_s (ds_ret (de_var 2)))
theorem ok_leaves_of (T : Facts K mg) : ∀ n, FnG P w K mg base (0 + n) T.f_leaves_of T.fd_leaves_of p_leaves_of (D_leaves_of n)
  | 0 => ⟨fun ds l Q h => h.elim, fun A outer s H args us vs Q E hr hg e hb r ⟨F, Fr, ds, l, Qd, a, b, c, d⟩ => c.elim⟩
  | n + 1 => by
    refine fn_ok (k := 0 + n) T.F_leaves_of sc_leaves_of rfl fun cdv A outer s H E hr hgd => ?_
    refine dss_cons ?_ ?_
    · exact (ds_if (dt_inTu hr (de_ix (de_var 0) de_int) (de_tup (da_cons de_str (da_cons de_str da_nil)))) (dss_one (ds_ret (de_lst (da_cons (de_var 0) da_nil)))) dss_nil)
    refine dss_nS ?_
    refine dss_cons ?_ ?_
    · exact (ds_if (dt_eq hr.units (de_ix (de_var 0) de_int) de_str) (dss_one (ds_ret (de_lst da_nil))) dss_nil)
    refine dss_nS ?_
    refine dss_cons ?_ ?_
    · exact (ds_set (i := 1) sc_leaves_of.nd rfl (.inl rfl) (de_callT call_list_of kListF_ok (by rfl) T.m_list (by decide +kernel) (da_cons (de_sl (de_var 0) (dp_sm de_int) dp_no) da_nil)))
    refine dss_nS ?_
    refine dss_cons ?_ ?_
    · exact (ds_if (dt_eq hr.units (de_ix (de_var 0) de_int) de_str) (dss_one (ds_set (i := 1) sc_leaves_of.nd rfl (.inl rfl) (de_callT call_list_of kListF_ok (by rfl) T.m_list (by decide +kernel) (da_cons (de_ix (de_var 0) de_int) da_nil)))) (dss_one (ds_if (dt_eq hr.units (de_ix (de_var 0) de_int) de_str) (dss_one (ds_set (i := 1) sc_leaves_of.nd rfl (.inl rfl) (de_lst (da_cons (de_ix (de_var 0) de_int) da_nil)))) dss_nil)))
    refine dss_nS ?_
    refine dss_cons ?_ ?_
    · exact (ds_set (i := 2) sc_leaves_of.nd rfl (.inl rfl) (de_lstM da_nil))
    refine dss_nS ?_
    refine dss_cons ?_ ?_
    · exact (ds_for (vs := [3]) PassesOwn.never rfl (di_seq (de_var 1)) (dg_name (i := 3) sc_leaves_of.nd rfl (.inl rfl) (by decide))
      (dss_nS (dss_one (ds_expr (de_mt PySem.F.slot_list_extend PySem.F.type_list_extend mt_extend kExtend_ok (de_var 2) (da_cons (de_call (ok_leaves_of T n) (hr.mono (by omega)) hgd (by rfl) T.g_leaves_of T.F_leaves_of.kp T.b_leaves_of (da_cons (de_var 3) da_nil)) da_nil))))))
    refine dss_nS ?_
    refine dss_one ?_
    exact (ds_ret (de_frz (de_var 2)))
theorem ok_Ground_letters (T : Facts K mg) : FnG P w K mg base 1 T.f_Ground_letters T.fd_Ground_letters p_Ground_letters D_Ground_letters := by
  refine fn_ok T.F_Ground_letters sc_Ground_letters rfl fun cdv A outer s H E hr hgd => ?_
  refine dss_one ?_
  exact (ds_ret (de_fld 0 rfl (by decide +kernel) T.n_Ground T.k_Ground T.na_Ground_letter_count (de_var 0)))
theorem ok_look_letters (T : Facts K mg) : FnX P w K mg base 101 T.f_look_letters T.fd_look_letters p_look_letters D_look_letters := by
  refine fnx_ok T.F_look_letters sc_look_letters rfl fun cdv A outer s H E hr hgd hp => ?_
  refine dxs_one ?_
  exact (dxs_for (vs := [2]) hp rfl (di_seq (de_call (ok_leaves_of T 100) (hr.mono (by decide)) hgd (by rfl) T.g_leaves_of T.F_leaves_of.kp T.b_leaves_of (da_cons (de_var 1) da_nil))) (dg_name (i := 2) sc_look_letters.nd rfl (.inl rfl) (by decide))
      (dxs_nS (dxs_one (dxs_if (dw_dt (dw_and (dt_eq hr.units (de_ix (de_var 2) de_int) de_str) (dw_and1 (dt_gt (de_ix (de_var 2) de_int) (de_meth0 T.n_Ground T.k_Ground T.m_Ground_letters (by decide +kernel) (ok_Ground_letters T) (hr.mono (by decide)) hgd T.b_Ground_letters (de_var 0)))))) (dxs_one (dxs_raise1 7 rfl T.eg_NoLetter T.en_NoLetter T.xf_NoLetter (okI_NoLetter T) (hr.mono (by decide)) T.bi_NoLetter (by rfl) (de_ix (de_var 2) de_int))) (dx_ss dss_nil)))))
theorem ok_names_in (T : Facts K mg) : FnG P w K mg base 101 T.f_names_in T.fd_names_in p_names_in D_names_in := by
  refine fn_ok T.F_names_in sc_names_in rfl fun cdv A outer s H E hr hgd => ?_
  refine dss_one ?_
  exact (ds_ret (de_sortSetS rfl (by rfl) T.m_sorted (by rfl) T.m_set (de_lc (own := [("leaf", 1)]) rfl sc_names_in.nd (di_seq (de_call (ok_leaves_of T 100) (hr.mono (by decide)) hgd (by rfl) T.g_leaves_of T.F_leaves_of.kp T.b_leaves_of (da_cons (de_var 0) da_nil))) (blkOk_by (N := N_names_in) (sc := defScope s_names_in) (by decide +kernel)) (fun _ _ _ _ _ => (dg_name (i := 1) sc_names_in.nd rfl (.inl rfl) (by decide))) (fun _ _ _ _ _ => (dts_one (dt_eq hr.units (de_ix (de_var 1) de_int) de_str))) (fun _ _ _ _ _ => (de_nE (de_ix (de_var 1) de_int))))))
theorem ok_Book_own_needs (T : Facts K mg) : FnG P w K mg base 102 T.f_Book_own_needs T.fd_Book_own_needs p_Book_own_needs D_Book_own_needs := by
  refine fn_ok T.F_Book_own_needs sc_Book_own_needs rfl fun cdv A outer s H E hr hgd => ?_
  refine dss_cons ?_ ?_
  · exact (ds_if (dt_notInD hr (de_var 1) (de_fld 1 rfl (by decide +kernel) T.n_Book T.k_Book T.na_Book_formulas (de_var 0))) (dss_one (ds_ret (de_lst da_nil))) dss_nil)
  refine dss_nS ?_
  refine dss_one ?_
  exact (ds_ret (de_call (ok_names_in T) (hr.mono (by decide)) hgd (by rfl) T.g_names_in T.F_names_in.kp T.b_names_in (da_cons (de_getD hr (de_fld 1 rfl (by decide +kernel) T.n_Book T.k_Book T.na_Book_formulas (de_var 0)) (de_var 1)) da_nil)))
theorem ok_Book_ring_by (T : Facts K mg) : FnG P w K mg base 103 T.f_Book_ring_by T.fd_Book_ring_by p_Book_ring_by D_Book_ring_by := by
  refine fn_ok T.F_Book_ring_by sc_Book_ring_by rfl fun cdv A outer s H E hr hgd => ?_
  refine dss_cons ?_ ?_
  · exact (ds_setLc (own := [("other", 7)]) rfl sc_Book_ring_by.nd (di_seq (de_call (ok_names_in T) (hr.mono (by decide)) hgd (by rfl) T.g_names_in T.F_names_in.kp T.b_names_in (da_cons (de_var 2) da_nil))) (blkOk_by (N := N_Book_ring_by) (sc := defScope s_Book_ring_by) (by decide +kernel)) (fun _ _ _ _ _ => (dg_name (i := 7) sc_Book_ring_by.nd rfl (.inl rfl) (by decide))) (fun _ _ _ _ _ => dts_nil) (fun _ _ _ _ _ => (de_nE (de_lst (da_cons (de_var 1) (da_cons (de_var 7) da_nil))))) (i := 3) rfl rfl (sw_true rfl rfl rfl (by decide +kernel)))
  refine dss_nS ?_
  refine dss_cons ?_ ?_
  · exact (ds_set (i := 4) sc_Book_ring_by.nd rfl (.inl rfl) (de_newK))
  refine dss_nS ?_
  refine dss_cons ?_ ?_
  · exact (ds_while PassesOwn.never (dt_gt (de_len (by rfl) T.m_len (de_var 3)) de_int) (dss_nS (dss_cons (ds_set (i := 5) sc_Book_ring_by.nd rfl (.inl rfl) (de_lstM da_nil))
      (dss_cons (ds_for (vs := [6]) PassesOwn.never rfl (di_seq (de_var 3)) (dg_name (i := 6) sc_Book_ring_by.nd rfl (.inr rfl) (by decide))
      (dss_nS (dss_cons (ds_if (dt_eq hr.units (de_ix (de_var 6) (de_neg de_int)) (de_var 1)) (dss_one (ds_ret (de_var 6))) dss_nil)
      (dss_one (ds_if (dt_notInD hr (de_ix (de_var 6) (de_neg de_int)) (de_var 4)) (dss_cons (ds_putD hr (de_var 4) (de_ix (de_var 6) (de_neg de_int)) de_bl)
      (dss_one (ds_expr (de_mt PySem.F.slot_list_extend PySem.F.type_list_extend mt_extend kExtend_ok (de_var 5) (da_cons (de_lc (own := [("other", 7)]) rfl sc_Book_ring_by.nd (di_seq (de_meth T.n_Book T.k_Book T.m_Book_own_needs (by decide +kernel) (ok_Book_own_needs T) (hr.mono (by decide)) hgd T.b_Book_own_needs (de_var 0) (da_cons (de_ix (de_var 6) (de_neg de_int)) da_nil))) (blkOk_by (N := N_Book_ring_by) (sc := defScope s_Book_ring_by) (by decide +kernel)) (fun _ _ _ _ _ => (dg_name (i := 7) sc_Book_ring_by.nd rfl (.inl rfl) (by decide))) (fun _ _ _ _ _ => dts_nil) (fun _ _ _ _ _ => (de_nE (de_add (de_var 6) (de_lst (da_cons (de_var 7) da_nil)))))) da_nil))))) dss_nil)))))
      (dss_one (ds_set (i := 3) sc_Book_ring_by.nd rfl (.inl rfl) (de_frz (de_var 5))))))))
  refine dss_nS ?_
  refine dss_one ?_
  exact (ds_ret de_non)
theorem ok_Book_let (T : Facts K mg) : FnX P w K mg base 104 T.f_Book_let T.fd_Book_let p_Book_let D_Book_let := by
  refine fnx_ok T.F_Book_let sc_Book_let rfl fun cdv A outer s H E hr hgd hp => ?_
  refine dxs_cons ?_ ?_
  · exact (dxs_if (dt_not (dt_val (de_call (ok_is_name T) (hr.mono (by decide)) hgd (by rfl) T.g_is_name T.F_is_name.kp T.b_is_name (da_cons (de_var 1) da_nil)))) (dxs_one (dxs_raise 10 rfl T.eg_BadName T.en_BadName T.ex_BadName (by rfl))) (dx_ss dss_nil))
  refine dxs_nS ?_
  refine dxs_cons ?_ ?_
  · exact (dxs_set (i := 3) sc_Book_let.nd rfl (.inl rfl) (dx_call (ok_read_tree T) (hr.mono (by decide)) hgd (by rfl) T.g_read_tree T.F_read_tree.kp T.b_read_tree (dxa_cons (dx_e (de_var 2)) dxa_nil)))
  refine dxs_nS ?_
  refine dxs_cons ?_ ?_
  · exact (dxs_expr (dx_call (ok_look_letters T) (hr.mono (by decide)) hgd (by rfl) T.g_look_letters T.F_look_letters.kp T.b_look_letters (dxa_cons (dx_e (de_fld 0 rfl (by decide +kernel) T.n_Book T.k_Book T.na_Book_kept_ground (de_var 0))) (dxa_cons (dx_e (de_var 3)) dxa_nil))))
  refine dxs_nS ?_
  refine dxs_cons ?_ ?_
  · exact (dx_s (ds_set (i := 4) sc_Book_let.nd rfl (.inl rfl) (de_meth T.n_Book T.k_Book T.m_Book_ring_by (by decide +kernel) (ok_Book_ring_by T) (hr.mono (by decide)) hgd T.b_Book_ring_by (de_var 0) (da_cons (de_var 1) (da_cons (de_var 3) da_nil)))))
  refine dxs_nS ?_
  refine dxs_cons ?_ ?_
  · exact (dxs_if (dt_notN (de_var 4) de_non) (dxs_one (dxs_raise1 11 rfl T.eg_Ring T.en_Ring T.xf_Ring (okI_Ring T) (hr.mono (by decide)) T.bi_Ring (by rfl) (de_var 4))) (dx_ss dss_nil))
  refine dxs_nS ?_
  refine dxs_one ?_
  exact (dx_s (ds_putD hr (de_fld 1 rfl (by decide +kernel) T.n_Book T.k_Book T.na_Book_formulas (de_var 0)) (de_var 1) (de_var 3)))
theorem ok__law_let (T : Facts K mg) : FnX P w K mg base 105 T.f__law_let T.fd__law_let p__law_let D__law_let := by
  refine fnx_ok T.F__law_let sc__law_let rfl fun cdv A outer s H E hr hgd hp => ?_
  refine dxs_cons ?_ ?_
  · exact (dx_s (ds_set (i := 3) sc__law_let.nd rfl (.inl rfl) de_non))
  refine dxs_nS ?_
  refine dxs_cons ?_ ?_
  · exact (dxs_try (i := 4) rfl rfl sc__law_let.nd rfl rfl ⟨by rfl, by decide, .inl T.eg_BracketError⟩ rfl (by exact ⟨⟨_, T.en_BadText, T.em_BadText_BracketError⟩, ⟨⟨_, T.en_NoLetter, T.em_NoLetter_BracketError⟩, ⟨⟨_, T.en_NoName, T.em_NoName_BracketError⟩, ⟨⟨_, T.en_TooGreat, T.em_TooGreat_BracketError⟩, ⟨⟨_, T.en_BadName, T.em_BadName_BracketError⟩, ⟨⟨_, T.en_Ring, T.em_Ring_BracketError⟩, trivial⟩⟩⟩⟩⟩⟩) (fun pn xe hp => (dxs_one (dxs_expr (dx_meth T.n_Book T.k_Book T.m_Book_let (by decide +kernel) (ok_Book_let T) (hr.mono (by decide)) hgd T.b_Book_let (de_var 0) (dxa_cons (dx_e (de_var 1)) (dxa_cons (dx_e (de_var 2)) dxa_nil)))))) (fun a pn => (dss_one (ds_set (i := 3) sc__law_let.nd rfl (.inl rfl) (de_var 4)))))
  refine dxs_nS ?_
  refine dxs_cons ?_ ?_
  · exact (dx_s (ds_if (dt_isN (de_var 3) de_non) (dss_one (ds_ret de_non)) dss_nil))
  refine dxs_nS ?_
  refine dxs_cons ?_ ?_
  · exact (dx_s (ds_set (i := 5) sc__law_let.nd rfl (.inl rfl) (de_isXT (us := [.ref T.E_BadName, .ref T.E_BadRow, .ref T.E_BadText, .ref T.E_NoGround, .ref T.E_NoLetter, .ref T.E_NoName, .ref T.E_NoPlace, .ref T.E_NoPut]) (tab := [(6, true), (7, true), (8, true), (9, false), (10, true), (11, false)]) (by rfl) T.m_isinstance (by decide +kernel) (by exact ⟨⟨.inl ⟨_, rfl, T.eg_BadName⟩, by rfl, by decide⟩, ⟨⟨.inl ⟨_, rfl, T.eg_BadRow⟩, by rfl, by decide⟩, ⟨⟨.inl ⟨_, rfl, T.eg_BadText⟩, by rfl, by decide⟩, ⟨⟨.inl ⟨_, rfl, T.eg_NoGround⟩, by rfl, by decide⟩, ⟨⟨.inl ⟨_, rfl, T.eg_NoLetter⟩, by rfl, by decide⟩, ⟨⟨.inl ⟨_, rfl, T.eg_NoName⟩, by rfl, by decide⟩, ⟨⟨.inl ⟨_, rfl, T.eg_NoPlace⟩, by rfl, by decide⟩, ⟨⟨.inl ⟨_, rfl, T.eg_NoPut⟩, by rfl, by decide⟩, trivial⟩⟩⟩⟩⟩⟩⟩⟩) (by simp) (by exact ⟨⟨_, T.en_BadText, T.ei_BadText, T.ki_5⟩, ⟨⟨_, T.en_NoLetter, T.ei_NoLetter, T.ki_4⟩, ⟨⟨_, T.en_NoName, T.ei_NoName, T.ki_3⟩, ⟨⟨_, T.en_TooGreat, T.ei_TooGreat, T.ki_2⟩, ⟨⟨_, T.en_BadName, T.ei_BadName, T.ki_1⟩, ⟨⟨_, T.en_Ring, T.ei_Ring, T.ki_0⟩, trivial⟩⟩⟩⟩⟩⟩) (de_var 3))))
  refine dxs_nS ?_
  refine dxs_cons ?_ ?_
  · exact (dx_s (ds_if (dw_dt (dw_or (dt_val (de_var 5)) (dw_or (dt_val (de_isXT (us := [.ref T.E_NoRules, .ref T.E_TooGreat, .ref T.E_TooLong]) (tab := [(6, false), (7, false), (8, false), (9, true), (10, false), (11, false)]) (by rfl) T.m_isinstance (by decide +kernel) (by exact ⟨⟨.inl ⟨_, rfl, T.eg_NoRules⟩, by rfl, by decide⟩, ⟨⟨.inl ⟨_, rfl, T.eg_TooGreat⟩, by rfl, by decide⟩, ⟨⟨.inl ⟨_, rfl, T.eg_TooLong⟩, by rfl, by decide⟩, trivial⟩⟩⟩) (by simp) (by exact ⟨⟨_, T.en_BadText, T.ei_BadText, T.ki_17⟩, ⟨⟨_, T.en_NoLetter, T.ei_NoLetter, T.ki_16⟩, ⟨⟨_, T.en_NoName, T.ei_NoName, T.ki_15⟩, ⟨⟨_, T.en_TooGreat, T.ei_TooGreat, T.ki_14⟩, ⟨⟨_, T.en_BadName, T.ei_BadName, T.ki_13⟩, ⟨⟨_, T.en_Ring, T.ei_Ring, T.ki_12⟩, trivial⟩⟩⟩⟩⟩⟩) (de_var 3))) (dw_or1 (dt_not (dt_val (de_isX1 (u := .ref T.E_Ring) (tab := [(6, false), (7, false), (8, false), (9, false), (10, false), (11, true)]) (by rfl) T.m_isinstance (by decide +kernel) (by exact ⟨.inl ⟨_, rfl, T.eg_Ring⟩, by rfl, by decide⟩) (by exact ⟨⟨_, T.en_BadText, T.ei_BadText, T.ki_11⟩, ⟨⟨_, T.en_NoLetter, T.ei_NoLetter, T.ki_10⟩, ⟨⟨_, T.en_NoName, T.ei_NoName, T.ki_9⟩, ⟨⟨_, T.en_TooGreat, T.ei_TooGreat, T.ki_8⟩, ⟨⟨_, T.en_BadName, T.ei_BadName, T.ki_7⟩, ⟨⟨_, T.en_Ring, T.ei_Ring, T.ki_6⟩, trivial⟩⟩⟩⟩⟩⟩) (de_var 3)))))))) (dss_one (ds_ret (de_lst (da_cons de_str da_nil)))) dss_nil))
  refine dxs_nS ?_
  refine dxs_one ?_
  exact (dx_s (ds_ret (de_fldX 11 rfl T.en_Ring T.xg_Ring (de_var 3))))
theorem okG__law_text (T : Facts K mg) : ∀ n, FnG P w K mg base (0 + n) T.f__law_text T.fd__law_text p__law_text (D__law_text n) ∧ FnG P w K mg base (0 + n) T.f__law_item_text T.fd__law_item_text p__law_item_text (D__law_item_text n)
  | 0 => ⟨⟨fun ds l Q h => h.elim, fun A outer s H args us vs Q E hr hg e hb r ⟨F, Fr, ds, l, Qd, a, b, c, d⟩ => c.elim⟩, ⟨fun ds l Q h => h.elim, fun A outer s H args us vs Q E hr hg e hb r ⟨F, Fr, ds, l, Qd, a, b, c, d⟩ => c.elim⟩⟩
  | n + 1 => by
    obtain ⟨ih__law_text, ih__law_item_text⟩ := okG__law_text T n
    refine ⟨?_, ?_⟩
    · refine fn_ok (k := 0 + n) T.F__law_text sc__law_text rfl fun cdv A outer s H E hr hgd => ?_
      refine dss_one ?_
      exact (ds_ret (de_join de_str (de_lc (own := [("_law_one", 1)]) rfl sc__law_text.nd (di_seq (de_ix (de_var 0) de_int)) (blkOk_by (N := N__law_text) (sc := defScope s__law_text) (by decide +kernel)) (fun _ _ _ _ _ => (dg_name (i := 1) sc__law_text.nd rfl (.inl rfl) (by decide))) (fun _ _ _ _ _ => dts_nil) (fun _ _ _ _ _ => (de_nE (de_call ih__law_item_text (hr.mono (by omega)) hgd (by rfl) T.g__law_item_text T.F__law_item_text.kp T.b__law_item_text (da_cons (de_var 1) da_nil)))))))
    · refine fn_ok (k := 0 + n) T.F__law_item_text sc__law_item_text rfl fun cdv A outer s H E hr hgd => ?_
      refine dss_cons ?_ ?_
      · exact (ds_if (dt_eq hr.units (de_ix (de_var 0) de_int) de_str) (dss_one (ds_ret (de_add (de_add (de_call ih__law_item_text (hr.mono (by omega)) hgd (by rfl) T.g__law_item_text T.F__law_item_text.kp T.b__law_item_text (da_cons (de_ix (de_var 0) de_int) da_nil)) de_str) (de_str2 hr hgd (by rfl) T.m_str (de_ix (de_var 0) de_int))))) dss_nil)
      refine dss_nS ?_
      refine dss_cons ?_ ?_
      · exact (ds_if (dt_eq hr.units (de_ix (de_var 0) de_int) de_str) (dss_one (ds_ret (de_ix de_str (de_sub (de_ix (de_var 0) de_int) de_int)))) dss_nil)
      refine dss_nS ?_
      refine dss_cons ?_ ?_
      · exact (ds_if (dt_eq hr.units (de_ix (de_var 0) de_int) de_str) (dss_one (ds_ret (de_add (de_add (de_add (de_add de_str (de_call ih__law_text (hr.mono (by omega)) hgd (by rfl) T.g__law_text T.F__law_text.kp T.b__law_text (da_cons (de_ix (de_var 0) de_int) da_nil))) de_str) (de_call ih__law_text (hr.mono (by omega)) hgd (by rfl) T.g__law_text T.F__law_text.kp T.b__law_text (da_cons (de_ix (de_var 0) de_int) da_nil))) de_str))) dss_nil)
      refine dss_nS ?_
      refine dss_cons ?_ ?_
      · exact (ds_if (dt_eq hr.units (de_ix (de_var 0) de_int) de_str) (dss_one (ds_ret (de_add (de_add de_str (de_call ih__law_text (hr.mono (by omega)) hgd (by rfl) T.g__law_text T.F__law_text.kp T.b__law_text (da_cons (de_var 0) da_nil))) de_str))) dss_nil)
      refine dss_nS ?_
      refine dss_one ?_
      exact (ds_ret (de_getD hr (de_fz 1 (de_dispK (dps_cons de_str (de_ix (de_var 0) (de_neg de_int)) (dps_cons de_str de_str dps_nil)) (by rfl) (by rfl) (List.cons_ne_nil _ _) (by decide))) (de_ix (de_var 0) de_int)))
theorem ok__law_text (T : Facts K mg) (n : Nat) : FnG P w K mg base (0 + n) T.f__law_text T.fd__law_text p__law_text (D__law_text n) := (okG__law_text T n).1
theorem ok__law_item_text (T : Facts K mg) (n : Nat) : FnG P w K mg base (0 + n) T.f__law_item_text T.fd__law_item_text p__law_item_text (D__law_item_text n) := (okG__law_text T n).2
theorem okG_atom_text (T : Facts K mg) : ∀ n, FnG P w K mg base (0 + n) T.f_atom_text T.fd_atom_text p_atom_text (D_atom_text n) ∧ FnG P w K mg base (0 + n) T.f_item_text T.fd_item_text p_item_text (D_item_text n) ∧ FnG P w K mg base (0 + n) T.f_tree_text T.fd_tree_text p_tree_text (D_tree_text n)
  | 0 => ⟨⟨fun ds l Q h => h.elim, fun A outer s H args us vs Q E hr hg e hb r ⟨F, Fr, ds, l, Qd, a, b, c, d⟩ => c.elim⟩, ⟨fun ds l Q h => h.elim, fun A outer s H args us vs Q E hr hg e hb r ⟨F, Fr, ds, l, Qd, a, b, c, d⟩ => c.elim⟩, ⟨fun ds l Q h => h.elim, fun A outer s H args us vs Q E hr hg e hb r ⟨F, Fr, ds, l, Qd, a, b, c, d⟩ => c.elim⟩⟩
  | n + 1 => by
    obtain ⟨ih_atom_text, ih_item_text, ih_tree_text⟩ := okG_atom_text T n
    refine ⟨?_, ?_, ?_⟩
    · refine fn_ok (k := 0 + n) T.F_atom_text sc_atom_text rfl fun cdv A outer s H E hr hgd => ?_
      refine dss_cons ?_ ?_
      · exact (ds_set (i := 1) sc_atom_text.nd rfl (.inl rfl) (de_ix (de_var 0) de_int))
      refine dss_nS ?_
      refine dss_cons ?_ ?_
      · exact (ds_if (dt_eq hr.units (de_var 1) de_str) (dss_one (ds_ret (de_ix (de_globS (by rfl) T.v_LETTER_SIGNS) (de_sub (de_ix (de_var 0) de_int) de_int)))) dss_nil)
      refine dss_nS ?_
      refine dss_cons ?_ ?_
      · exact (ds_if (dt_eq hr.units (de_var 1) de_str) (dss_one (ds_ret (de_ix (de_var 0) de_int))) dss_nil)
      refine dss_nS ?_
      refine dss_cons ?_ ?_
      · exact (ds_if (dt_eq hr.units (de_var 1) de_str) (dss_one (ds_ret de_str)) dss_nil)
      refine dss_nS ?_
      refine dss_cons ?_ ?_
      · exact (ds_if (dt_eq hr.units (de_var 1) de_str) (dss_one (ds_ret (de_add (de_add (de_add (de_add de_str (de_call ih_tree_text (hr.mono (by omega)) hgd (by rfl) T.g_tree_text T.F_tree_text.kp T.b_tree_text (da_cons (de_ix (de_var 0) de_int) da_nil))) de_str) (de_call ih_tree_text (hr.mono (by omega)) hgd (by rfl) T.g_tree_text T.F_tree_text.kp T.b_tree_text (da_cons (de_ix (de_var 0) de_int) da_nil))) de_str))) dss_nil)
      refine dss_nS ?_
      refine dss_one ?_
      exact (ds_ret (de_add (de_add de_str (de_call ih_tree_text (hr.mono (by omega)) hgd (by rfl) T.g_tree_text T.F_tree_text.kp T.b_tree_text (da_cons (de_var 0) da_nil))) de_str))
    · refine fn_ok (k := 0 + n) T.F_item_text sc_item_text rfl fun cdv A outer s H E hr hgd => ?_
      refine dss_cons ?_ ?_
      · exact (ds_if (dt_eq hr.units (de_ix (de_var 0) de_int) de_str) (dss_one (ds_ret (de_add (de_add (de_call ih_atom_text (hr.mono (by omega)) hgd (by rfl) T.g_atom_text T.F_atom_text.kp T.b_atom_text (da_cons (de_ix (de_var 0) de_int) da_nil)) de_str) (de_str2 hr hgd (by rfl) T.m_str (de_ix (de_var 0) de_int))))) dss_nil)
      refine dss_nS ?_
      refine dss_one ?_
      exact (ds_ret (de_call ih_atom_text (hr.mono (by omega)) hgd (by rfl) T.g_atom_text T.F_atom_text.kp T.b_atom_text (da_cons (de_var 0) da_nil)))
    · refine fn_ok (k := 0 + n) T.F_tree_text sc_tree_text rfl fun cdv A outer s H E hr hgd => ?_
      refine dss_one ?_
      exact (ds_ret (de_join de_str (de_lc (own := [("part", 1)]) rfl sc_tree_text.nd (di_seq (de_ix (de_var 0) de_int)) (blkOk_by (N := N_tree_text) (sc := defScope s_tree_text) (by decide +kernel)) (fun _ _ _ _ _ => (dg_name (i := 1) sc_tree_text.nd rfl (.inl rfl) (by decide))) (fun _ _ _ _ _ => dts_nil) (fun _ _ _ _ _ => (de_nE (de_call ih_item_text (hr.mono (by omega)) hgd (by rfl) T.g_item_text T.F_item_text.kp T.b_item_text (da_cons (de_var 1) da_nil)))))))
theorem ok_atom_text (T : Facts K mg) (n : Nat) : FnG P w K mg base (0 + n) T.f_atom_text T.fd_atom_text p_atom_text (D_atom_text n) := (okG_atom_text T n).1
theorem ok_item_text (T : Facts K mg) (n : Nat) : FnG P w K mg base (0 + n) T.f_item_text T.fd_item_text p_item_text (D_item_text n) := (okG_atom_text T n).2.1
theorem ok_tree_text (T : Facts K mg) (n : Nat) : FnG P w K mg base (0 + n) T.f_tree_text T.fd_tree_text p_tree_text (D_tree_text n) := (okG_atom_text T n).2.2
theorem ok_Book_text_of (T : Facts K mg) : FnX P w K mg base 71 T.f_Book_text_of T.fd_Book_text_of p_Book_text_of D_Book_text_of := by
  refine fnx_ok T.F_Book_text_of sc_Book_text_of rfl fun cdv A outer s H E hr hgd hp => ?_
  refine dxs_cons ?_ ?_
  · exact (dxs_expr (dx_meth T.n_Book T.k_Book T.m_Book_look_there (by decide +kernel) (ok_Book_look_there T) (hr.mono (by decide)) hgd T.b_Book_look_there (de_var 0) (dxa_cons (dx_e (de_var 1)) dxa_nil)))
  refine dxs_nS ?_
  refine dxs_one ?_
  exact (dx_s (ds_ret (de_call (ok_tree_text T 70) (hr.mono (by decide)) hgd (by rfl) T.g_tree_text T.F_tree_text.kp T.b_tree_text (da_cons (de_getD hr (de_fld 1 rfl (by decide +kernel) T.n_Book T.k_Book T.na_Book_formulas (de_var 0)) (de_var 1)) da_nil))))
theorem ok_Book_names (T : Facts K mg) : FnG P w K mg base 1 T.f_Book_names T.fd_Book_names p_Book_names D_Book_names := by
  refine fn_ok T.F_Book_names sc_Book_names rfl fun cdv A outer s H E hr hgd => ?_
  refine dss_one ?_
  exact (ds_ret (de_callB (call_sortedD rfl) kSortDK_ok (by rfl) T.m_sorted (by decide +kernel) (da_cons (de_fld 1 rfl (by decide +kernel) T.n_Book T.k_Book T.na_Book_formulas (de_var 0)) da_nil)))
theorem ok_law (T : Facts K mg) : FnG P w K mg base 106 T.f_law T.fd_law p_law D_law := by
  refine fn_ok T.F_law sc_law rfl fun cdv A outer s H E hr hgd => ?_
  refine dss_cons ?_ ?_
  · exact (ds_set (i := 1) sc_law.nd rfl (.inl rfl) (de_call (ok__law_folded T) (hr.mono (by decide)) hgd (by rfl) T.g__law_folded T.F__law_folded.kp T.b__law_folded (da_cons (de_var 0) (da_cons de_int da_nil))))
  refine dss_nS ?_
  refine dss_cons ?_ ?_
  · exact (ds_set (i := 2) sc_law.nd rfl (.inl rfl) (de_call (ok__law_box_m T) (hr.mono (by decide)) hgd (by rfl) T.g__law_box T.F__law_box.kp T.b__law_box (da_cons (de_var 1) (da_cons de_int da_nil))))
  refine dss_nS ?_
  refine dss_cons ?_ ?_
  · exact (ds_set (i := 3) sc_law.nd rfl (.inl rfl) (de_if (dt_eq hr.units (de_call (ok__law_take T) (hr.mono (by decide)) hgd (by rfl) T.g__law_take T.F__law_take.kp T.b__law_take (da_cons (de_var 2) (da_cons de_int da_nil))) de_int) de_int (de_add de_int (de_call (ok__law_take T) (hr.mono (by decide)) hgd (by rfl) T.g__law_take T.F__law_take.kp T.b__law_take (da_cons (de_var 2) (da_cons de_int da_nil))))))
  refine dss_nS ?_
  refine dss_cons ?_ ?_
  · exact (ds_set (i := 4) sc_law.nd rfl (.inl rfl) (de_call (ok__law_names T) (hr.mono (by decide)) hgd (by rfl) T.g__law_names T.F__law_names.kp T.b__law_names (da_cons (de_var 2) (da_cons (de_var 3) da_nil))))
  refine dss_nS ?_
  refine dss_cons ?_ ?_
  · exact (ds_asg (vs := [5, 6]) (de_tup (da_cons (de_make T.n_Book T.mk_Book (ok_Book_init T) (hr.mono (by decide)) hgd (by rfl) T.gc_Book T.b_Book_init (da_cons (de_make T.n_Ground T.mk_Ground (ok_Ground_init T) (hr.mono (by decide)) hgd (by rfl) T.gc_Ground T.b_Ground_init (da_cons de_int (da_cons de_int da_nil))) da_nil)) (da_cons (de_newK) da_nil))) (dg_tup rfl (dgs_cons (dg_name (i := 5) sc_law.nd rfl (.inr rfl) (by decide)) (dgs_cons (dg_name (i := 6) sc_law.nd rfl (.inr rfl) (by decide)) dgs_nil))))
  refine dss_nS ?_
  refine dss_cons ?_ ?_
  · exact (ds_set (i := 2) sc_law.nd rfl (.inl rfl) (de_call (ok__law_box_m T) (hr.mono (by decide)) hgd (by rfl) T.g__law_box T.F__law_box.kp T.b__law_box (da_cons (de_var 1) (da_cons de_int da_nil))))
  refine dss_nS ?_
  refine dss_cons ?_ ?_
  · exact (ds_for (vs := [7]) PassesOwn.never rfl (di_range1 (by rfl) T.m_range (da_cons (de_add de_int (de_call (ok__law_take T) (hr.mono (by decide)) hgd (by rfl) T.g__law_take T.F__law_take.kp T.b__law_take (da_cons (de_var 2) (da_cons de_int da_nil)))) da_nil)) (dg_name (i := 7) sc_law.nd rfl (.inl rfl) (by decide))
      (dss_nS (dss_cons (ds_set (i := 8) sc_law.nd rfl (.inl rfl) (de_call (ok__law_take T) (hr.mono (by decide)) hgd (by rfl) T.g__law_take T.F__law_take.kp T.b__law_take (da_cons (de_var 2) (da_cons (de_var 3) da_nil))))
      (dss_cons (ds_set (i := 9) sc_law.nd rfl (.inl rfl) (de_ix (de_var 4) (de_var 8)))
      (dss_cons (ds_if (dw_dt (dw_and (dt_inD hr (de_var 9) (de_var 6)) (dw_and1 (dt_eq hr.units (de_call (ok__law_take T) (hr.mono (by decide)) hgd (by rfl) T.g__law_take T.F__law_take.kp T.b__law_take (da_cons (de_var 2) (da_cons de_int da_nil))) de_int)))) (dss_cons (ds_expr (de_meth T.n_Book T.k_Book T.m_Book_drop (by decide +kernel) (ok_Book_drop T).plain (hr.mono (by decide)) hgd T.b_Book_drop (de_var 5) (da_cons (de_var 9) da_nil)))
      (dss_one (ds_expr (de_dpop (de_var 6) (de_var 9) (by constructor <;> rfl))))) dss_nil)
      (dss_cons (ds_set (i := 10) sc_law.nd rfl (.inl rfl) (de_callB (call_max2 rfl) kMax_ok (by rfl) T.m_max (by decide +kernel) (da_cons de_int (da_cons (de_callB (call_min2 rfl) kMin_ok (by rfl) T.m_min (by decide +kernel) (da_cons (de_sub (de_var 8) de_int) (da_cons (de_sub (de_var 3) de_int) da_nil))) da_nil))))
      (dss_cons (ds_set (i := 11) sc_law.nd rfl (.inl rfl) (de_call (ok__law_formula T) (hr.mono (by decide)) hgd (by rfl) T.g__law_formula T.F__law_formula.kp T.b__law_formula (da_cons (de_var 2) (da_cons de_int (da_cons (de_sl (de_var 4) (dp_sm (de_var 10)) (dp_sm (de_add (de_var 10) de_int))) da_nil)))))
      (dss_cons (ds_if (dt_eq hr.units (de_call (ok__law_take T) (hr.mono (by decide)) hgd (by rfl) T.g__law_take T.F__law_take.kp T.b__law_take (da_cons (de_var 2) (da_cons de_int da_nil))) de_int) (dss_one (ds_set (i := 11) sc_law.nd rfl (.inl rfl) (de_tup (da_cons de_str (da_cons (de_add (de_ix (de_var 11) de_int) (de_tup (da_consT (de_tup (da_cons de_str (da_cons (de_var 9) da_nil))) da_nil))) da_nil))))) dss_nil)
      (dss_cons (ds_set (i := 12) sc_law.nd rfl (.inl rfl) (de_call (ok__law_ring T) (hr.mono (by decide)) hgd (by rfl) T.g__law_ring T.F__law_ring.kp T.b__law_ring (da_cons (de_var 6) (da_cons (de_var 9) (da_cons (de_var 11) da_nil)))))
      (dss_cons (ds_if (dt_not (dt_val (de_call (ok__law_same T 100) (hr.mono (by decide)) hgd (by rfl) T.g__law_same T.F__law_same.kp T.b__law_same (da_cons (de_call (ok__law_let T).plain (hr.mono (by decide)) hgd (by rfl) T.g__law_let T.F__law_let.kp T.b__law_let (da_cons (de_var 5) (da_cons (de_var 9) (da_cons (de_call (ok__law_text T 70) (hr.mono (by decide)) hgd (by rfl) T.g__law_text T.F__law_text.kp T.b__law_text (da_cons (de_var 11) da_nil)) da_nil)))) (da_cons (de_var 12) da_nil))))) (dss_one (ds_ret de_bl)) dss_nil)
      (dss_cons (ds_if (dt_isN (de_var 12) de_non) (dss_one (ds_putD hr (de_var 6) (de_var 9) (de_var 11))) dss_nil)
      (dss_cons (ds_set (i := 13) sc_law.nd rfl (.inr rfl) (de_dictP rfl (by rfl) T.m_dict (de_borD (i := 6) (de_lc (own := [("_law_one", 15)]) rfl sc_law.nd (di_keysK (de_var 6)) (blkOk_by (N := N_law) (sc := defScope s_law) (by decide +kernel)) (fun _ _ _ _ _ => (dg_name (i := 15) sc_law.nd rfl (.inl rfl) (by decide))) (fun _ _ _ _ _ => dts_nil) (fun _ _ _ _ _ => (de_nE (de_tup (da_cons (de_var 15) (da_cons (de_call (ok__law_text T 70) (hr.mono (by decide)) hgd (by rfl) T.g__law_text T.F__law_text.kp T.b__law_text (da_cons (de_getD hr (de_var 6) (de_var 15)) da_nil)) da_nil)))))))))
      (dss_cons (ds_if (dt_borD (i := 6) (dw_dt (dw_or (dt_not (dt_val (de_call (ok__law_same T 100) (hr.mono (by decide)) hgd (by rfl) T.g__law_same T.F__law_same.kp T.b__law_same (da_cons (de_meth0 T.n_Book T.k_Book T.m_Book_names (by decide +kernel) (ok_Book_names T) (hr.mono (by decide)) hgd T.b_Book_names (de_var 5)) (da_cons (de_callB (call_sortedD rfl) kSortDK_ok (by rfl) T.m_sorted (by decide +kernel) (da_cons (de_var 6) da_nil)) da_nil))))) (dw_or1 (dt_val (de_callB (cr_any rfl) kAny_ok (by rfl) T.m_any (by decide +kernel) (da_cons (de_lc (own := [("_law_one", 15)]) rfl sc_law.nd (di_keysK (de_var 6)) (blkOk_by (N := N_law) (sc := defScope s_law) (by decide +kernel)) (fun _ _ _ _ _ => (dg_name (i := 15) sc_law.nd rfl (.inl rfl) (by decide))) (fun _ _ _ _ _ => dts_nil) (fun _ _ _ _ _ => (de_nE (de_ne hr.units (de_meth T.n_Book T.k_Book T.m_Book_text_of (by decide +kernel) (ok_Book_text_of T).plain (hr.mono (by decide)) hgd T.b_Book_text_of (de_var 5) (da_cons (de_var 15) da_nil)) (de_getD hr (de_var 13) (de_var 15)))))) da_nil))))))) (dss_one (ds_ret de_bl)) dss_nil)
      (dss_one (ds_if (dw_dt (dw_and (dt_notN (de_var 12) de_non) (dw_and (dt_gt (de_len (by rfl) T.m_len (de_var 12)) de_int) (dw_and1 (dt_eq hr.units (de_call (ok__law_take T) (hr.mono (by decide)) hgd (by rfl) T.g__law_take T.F__law_take.kp T.b__law_take (da_cons (de_var 2) (da_cons de_int da_nil))) de_int))))) (dss_cons (ds_set (i := 14) sc_law.nd rfl (.inl rfl) (de_ix (de_var 12) (de_add de_int (de_call (ok__law_take T) (hr.mono (by decide)) hgd (by rfl) T.g__law_take T.F__law_take.kp T.b__law_take (da_cons (de_var 2) (da_cons (de_sub (de_len (by rfl) T.m_len (de_var 12)) de_int) da_nil))))))
      (dss_cons (ds_expr (de_meth T.n_Book T.k_Book T.m_Book_drop (by decide +kernel) (ok_Book_drop T).plain (hr.mono (by decide)) hgd T.b_Book_drop (de_var 5) (da_cons (de_var 14) da_nil)))
      (dss_cons (ds_expr (de_dpop (de_var 6) (de_var 14) (by constructor <;> rfl)))
      (dss_cons (ds_set (i := 12) sc_law.nd rfl (.inl rfl) (de_call (ok__law_ring T) (hr.mono (by decide)) hgd (by rfl) T.g__law_ring T.F__law_ring.kp T.b__law_ring (da_cons (de_var 6) (da_cons (de_var 9) (da_cons (de_var 11) da_nil)))))
      (dss_cons (ds_if (dt_not (dt_val (de_call (ok__law_same T 100) (hr.mono (by decide)) hgd (by rfl) T.g__law_same T.F__law_same.kp T.b__law_same (da_cons (de_call (ok__law_let T).plain (hr.mono (by decide)) hgd (by rfl) T.g__law_let T.F__law_let.kp T.b__law_let (da_cons (de_var 5) (da_cons (de_var 9) (da_cons (de_call (ok__law_text T 70) (hr.mono (by decide)) hgd (by rfl) T.g__law_text T.F__law_text.kp T.b__law_text (da_cons (de_var 11) da_nil)) da_nil)))) (da_cons (de_var 12) da_nil))))) (dss_one (ds_ret de_bl)) dss_nil)
      (dss_one (ds_if (dt_isN (de_var 12) de_non) (dss_one (ds_putD hr (de_var 6) (de_var 9) (de_var 11))) dss_nil))))))) dss_nil)))))))))))))))
  refine dss_nS ?_
  refine dss_one ?_
  exact (ds_ret de_bl)
end
theorem all_mk {l : PySem.W.OpenLaw} {w : World} {K : PySem.W.Frag} {h : Heap} {mg : Str → Option Value} {fa f0 f1 f2 f3 f4 f5 f6 f7 f8 f9 f10 f11 f12 f13 f14 f15 f16 f17 f18 f19 f20 f21 f22 f23 f24 f25 f26 f27 f28 f29 f30 f31 f32 f33 f34 f35 f36 f37 f38 f39 f40 f41 f42 f43 f44 C0 C1 C2 E_NoName E_BracketError E_BadName E_BadText E_NoLetter E_Ring E_TooGreat E_BadRow E_NoGround E_NoPlace E_NoPut E_NoRules E_TooLong : Addr} (X : K.In h) (G : h.Ns mainGlobals mg) (hfa : mg "law" = some (.ref fa))
    {t0 t1 t2 t3 t4 t5 t6 t7 t8 : Tok}
    {fx0 : Addr} {xnm0 xq0 : Str} {xN0 : Addr} {xbs0 xsub0 : List Value} {xsn0 : List Str} {xab0 : Bool} {xcol0 : Option Bool} {xdd0 xod0 xan0 : Option Addr} {xm00 xm10 xm20 xm30 xm50 : Option Value} {xoc0 xkV0 xdc0 xpm0 xcd0 xct0 : Value} {xsl0 : Array (Option Value)}
    {fx1 : Addr} {xnm1 xq1 : Str} {xN1 : Addr} {xbs1 xsub1 : List Value} {xsn1 : List Str} {xab1 : Bool} {xcol1 : Option Bool} {xdd1 xod1 xan1 : Option Addr} {xm01 xm11 xm21 xm31 xm51 : Option Value} {xoc1 xkV1 xdc1 xpm1 xcd1 xct1 : Value} {xsl1 : Array (Option Value)}
    {fx2 : Addr} {xnm2 xq2 : Str} {xN2 : Addr} {xbs2 xsub2 : List Value} {xsn2 : List Str} {xab2 : Bool} {xcol2 : Option Bool} {xdd2 xod2 xan2 : Option Addr} {xm02 xm12 xm22 xm32 xm52 : Option Value} {xoc2 xkV2 xdc2 xpm2 xcd2 xct2 : Value} {xsl2 : Array (Option Value)}
    {fx3 : Addr} {xnm3 xq3 : Str} {xN3 : Addr} {xbs3 xsub3 : List Value} {xsn3 : List Str} {xab3 : Bool} {xcol3 : Option Bool} {xdd3 xod3 xan3 : Option Addr} {xm03 xm13 xm23 xm33 xm53 : Option Value} {xoc3 xkV3 xdc3 xpm3 xcd3 xct3 : Value} {xsl3 : Array (Option Value)}
    {od0 an0 od1 an1 od2 an2 od3 an3 od4 an4 od5 an5 od6 an6 od7 an7 od8 an8 od9 an9 od10 an10 od11 an11 od12 an12 od13 an13 od14 an14 od15 an15 od16 an16 od17 an17 od18 an18 od19 an19 od20 an20 od21 an21 od22 an22 od23 an23 od24 an24 od25 an25 od26 an26 od27 an27 od28 an28 od29 an29 od30 an30 od31 an31 od32 an32 od33 an33 od34 an34 od35 an35 od36 an36 od37 an37 od38 an38 od39 an39 od40 an40 od41 an41 od42 an42 od43 an43 od44 an44 : Option Addr} {sl0 sl1 sl2 sl3 sl4 sl5 sl6 sl7 sl8 sl9 sl10 sl11 sl12 sl13 sl14 sl15 sl16 sl17 sl18 sl19 sl20 sl21 sl22 sl23 sl24 sl25 sl26 sl27 sl28 sl29 sl30 sl31 sl32 sl33 sl34 sl35 sl36 sl37 sl38 sl39 sl40 sl41 sl42 sl43 sl44 : Array (Option Value)} {oc0 kV0 dc0 pm0 cd0 ct0 oc1 kV1 dc1 pm1 cd1 ct1 oc2 kV2 dc2 pm2 cd2 ct2 oc3 kV3 dc3 pm3 cd3 ct3 oc4 kV4 dc4 pm4 cd4 ct4 oc5 kV5 dc5 pm5 cd5 ct5 oc6 kV6 dc6 pm6 cd6 ct6 oc7 kV7 dc7 pm7 cd7 ct7 oc8 kV8 dc8 pm8 cd8 ct8 oc9 kV9 dc9 pm9 cd9 ct9 oc10 kV10 dc10 pm10 cd10 ct10 oc11 kV11 dc11 pm11 cd11 ct11 oc12 kV12 dc12 pm12 cd12 ct12 oc13 kV13 dc13 pm13 cd13 ct13 oc14 kV14 dc14 pm14 cd14 ct14 oc15 kV15 dc15 pm15 cd15 ct15 oc16 kV16 dc16 pm16 cd16 ct16 oc17 kV17 dc17 pm17 cd17 ct17 oc18 kV18 dc18 pm18 cd18 ct18 oc19 kV19 dc19 pm19 cd19 ct19 oc20 kV20 dc20 pm20 cd20 ct20 oc21 kV21 dc21 pm21 cd21 ct21 oc22 kV22 dc22 pm22 cd22 ct22 oc23 kV23 dc23 pm23 cd23 ct23 oc24 kV24 dc24 pm24 cd24 ct24 oc25 kV25 dc25 pm25 cd25 ct25 oc26 kV26 dc26 pm26 cd26 ct26 oc27 kV27 dc27 pm27 cd27 ct27 oc28 kV28 dc28 pm28 cd28 ct28 oc29 kV29 dc29 pm29 cd29 ct29 oc30 kV30 dc30 pm30 cd30 ct30 oc31 kV31 dc31 pm31 cd31 ct31 oc32 kV32 dc32 pm32 cd32 ct32 oc33 kV33 dc33 pm33 cd33 ct33 oc34 kV34 dc34 pm34 cd34 ct34 oc35 kV35 dc35 pm35 cd35 ct35 oc36 kV36 dc36 pm36 cd36 ct36 oc37 kV37 dc37 pm37 cd37 ct37 oc38 kV38 dc38 pm38 cd38 ct38 oc39 kV39 dc39 pm39 cd39 ct39 oc40 kV40 dc40 pm40 cd40 ct40 oc41 kV41 dc41 pm41 cd41 ct41 oc42 kV42 dc42 pm42 cd42 ct42 oc43 kV43 dc43 pm43 cd43 ct43 oc44 kV44 dc44 pm44 cd44 ct44 : Value}
    (ca0 : PySem.W.nsIn K mainGlobals "Book" = some (some (.ref C0)))
    (cp0 : PySem.W.plainGet K C0 Str.empty = true)
    (ch0 : PySem.W.hasDictIn K C0 = true)
    (co0 : PySem.W.plainOver K C0 = true)
    (cs0 : PySem.W.findIn K (.ref C0) "__setattr__" = some (some (.builtin "object.__setattr__")))
    (cm0 : PySem.W.makesIn K C0 = true)
    (ck0 : PySem.W.keepIn K (.ref C0) = true)
    (cn0x0 : PySem.W.findIn K (.ref C0) "kept_ground" = some none)
    (cn0x1 : PySem.W.findIn K (.ref C0) "formulas" = some none)
    (ca1 : PySem.W.nsIn K mainGlobals "Ground" = some (some (.ref C1)))
    (cp1 : PySem.W.plainGet K C1 Str.empty = true)
    (ch1 : PySem.W.hasDictIn K C1 = true)
    (co1 : PySem.W.plainOver K C1 = true)
    (cs1 : PySem.W.findIn K (.ref C1) "__setattr__" = some (some (.builtin "object.__setattr__")))
    (cm1 : PySem.W.makesIn K C1 = true)
    (ck1 : PySem.W.keepIn K (.ref C1) = true)
    (cn1x0 : PySem.W.findIn K (.ref C1) "letter_count" = some none)
    (cn1x1 : PySem.W.findIn K (.ref C1) "depth_count" = some none)
    (cn1x2 : PySem.W.findIn K (.ref C1) "turn_list" = some none)
    (cn1x3 : PySem.W.findIn K (.ref C1) "place_by_word" = some none)
    (cn1x4 : PySem.W.findIn K (.ref C1) "kept_powers" = some none)
    (ca2 : PySem.W.nsIn K mainGlobals "Reading" = some (some (.ref C2)))
    (cp2 : PySem.W.plainGet K C2 Str.empty = true)
    (ch2 : PySem.W.hasDictIn K C2 = true)
    (co2 : PySem.W.plainOver K C2 = true)
    (cs2 : PySem.W.findIn K (.ref C2) "__setattr__" = some (some (.builtin "object.__setattr__")))
    (cm2 : PySem.W.makesIn K C2 = true)
    (ck2 : PySem.W.keepIn K (.ref C2) = true)
    (cn2x0 : PySem.W.findIn K (.ref C2) "text" = some none)
    (cn2x1 : PySem.W.findIn K (.ref C2) "at" = some none)
    (cn2x2 : PySem.W.findIn K (.ref C2) "open_count" = some none)
    (xa0 : PySem.W.nsIn K mainGlobals "NoName" = some (some (.ref E_NoName)))
    (xa1 : PySem.W.nsIn K mainGlobals "BracketError" = some (some (.ref E_BracketError)))
    (xa2 : PySem.W.nsIn K mainGlobals "BadName" = some (some (.ref E_BadName)))
    (xa3 : PySem.W.nsIn K mainGlobals "BadText" = some (some (.ref E_BadText)))
    (xa4 : PySem.W.nsIn K mainGlobals "NoLetter" = some (some (.ref E_NoLetter)))
    (xa5 : PySem.W.nsIn K mainGlobals "Ring" = some (some (.ref E_Ring)))
    (xa6 : PySem.W.nsIn K mainGlobals "TooGreat" = some (some (.ref E_TooGreat)))
    (xa7 : PySem.W.nsIn K mainGlobals "BadRow" = some (some (.ref E_BadRow)))
    (xa8 : PySem.W.nsIn K mainGlobals "NoGround" = some (some (.ref E_NoGround)))
    (xa9 : PySem.W.nsIn K mainGlobals "NoPlace" = some (some (.ref E_NoPlace)))
    (xa10 : PySem.W.nsIn K mainGlobals "NoPut" = some (some (.ref E_NoPut)))
    (xa11 : PySem.W.nsIn K mainGlobals "NoRules" = some (some (.ref E_NoRules)))
    (xa12 : PySem.W.nsIn K mainGlobals "TooLong" = some (some (.ref E_TooLong)))
    (xr0 : PySem.W.excIn K E_BadName [.type "ValueError", .type "Exception", .type "BaseException", .type "object"] "ValueError.__new__" = true)
    (xk0 : PySem.W.keepIn K (.ref E_BadName) = true)
    (xs0 : PySem.W.subIn K (.ref E_BadName) (.type "BaseException") = some true)
    (xt0 : PySem.W.typeIn K (.ref E_BadName) = some (.type "type"))
    (ib0 : PySem.W.findIn K (.ref E_BadText) "__getattribute__" = some (some (.builtin "BaseException.__getattribute__")))
    (ic0 : PySem.W.findIn K (.ref E_BadText) "__getattr__" = some none)
    (id0 : PySem.W.subIn K (.ref E_BadText) (.type "BaseException") = some true)
    (ie0 : PySem.W.findIn K (.ref E_BadText) "__class__" = some (some (.builtin "object.__class__")))
    (if0 : PySem.W.specialIn K (.builtin "object.__class__") "__get__" = some (some (.builtin "getset_descriptor.__get__")))
    (ig0 : PySem.W.takesIn K (.builtin "object.__class__") = some true)
    (ih0 : PySem.W.mroIn K E_BadText (.type "object") = some true)
    (ib1 : PySem.W.findIn K (.ref E_NoLetter) "__getattribute__" = some (some (.builtin "BaseException.__getattribute__")))
    (ic1 : PySem.W.findIn K (.ref E_NoLetter) "__getattr__" = some none)
    (id1 : PySem.W.subIn K (.ref E_NoLetter) (.type "BaseException") = some true)
    (ie1 : PySem.W.findIn K (.ref E_NoLetter) "__class__" = some (some (.builtin "object.__class__")))
    (if1 : PySem.W.specialIn K (.builtin "object.__class__") "__get__" = some (some (.builtin "getset_descriptor.__get__")))
    (ig1 : PySem.W.takesIn K (.builtin "object.__class__") = some true)
    (ih1 : PySem.W.mroIn K E_NoLetter (.type "object") = some true)
    (ib2 : PySem.W.findIn K (.ref E_NoName) "__getattribute__" = some (some (.builtin "BaseException.__getattribute__")))
    (ic2 : PySem.W.findIn K (.ref E_NoName) "__getattr__" = some none)
    (id2 : PySem.W.subIn K (.ref E_NoName) (.type "BaseException") = some true)
    (ie2 : PySem.W.findIn K (.ref E_NoName) "__class__" = some (some (.builtin "object.__class__")))
    (if2 : PySem.W.specialIn K (.builtin "object.__class__") "__get__" = some (some (.builtin "getset_descriptor.__get__")))
    (ig2 : PySem.W.takesIn K (.builtin "object.__class__") = some true)
    (ih2 : PySem.W.mroIn K E_NoName (.type "object") = some true)
    (ib3 : PySem.W.findIn K (.ref E_TooGreat) "__getattribute__" = some (some (.builtin "BaseException.__getattribute__")))
    (ic3 : PySem.W.findIn K (.ref E_TooGreat) "__getattr__" = some none)
    (id3 : PySem.W.subIn K (.ref E_TooGreat) (.type "BaseException") = some true)
    (ie3 : PySem.W.findIn K (.ref E_TooGreat) "__class__" = some (some (.builtin "object.__class__")))
    (if3 : PySem.W.specialIn K (.builtin "object.__class__") "__get__" = some (some (.builtin "getset_descriptor.__get__")))
    (ig3 : PySem.W.takesIn K (.builtin "object.__class__") = some true)
    (ih3 : PySem.W.mroIn K E_TooGreat (.type "object") = some true)
    (ib4 : PySem.W.findIn K (.ref E_BadName) "__getattribute__" = some (some (.builtin "BaseException.__getattribute__")))
    (ic4 : PySem.W.findIn K (.ref E_BadName) "__getattr__" = some none)
    (id4 : PySem.W.subIn K (.ref E_BadName) (.type "BaseException") = some true)
    (ie4 : PySem.W.findIn K (.ref E_BadName) "__class__" = some (some (.builtin "object.__class__")))
    (if4 : PySem.W.specialIn K (.builtin "object.__class__") "__get__" = some (some (.builtin "getset_descriptor.__get__")))
    (ig4 : PySem.W.takesIn K (.builtin "object.__class__") = some true)
    (ih4 : PySem.W.mroIn K E_BadName (.type "object") = some true)
    (ib5 : PySem.W.findIn K (.ref E_Ring) "__getattribute__" = some (some (.builtin "BaseException.__getattribute__")))
    (ic5 : PySem.W.findIn K (.ref E_Ring) "__getattr__" = some none)
    (id5 : PySem.W.subIn K (.ref E_Ring) (.type "BaseException") = some true)
    (ie5 : PySem.W.findIn K (.ref E_Ring) "__class__" = some (some (.builtin "object.__class__")))
    (if5 : PySem.W.specialIn K (.builtin "object.__class__") "__get__" = some (some (.builtin "getset_descriptor.__get__")))
    (ig5 : PySem.W.takesIn K (.builtin "object.__class__") = some true)
    (ih5 : PySem.W.mroIn K E_Ring (.type "object") = some true)
    (xm0 : PySem.W.exmOne K (.ref E_BadText) (.ref E_BracketError) = some true)
    (xm1 : PySem.W.exmOne K (.ref E_NoLetter) (.ref E_BracketError) = some true)
    (xm2 : PySem.W.exmOne K (.ref E_NoName) (.ref E_BracketError) = some true)
    (xm3 : PySem.W.exmOne K (.ref E_TooGreat) (.ref E_BracketError) = some true)
    (xm4 : PySem.W.exmOne K (.ref E_BadName) (.ref E_BracketError) = some true)
    (xm5 : PySem.W.exmOne K (.ref E_Ring) (.ref E_BracketError) = some true)
    (xi0 : PySem.W.kitAny K (.ref E_Ring) [.ref E_BadName, .ref E_BadRow, .ref E_BadText, .ref E_NoGround, .ref E_NoLetter, .ref E_NoName, .ref E_NoPlace, .ref E_NoPut] = some false)
    (xi1 : PySem.W.kitAny K (.ref E_BadName) [.ref E_BadName, .ref E_BadRow, .ref E_BadText, .ref E_NoGround, .ref E_NoLetter, .ref E_NoName, .ref E_NoPlace, .ref E_NoPut] = some true)
    (xi2 : PySem.W.kitAny K (.ref E_TooGreat) [.ref E_BadName, .ref E_BadRow, .ref E_BadText, .ref E_NoGround, .ref E_NoLetter, .ref E_NoName, .ref E_NoPlace, .ref E_NoPut] = some false)
    (xi3 : PySem.W.kitAny K (.ref E_NoName) [.ref E_BadName, .ref E_BadRow, .ref E_BadText, .ref E_NoGround, .ref E_NoLetter, .ref E_NoName, .ref E_NoPlace, .ref E_NoPut] = some true)
    (xi4 : PySem.W.kitAny K (.ref E_NoLetter) [.ref E_BadName, .ref E_BadRow, .ref E_BadText, .ref E_NoGround, .ref E_NoLetter, .ref E_NoName, .ref E_NoPlace, .ref E_NoPut] = some true)
    (xi5 : PySem.W.kitAny K (.ref E_BadText) [.ref E_BadName, .ref E_BadRow, .ref E_BadText, .ref E_NoGround, .ref E_NoLetter, .ref E_NoName, .ref E_NoPlace, .ref E_NoPut] = some true)
    (xi6 : PySem.W.kitOne K (.ref E_Ring) (.ref E_Ring) = some true)
    (xi7 : PySem.W.kitOne K (.ref E_BadName) (.ref E_Ring) = some false)
    (xi8 : PySem.W.kitOne K (.ref E_TooGreat) (.ref E_Ring) = some false)
    (xi9 : PySem.W.kitOne K (.ref E_NoName) (.ref E_Ring) = some false)
    (xi10 : PySem.W.kitOne K (.ref E_NoLetter) (.ref E_Ring) = some false)
    (xi11 : PySem.W.kitOne K (.ref E_BadText) (.ref E_Ring) = some false)
    (xi12 : PySem.W.kitAny K (.ref E_Ring) [.ref E_NoRules, .ref E_TooGreat, .ref E_TooLong] = some false)
    (xi13 : PySem.W.kitAny K (.ref E_BadName) [.ref E_NoRules, .ref E_TooGreat, .ref E_TooLong] = some false)
    (xi14 : PySem.W.kitAny K (.ref E_TooGreat) [.ref E_NoRules, .ref E_TooGreat, .ref E_TooLong] = some true)
    (xi15 : PySem.W.kitAny K (.ref E_NoName) [.ref E_NoRules, .ref E_TooGreat, .ref E_TooLong] = some false)
    (xi16 : PySem.W.kitAny K (.ref E_NoLetter) [.ref E_NoRules, .ref E_TooGreat, .ref E_TooLong] = some false)
    (xi17 : PySem.W.kitAny K (.ref E_BadText) [.ref E_NoRules, .ref E_TooGreat, .ref E_TooLong] = some false)
    (wa0 : K.lookup E_NoName = some (excClassObj xnm0 xq0 E_NoName xN0 xbs0 [.ref E_BracketError, .type "ValueError", .type "Exception", .type "BaseException", .type "object"] true xsn0 xsub0 xab0 xcol0 xdd0 xm00 xm10 xm20 xm30 xm50 "ValueError.__new__"))
    (wb0 : PySem.W.findIn K (.ref E_NoName) "__setattr__" = some (some (.builtin "object.__setattr__")))
    (wc0 : PySem.W.subIn K (.ref E_NoName) (.type "BaseException") = some true)
    (wd0 : PySem.W.typeIn K (.ref E_NoName) = some (.type "type"))
    (we0 : PySem.W.keepIn K (.ref E_NoName) = true)
    (wf0 : PySem.W.findIn K (.ref E_NoName) "__init__" = some (some (.ref fx0)))
    (wg0 : PySem.W.typeIn K (.ref fx0) = some (.type "function"))
    (wh0 : K.lookup fx0 = some ⟨xoc0, xod0, .func (PySem.W.fnOf "__init__" "NoName.__init__" (defArgs si_NoName) (defBody si_NoName) (defScope si_NoName) .none xkV0 xdc0 xpm0 xan0 xcd0 xct0), xsl0⟩)
    (wi0 : PySem.W.codeIn K xcd0 "NoName.__init__" = true)
    (wj0 : PySem.W.keepIn K (.ref fx0) = true)
    (wk0 : PySem.W.findIn K (.ref E_NoName) "name" = some none)
    (wa1 : K.lookup E_BadText = some (excClassObj xnm1 xq1 E_BadText xN1 xbs1 [.ref E_BracketError, .type "ValueError", .type "Exception", .type "BaseException", .type "object"] true xsn1 xsub1 xab1 xcol1 xdd1 xm01 xm11 xm21 xm31 xm51 "ValueError.__new__"))
    (wb1 : PySem.W.findIn K (.ref E_BadText) "__setattr__" = some (some (.builtin "object.__setattr__")))
    (wc1 : PySem.W.subIn K (.ref E_BadText) (.type "BaseException") = some true)
    (wd1 : PySem.W.typeIn K (.ref E_BadText) = some (.type "type"))
    (we1 : PySem.W.keepIn K (.ref E_BadText) = true)
    (wf1 : PySem.W.findIn K (.ref E_BadText) "__init__" = some (some (.ref fx1)))
    (wg1 : PySem.W.typeIn K (.ref fx1) = some (.type "function"))
    (wh1 : K.lookup fx1 = some ⟨xoc1, xod1, .func (PySem.W.fnOf "__init__" "BadText.__init__" (defArgs si_BadText) (defBody si_BadText) (defScope si_BadText) .none xkV1 xdc1 xpm1 xan1 xcd1 xct1), xsl1⟩)
    (wi1 : PySem.W.codeIn K xcd1 "BadText.__init__" = true)
    (wj1 : PySem.W.keepIn K (.ref fx1) = true)
    (wk1 : PySem.W.findIn K (.ref E_BadText) "at" = some none)
    (wa2 : K.lookup E_NoLetter = some (excClassObj xnm2 xq2 E_NoLetter xN2 xbs2 [.ref E_BracketError, .type "ValueError", .type "Exception", .type "BaseException", .type "object"] true xsn2 xsub2 xab2 xcol2 xdd2 xm02 xm12 xm22 xm32 xm52 "ValueError.__new__"))
    (wb2 : PySem.W.findIn K (.ref E_NoLetter) "__setattr__" = some (some (.builtin "object.__setattr__")))
    (wc2 : PySem.W.subIn K (.ref E_NoLetter) (.type "BaseException") = some true)
    (wd2 : PySem.W.typeIn K (.ref E_NoLetter) = some (.type "type"))
    (we2 : PySem.W.keepIn K (.ref E_NoLetter) = true)
    (wf2 : PySem.W.findIn K (.ref E_NoLetter) "__init__" = some (some (.ref fx2)))
    (wg2 : PySem.W.typeIn K (.ref fx2) = some (.type "function"))
    (wh2 : K.lookup fx2 = some ⟨xoc2, xod2, .func (PySem.W.fnOf "__init__" "NoLetter.__init__" (defArgs si_NoLetter) (defBody si_NoLetter) (defScope si_NoLetter) .none xkV2 xdc2 xpm2 xan2 xcd2 xct2), xsl2⟩)
    (wi2 : PySem.W.codeIn K xcd2 "NoLetter.__init__" = true)
    (wj2 : PySem.W.keepIn K (.ref fx2) = true)
    (wk2 : PySem.W.findIn K (.ref E_NoLetter) "letter" = some none)
    (wa3 : K.lookup E_Ring = some (excClassObj xnm3 xq3 E_Ring xN3 xbs3 [.ref E_BracketError, .type "ValueError", .type "Exception", .type "BaseException", .type "object"] true xsn3 xsub3 xab3 xcol3 xdd3 xm03 xm13 xm23 xm33 xm53 "ValueError.__new__"))
    (wb3 : PySem.W.findIn K (.ref E_Ring) "__setattr__" = some (some (.builtin "object.__setattr__")))
    (wc3 : PySem.W.subIn K (.ref E_Ring) (.type "BaseException") = some true)
    (wd3 : PySem.W.typeIn K (.ref E_Ring) = some (.type "type"))
    (we3 : PySem.W.keepIn K (.ref E_Ring) = true)
    (wf3 : PySem.W.findIn K (.ref E_Ring) "__init__" = some (some (.ref fx3)))
    (wg3 : PySem.W.typeIn K (.ref fx3) = some (.type "function"))
    (wh3 : K.lookup fx3 = some ⟨xoc3, xod3, .func (PySem.W.fnOf "__init__" "Ring.__init__" (defArgs si_Ring) (defBody si_Ring) (defScope si_Ring) .none xkV3 xdc3 xpm3 xan3 xcd3 xct3), xsl3⟩)
    (wi3 : PySem.W.codeIn K xcd3 "Ring.__init__" = true)
    (wj3 : PySem.W.keepIn K (.ref fx3) = true)
    (wk3 : PySem.W.findIn K (.ref E_Ring) "ring" = some none)
    (cra : PySem.W.readsIn K E_BracketError (.type "type") = true)
    (crb : PySem.W.specialIn K (.ref E_BracketError) "__getattribute__" = some (some (.builtin "type.__getattribute__")))
    (crc : PySem.W.findCls K (.ref E_BracketError) (.type "type") "__init__" = some (.val (.builtin "ValueError.__init__")))
    (va0 : PySem.W.findIn K (.ref E_Ring) "__getattribute__" = some (some (.builtin "BaseException.__getattribute__")))
    (vb0 : PySem.W.findIn K (.ref E_Ring) "__getattr__" = some none)
    (vc0 : PySem.W.subIn K (.ref E_Ring) (.type "BaseException") = some true)
    (vd0 : PySem.W.hasDictIn K E_Ring = true)
    (ve0 : PySem.W.findIn K (.ref E_Ring) "ring" = some none)
    (a0 : PySem.W.nsIn K mainGlobals "_law_folded" = some (some (.ref f0)))
    (l0 : K.lookup f0 = some ⟨oc0, od0, .func (PySem.W.fnOf "_law_folded" "_law_folded" (defArgs s__law_folded) (defBody s__law_folded) (defScope s__law_folded) .none kV0 dc0 pm0 an0 cd0 ct0), sl0⟩)
    (c0 : PySem.W.codeIn K cd0 "_law_folded" = true)
    (k0 : PySem.W.keepIn K (.ref f0) = true)
    (a1 : PySem.W.nsIn K mainGlobals "_law_box" = some (some (.ref f1)))
    (l1 : K.lookup f1 = some ⟨oc1, od1, .func (PySem.W.fnOf "_law_box" "_law_box" (defArgs s__law_box) (defBody s__law_box) (defScope s__law_box) .none kV1 dc1 pm1 an1 cd1 ct1), sl1⟩)
    (c1 : PySem.W.codeIn K cd1 "_law_box" = true)
    (k1 : PySem.W.keepIn K (.ref f1) = true)
    (a2 : PySem.W.nsIn K mainGlobals "_law_take" = some (some (.ref f2)))
    (l2 : K.lookup f2 = some ⟨oc2, od2, .func (PySem.W.fnOf "_law_take" "_law_take" (defArgs s__law_take) (defBody s__law_take) (defScope s__law_take) .none kV2 dc2 pm2 an2 cd2 ct2), sl2⟩)
    (c2 : PySem.W.codeIn K cd2 "_law_take" = true)
    (k2 : PySem.W.keepIn K (.ref f2) = true)
    (a3 : PySem.W.nsIn K mainGlobals "_law_names" = some (some (.ref f3)))
    (l3 : K.lookup f3 = some ⟨oc3, od3, .func (PySem.W.fnOf "_law_names" "_law_names" (defArgs s__law_names) (defBody s__law_names) (defScope s__law_names) .none kV3 dc3 pm3 an3 cd3 ct3), sl3⟩)
    (c3 : PySem.W.codeIn K cd3 "_law_names" = true)
    (k3 : PySem.W.keepIn K (.ref f3) = true)
    (a4 : PySem.W.findIn K (.ref C0) "__init__" = some (some (.ref f4)))
    (i4 : PySem.W.isFn K (.ref f4) = true)
    (l4 : K.lookup f4 = some ⟨oc4, od4, .func (PySem.W.fnOf "__init__" "Book.__init__" (defArgs s_Book_init) (defBody s_Book_init) (defScope s_Book_init) .none kV4 dc4 pm4 an4 cd4 ct4), sl4⟩)
    (c4 : PySem.W.codeIn K cd4 "Book.__init__" = true)
    (k4 : PySem.W.keepIn K (.ref f4) = true)
    (a5 : PySem.W.nsIn K mainGlobals "next_turnword" = some (some (.ref f5)))
    (l5 : K.lookup f5 = some ⟨oc5, od5, .func (PySem.W.fnOf "next_turnword" "next_turnword" (defArgs s_next_turnword) (defBody s_next_turnword) (defScope s_next_turnword) .none kV5 dc5 pm5 an5 cd5 ct5), sl5⟩)
    (c5 : PySem.W.codeIn K cd5 "next_turnword" = true)
    (k5 : PySem.W.keepIn K (.ref f5) = true)
    (a6 : PySem.W.nsIn K mainGlobals "turnwords" = some (some (.ref f6)))
    (l6 : K.lookup f6 = some ⟨oc6, od6, .func (PySem.W.fnOf "turnwords" "turnwords" (defArgs s_turnwords) (defBody s_turnwords) (defScope s_turnwords) .none kV6 dc6 pm6 an6 cd6 ct6), sl6⟩)
    (c6 : PySem.W.codeIn K cd6 "turnwords" = true)
    (k6 : PySem.W.keepIn K (.ref f6) = true)
    (a7 : PySem.W.findIn K (.ref C1) "__init__" = some (some (.ref f7)))
    (i7 : PySem.W.isFn K (.ref f7) = true)
    (l7 : K.lookup f7 = some ⟨oc7, od7, .func (PySem.W.fnOf "__init__" "Ground.__init__" (defArgs s_Ground_init) (defBody s_Ground_init) (defScope s_Ground_init) .none kV7 dc7 pm7 an7 cd7 ct7), sl7⟩)
    (c7 : PySem.W.codeIn K cd7 "Ground.__init__" = true)
    (k7 : PySem.W.keepIn K (.ref f7) = true)
    (a8 : PySem.W.findIn K (.ref C0) "look_there" = some (some (.ref f8)))
    (i8 : PySem.W.isFn K (.ref f8) = true)
    (l8 : K.lookup f8 = some ⟨oc8, od8, .func (PySem.W.fnOf "look_there" "Book.look_there" (defArgs s_Book_look_there) (defBody s_Book_look_there) (defScope s_Book_look_there) .none kV8 dc8 pm8 an8 cd8 ct8), sl8⟩)
    (c8 : PySem.W.codeIn K cd8 "Book.look_there" = true)
    (k8 : PySem.W.keepIn K (.ref f8) = true)
    (a9 : PySem.W.findIn K (.ref C0) "drop" = some (some (.ref f9)))
    (i9 : PySem.W.isFn K (.ref f9) = true)
    (l9 : K.lookup f9 = some ⟨oc9, od9, .func (PySem.W.fnOf "drop" "Book.drop" (defArgs s_Book_drop) (defBody s_Book_drop) (defScope s_Book_drop) .none kV9 dc9 pm9 an9 cd9 ct9), sl9⟩)
    (c9 : PySem.W.codeIn K cd9 "Book.drop" = true)
    (k9 : PySem.W.keepIn K (.ref f9) = true)
    (a10 : PySem.W.nsIn K mainGlobals "_law_formula" = some (some (.ref f10)))
    (l10 : K.lookup f10 = some ⟨oc10, od10, .func (PySem.W.fnOf "_law_formula" "_law_formula" (defArgs s__law_formula) (defBody s__law_formula) (defScope s__law_formula) .none kV10 dc10 pm10 an10 cd10 ct10), sl10⟩)
    (c10 : PySem.W.codeIn K cd10 "_law_formula" = true)
    (k10 : PySem.W.keepIn K (.ref f10) = true)
    (a11 : PySem.W.nsIn K mainGlobals "_law_parts" = some (some (.ref f11)))
    (l11 : K.lookup f11 = some ⟨oc11, od11, .func (PySem.W.fnOf "_law_parts" "_law_parts" (defArgs s__law_parts) (defBody s__law_parts) (defScope s__law_parts) .none kV11 dc11 pm11 an11 cd11 ct11), sl11⟩)
    (c11 : PySem.W.codeIn K cd11 "_law_parts" = true)
    (k11 : PySem.W.keepIn K (.ref f11) = true)
    (a12 : PySem.W.nsIn K mainGlobals "_law_own" = some (some (.ref f12)))
    (l12 : K.lookup f12 = some ⟨oc12, od12, .func (PySem.W.fnOf "_law_own" "_law_own" (defArgs s__law_own) (defBody s__law_own) (defScope s__law_own) .none kV12 dc12 pm12 an12 cd12 ct12), sl12⟩)
    (c12 : PySem.W.codeIn K cd12 "_law_own" = true)
    (k12 : PySem.W.keepIn K (.ref f12) = true)
    (a13 : PySem.W.nsIn K mainGlobals "_law_ring" = some (some (.ref f13)))
    (l13 : K.lookup f13 = some ⟨oc13, od13, .func (PySem.W.fnOf "_law_ring" "_law_ring" (defArgs s__law_ring) (defBody s__law_ring) (defScope s__law_ring) .none kV13 dc13 pm13 an13 cd13 ct13), sl13⟩)
    (c13 : PySem.W.codeIn K cd13 "_law_ring" = true)
    (k13 : PySem.W.keepIn K (.ref f13) = true)
    (a14 : PySem.W.nsIn K mainGlobals "_law_same" = some (some (.ref f14)))
    (l14 : K.lookup f14 = some ⟨oc14, od14, .func (PySem.W.fnOf "_law_same" "_law_same" (defArgs s__law_same) (defBody s__law_same) (defScope s__law_same) .none kV14 dc14 pm14 an14 cd14 ct14), sl14⟩)
    (c14 : PySem.W.codeIn K cd14 "_law_same" = true)
    (k14 : PySem.W.keepIn K (.ref f14) = true)
    (a15 : PySem.W.nsIn K mainGlobals "is_name" = some (some (.ref f15)))
    (l15 : K.lookup f15 = some ⟨oc15, od15, .func (PySem.W.fnOf "is_name" "is_name" (defArgs s_is_name) (defBody s_is_name) (defScope s_is_name) .none kV15 dc15 pm15 an15 cd15 ct15), sl15⟩)
    (c15 : PySem.W.codeIn K cd15 "is_name" = true)
    (k15 : PySem.W.keepIn K (.ref f15) = true)
    (a16 : PySem.W.findIn K (.ref C2) "__init__" = some (some (.ref f16)))
    (i16 : PySem.W.isFn K (.ref f16) = true)
    (l16 : K.lookup f16 = some ⟨oc16, od16, .func (PySem.W.fnOf "__init__" "Reading.__init__" (defArgs s_Reading_init) (defBody s_Reading_init) (defScope s_Reading_init) .none kV16 dc16 pm16 an16 cd16 ct16), sl16⟩)
    (c16 : PySem.W.codeIn K cd16 "Reading.__init__" = true)
    (k16 : PySem.W.keepIn K (.ref f16) = true)
    (a17 : PySem.W.findIn K (.ref C2) "sign" = some (some (.ref f17)))
    (i17 : PySem.W.isFn K (.ref f17) = true)
    (l17 : K.lookup f17 = some ⟨oc17, od17, .func (PySem.W.fnOf "sign" "Reading.sign" (defArgs s_Reading_sign) (defBody s_Reading_sign) (defScope s_Reading_sign) .none kV17 dc17 pm17 an17 cd17 ct17), sl17⟩)
    (c17 : PySem.W.codeIn K cd17 "Reading.sign" = true)
    (k17 : PySem.W.keepIn K (.ref f17) = true)
    (a18 : PySem.W.findIn K (.ref C2) "stop" = some (some (.ref f18)))
    (i18 : PySem.W.isFn K (.ref f18) = true)
    (l18 : K.lookup f18 = some ⟨oc18, od18, .func (PySem.W.fnOf "stop" "Reading.stop" (defArgs s_Reading_stop) (defBody s_Reading_stop) (defScope s_Reading_stop) .none kV18 dc18 pm18 an18 cd18 ct18), sl18⟩)
    (c18 : PySem.W.codeIn K cd18 "Reading.stop" = true)
    (k18 : PySem.W.keepIn K (.ref f18) = true)
    (a19 : PySem.W.findIn K (.ref C2) "take" = some (some (.ref f19)))
    (i19 : PySem.W.isFn K (.ref f19) = true)
    (l19 : K.lookup f19 = some ⟨oc19, od19, .func (PySem.W.fnOf "take" "Reading.take" (defArgs s_Reading_take) (defBody s_Reading_take) (defScope s_Reading_take) .none kV19 dc19 pm19 an19 cd19 ct19), sl19⟩)
    (c19 : PySem.W.codeIn K cd19 "Reading.take" = true)
    (k19 : PySem.W.keepIn K (.ref f19) = true)
    (a20 : PySem.W.findIn K (.ref C2) "expr" = some (some (.ref f20)))
    (i20 : PySem.W.isFn K (.ref f20) = true)
    (l20 : K.lookup f20 = some ⟨oc20, od20, .func (PySem.W.fnOf "expr" "Reading.expr" (defArgs s_Reading_expr) (defBody s_Reading_expr) (defScope s_Reading_expr) .none kV20 dc20 pm20 an20 cd20 ct20), sl20⟩)
    (c20 : PySem.W.codeIn K cd20 "Reading.expr" = true)
    (k20 : PySem.W.keepIn K (.ref f20) = true)
    (a21 : PySem.W.nsIn K mainGlobals "is_among" = some (some (.ref f21)))
    (l21 : K.lookup f21 = some ⟨oc21, od21, .func (PySem.W.fnOf "is_among" "is_among" (defArgs s_is_among) (defBody s_is_among) (defScope s_is_among) .none kV21 dc21 pm21 an21 cd21 ct21), sl21⟩)
    (c21 : PySem.W.codeIn K cd21 "is_among" = true)
    (k21 : PySem.W.keepIn K (.ref f21) = true)
    (a22 : PySem.W.findIn K (.ref C2) "number" = some (some (.ref f22)))
    (i22 : PySem.W.isFn K (.ref f22) = true)
    (l22 : K.lookup f22 = some ⟨oc22, od22, .func (PySem.W.fnOf "number" "Reading.number" (defArgs s_Reading_number) (defBody s_Reading_number) (defScope s_Reading_number) .none kV22 dc22 pm22 an22 cd22 ct22), sl22⟩)
    (c22 : PySem.W.codeIn K cd22 "Reading.number" = true)
    (k22 : PySem.W.keepIn K (.ref f22) = true)
    (a23 : PySem.W.findIn K (.ref C2) "item" = some (some (.ref f23)))
    (i23 : PySem.W.isFn K (.ref f23) = true)
    (l23 : K.lookup f23 = some ⟨oc23, od23, .func (PySem.W.fnOf "item" "Reading.item" (defArgs s_Reading_item) (defBody s_Reading_item) (defScope s_Reading_item) .none kV23 dc23 pm23 an23 cd23 ct23), sl23⟩)
    (c23 : PySem.W.codeIn K cd23 "Reading.item" = true)
    (k23 : PySem.W.keepIn K (.ref f23) = true)
    (a24 : PySem.W.findIn K (.ref C2) "enter" = some (some (.ref f24)))
    (i24 : PySem.W.isFn K (.ref f24) = true)
    (l24 : K.lookup f24 = some ⟨oc24, od24, .func (PySem.W.fnOf "enter" "Reading.enter" (defArgs s_Reading_enter) (defBody s_Reading_enter) (defScope s_Reading_enter) .none kV24 dc24 pm24 an24 cd24 ct24), sl24⟩)
    (c24 : PySem.W.codeIn K cd24 "Reading.enter" = true)
    (k24 : PySem.W.keepIn K (.ref f24) = true)
    (a25 : PySem.W.findIn K (.ref C2) "leave" = some (some (.ref f25)))
    (i25 : PySem.W.isFn K (.ref f25) = true)
    (l25 : K.lookup f25 = some ⟨oc25, od25, .func (PySem.W.fnOf "leave" "Reading.leave" (defArgs s_Reading_leave) (defBody s_Reading_leave) (defScope s_Reading_leave) .none kV25 dc25 pm25 an25 cd25 ct25), sl25⟩)
    (c25 : PySem.W.codeIn K cd25 "Reading.leave" = true)
    (k25 : PySem.W.keepIn K (.ref f25) = true)
    (a26 : PySem.W.findIn K (.ref C2) "letters" = some (some (.ref f26)))
    (i26 : PySem.W.isFn K (.ref f26) = true)
    (l26 : K.lookup f26 = some ⟨oc26, od26, .func (PySem.W.fnOf "letters" "Reading.letters" (defArgs s_Reading_letters) (defBody s_Reading_letters) (defScope s_Reading_letters) .none kV26 dc26 pm26 an26 cd26 ct26), sl26⟩)
    (c26 : PySem.W.codeIn K cd26 "Reading.letters" = true)
    (k26 : PySem.W.keepIn K (.ref f26) = true)
    (a27 : PySem.W.findIn K (.ref C2) "atom" = some (some (.ref f27)))
    (i27 : PySem.W.isFn K (.ref f27) = true)
    (l27 : K.lookup f27 = some ⟨oc27, od27, .func (PySem.W.fnOf "atom" "Reading.atom" (defArgs s_Reading_atom) (defBody s_Reading_atom) (defScope s_Reading_atom) .none kV27 dc27 pm27 an27 cd27 ct27), sl27⟩)
    (c27 : PySem.W.codeIn K cd27 "Reading.atom" = true)
    (k27 : PySem.W.keepIn K (.ref f27) = true)
    (a28 : PySem.W.nsIn K mainGlobals "read_tree" = some (some (.ref f28)))
    (l28 : K.lookup f28 = some ⟨oc28, od28, .func (PySem.W.fnOf "read_tree" "read_tree" (defArgs s_read_tree) (defBody s_read_tree) (defScope s_read_tree) .none kV28 dc28 pm28 an28 cd28 ct28), sl28⟩)
    (c28 : PySem.W.codeIn K cd28 "read_tree" = true)
    (k28 : PySem.W.keepIn K (.ref f28) = true)
    (a29 : PySem.W.nsIn K mainGlobals "leaves_of" = some (some (.ref f29)))
    (l29 : K.lookup f29 = some ⟨oc29, od29, .func (PySem.W.fnOf "leaves_of" "leaves_of" (defArgs s_leaves_of) (defBody s_leaves_of) (defScope s_leaves_of) .none kV29 dc29 pm29 an29 cd29 ct29), sl29⟩)
    (c29 : PySem.W.codeIn K cd29 "leaves_of" = true)
    (k29 : PySem.W.keepIn K (.ref f29) = true)
    (a30 : PySem.W.findIn K (.ref C1) "letters" = some (some (.ref f30)))
    (i30 : PySem.W.isFn K (.ref f30) = true)
    (l30 : K.lookup f30 = some ⟨oc30, od30, .func (PySem.W.fnOf "letters" "Ground.letters" (defArgs s_Ground_letters) (defBody s_Ground_letters) (defScope s_Ground_letters) .none kV30 dc30 pm30 an30 cd30 ct30), sl30⟩)
    (c30 : PySem.W.codeIn K cd30 "Ground.letters" = true)
    (k30 : PySem.W.keepIn K (.ref f30) = true)
    (a31 : PySem.W.nsIn K mainGlobals "look_letters" = some (some (.ref f31)))
    (l31 : K.lookup f31 = some ⟨oc31, od31, .func (PySem.W.fnOf "look_letters" "look_letters" (defArgs s_look_letters) (defBody s_look_letters) (defScope s_look_letters) .none kV31 dc31 pm31 an31 cd31 ct31), sl31⟩)
    (c31 : PySem.W.codeIn K cd31 "look_letters" = true)
    (k31 : PySem.W.keepIn K (.ref f31) = true)
    (a32 : PySem.W.nsIn K mainGlobals "names_in" = some (some (.ref f32)))
    (l32 : K.lookup f32 = some ⟨oc32, od32, .func (PySem.W.fnOf "names_in" "names_in" (defArgs s_names_in) (defBody s_names_in) (defScope s_names_in) .none kV32 dc32 pm32 an32 cd32 ct32), sl32⟩)
    (c32 : PySem.W.codeIn K cd32 "names_in" = true)
    (k32 : PySem.W.keepIn K (.ref f32) = true)
    (a33 : PySem.W.findIn K (.ref C0) "own_needs" = some (some (.ref f33)))
    (i33 : PySem.W.isFn K (.ref f33) = true)
    (l33 : K.lookup f33 = some ⟨oc33, od33, .func (PySem.W.fnOf "own_needs" "Book.own_needs" (defArgs s_Book_own_needs) (defBody s_Book_own_needs) (defScope s_Book_own_needs) .none kV33 dc33 pm33 an33 cd33 ct33), sl33⟩)
    (c33 : PySem.W.codeIn K cd33 "Book.own_needs" = true)
    (k33 : PySem.W.keepIn K (.ref f33) = true)
    (a34 : PySem.W.findIn K (.ref C0) "ring_by" = some (some (.ref f34)))
    (i34 : PySem.W.isFn K (.ref f34) = true)
    (l34 : K.lookup f34 = some ⟨oc34, od34, .func (PySem.W.fnOf "ring_by" "Book.ring_by" (defArgs s_Book_ring_by) (defBody s_Book_ring_by) (defScope s_Book_ring_by) .none kV34 dc34 pm34 an34 cd34 ct34), sl34⟩)
    (c34 : PySem.W.codeIn K cd34 "Book.ring_by" = true)
    (k34 : PySem.W.keepIn K (.ref f34) = true)
    (a35 : PySem.W.findIn K (.ref C0) "let" = some (some (.ref f35)))
    (i35 : PySem.W.isFn K (.ref f35) = true)
    (l35 : K.lookup f35 = some ⟨oc35, od35, .func (PySem.W.fnOf "let" "Book.let" (defArgs s_Book_let) (defBody s_Book_let) (defScope s_Book_let) .none kV35 dc35 pm35 an35 cd35 ct35), sl35⟩)
    (c35 : PySem.W.codeIn K cd35 "Book.let" = true)
    (k35 : PySem.W.keepIn K (.ref f35) = true)
    (a36 : PySem.W.nsIn K mainGlobals "_law_let" = some (some (.ref f36)))
    (l36 : K.lookup f36 = some ⟨oc36, od36, .func (PySem.W.fnOf "_law_let" "_law_let" (defArgs s__law_let) (defBody s__law_let) (defScope s__law_let) .none kV36 dc36 pm36 an36 cd36 ct36), sl36⟩)
    (c36 : PySem.W.codeIn K cd36 "_law_let" = true)
    (k36 : PySem.W.keepIn K (.ref f36) = true)
    (a37 : PySem.W.nsIn K mainGlobals "_law_text" = some (some (.ref f37)))
    (l37 : K.lookup f37 = some ⟨oc37, od37, .func (PySem.W.fnOf "_law_text" "_law_text" (defArgs s__law_text) (defBody s__law_text) (defScope s__law_text) .none kV37 dc37 pm37 an37 cd37 ct37), sl37⟩)
    (c37 : PySem.W.codeIn K cd37 "_law_text" = true)
    (k37 : PySem.W.keepIn K (.ref f37) = true)
    (a38 : PySem.W.nsIn K mainGlobals "_law_item_text" = some (some (.ref f38)))
    (l38 : K.lookup f38 = some ⟨oc38, od38, .func (PySem.W.fnOf "_law_item_text" "_law_item_text" (defArgs s__law_item_text) (defBody s__law_item_text) (defScope s__law_item_text) .none kV38 dc38 pm38 an38 cd38 ct38), sl38⟩)
    (c38 : PySem.W.codeIn K cd38 "_law_item_text" = true)
    (k38 : PySem.W.keepIn K (.ref f38) = true)
    (a39 : PySem.W.nsIn K mainGlobals "atom_text" = some (some (.ref f39)))
    (l39 : K.lookup f39 = some ⟨oc39, od39, .func (PySem.W.fnOf "atom_text" "atom_text" (defArgs s_atom_text) (defBody s_atom_text) (defScope s_atom_text) .none kV39 dc39 pm39 an39 cd39 ct39), sl39⟩)
    (c39 : PySem.W.codeIn K cd39 "atom_text" = true)
    (k39 : PySem.W.keepIn K (.ref f39) = true)
    (a40 : PySem.W.nsIn K mainGlobals "item_text" = some (some (.ref f40)))
    (l40 : K.lookup f40 = some ⟨oc40, od40, .func (PySem.W.fnOf "item_text" "item_text" (defArgs s_item_text) (defBody s_item_text) (defScope s_item_text) .none kV40 dc40 pm40 an40 cd40 ct40), sl40⟩)
    (c40 : PySem.W.codeIn K cd40 "item_text" = true)
    (k40 : PySem.W.keepIn K (.ref f40) = true)
    (a41 : PySem.W.nsIn K mainGlobals "tree_text" = some (some (.ref f41)))
    (l41 : K.lookup f41 = some ⟨oc41, od41, .func (PySem.W.fnOf "tree_text" "tree_text" (defArgs s_tree_text) (defBody s_tree_text) (defScope s_tree_text) .none kV41 dc41 pm41 an41 cd41 ct41), sl41⟩)
    (c41 : PySem.W.codeIn K cd41 "tree_text" = true)
    (k41 : PySem.W.keepIn K (.ref f41) = true)
    (a42 : PySem.W.findIn K (.ref C0) "text_of" = some (some (.ref f42)))
    (i42 : PySem.W.isFn K (.ref f42) = true)
    (l42 : K.lookup f42 = some ⟨oc42, od42, .func (PySem.W.fnOf "text_of" "Book.text_of" (defArgs s_Book_text_of) (defBody s_Book_text_of) (defScope s_Book_text_of) .none kV42 dc42 pm42 an42 cd42 ct42), sl42⟩)
    (c42 : PySem.W.codeIn K cd42 "Book.text_of" = true)
    (k42 : PySem.W.keepIn K (.ref f42) = true)
    (a43 : PySem.W.findIn K (.ref C0) "names" = some (some (.ref f43)))
    (i43 : PySem.W.isFn K (.ref f43) = true)
    (l43 : K.lookup f43 = some ⟨oc43, od43, .func (PySem.W.fnOf "names" "Book.names" (defArgs s_Book_names) (defBody s_Book_names) (defScope s_Book_names) .none kV43 dc43 pm43 an43 cd43 ct43), sl43⟩)
    (c43 : PySem.W.codeIn K cd43 "Book.names" = true)
    (k43 : PySem.W.keepIn K (.ref f43) = true)
    (a44 : PySem.W.nsIn K mainGlobals "law" = some (some (.ref f44)))
    (l44 : K.lookup f44 = some ⟨oc44, od44, .func (PySem.W.fnOf "law" "law" (defArgs s_law) (defBody s_law) (defScope s_law) .none kV44 dc44 pm44 an44 cd44 ct44), sl44⟩)
    (c44 : PySem.W.codeIn K cd44 "law" = true)
    (k44 : PySem.W.keepIn K (.ref f44) = true)
    (y0 : PySem.W.nsIn K mainGlobals "turnwords_turning" = some (some (.ref f6)))
    (v0 : PySem.W.nsIn K mainGlobals "FIGURE_SIGNS" = some (some (.str "0123456789" t0)))
    (v1 : PySem.W.nsIn K mainGlobals "LETTER_SIGNS" = some (some (.str "abcd" t1)))
    (v2 : PySem.W.nsIn K mainGlobals "MOST_BOTH" = some (some (.int 7 t2)))
    (v3 : PySem.W.nsIn K mainGlobals "MOST_DEPTH" = some (some (.int 5 t3)))
    (v4 : PySem.W.nsIn K mainGlobals "MOST_FIGURES" = some (some (.int 9 t4)))
    (v5 : PySem.W.nsIn K mainGlobals "MOST_LETTERS" = some (some (.int 4 t5)))
    (v6 : PySem.W.nsIn K mainGlobals "MOST_NAME" = some (some (.int 8 t6)))
    (v7 : PySem.W.nsIn K mainGlobals "MOST_NESTED" = some (some (.int 20 t7)))
    (v8 : PySem.W.nsIn K mainGlobals "SMALL_SIGNS" = some (some (.str "abcdefghijklmnopqrstuvwxyz" t8)))
    (z0 : PySem.W.nsIn K mainGlobals "abs" = some none)
    (z1 : PySem.W.nsIn K mainGlobals "all" = some none)
    (z2 : PySem.W.nsIn K mainGlobals "any" = some none)
    (z3 : PySem.W.nsIn K mainGlobals "bool" = some none)
    (z4 : PySem.W.nsIn K mainGlobals "dict" = some none)
    (z5 : PySem.W.nsIn K mainGlobals "divmod" = some none)
    (z6 : PySem.W.nsIn K mainGlobals "enumerate" = some none)
    (z7 : PySem.W.nsIn K mainGlobals "int" = some none)
    (z8 : PySem.W.nsIn K mainGlobals "isinstance" = some none)
    (z9 : PySem.W.nsIn K mainGlobals "len" = some none)
    (z10 : PySem.W.nsIn K mainGlobals "list" = some none)
    (z11 : PySem.W.nsIn K mainGlobals "max" = some none)
    (z12 : PySem.W.nsIn K mainGlobals "min" = some none)
    (z13 : PySem.W.nsIn K mainGlobals "range" = some none)
    (z14 : PySem.W.nsIn K mainGlobals "set" = some none)
    (z15 : PySem.W.nsIn K mainGlobals "sorted" = some none)
    (z16 : PySem.W.nsIn K mainGlobals "str" = some none)
    (z17 : PySem.W.nsIn K mainGlobals "tuple" = some none)
    (z18 : PySem.W.nsIn K mainGlobals "zip" = some none)
    : ∃ fd : FuncData, (∀ (s : Shared) (v : Value), BindsTo s fd ⟨[v], []⟩ [("_law_script", v)]) ∧ ∀ base : Heap, K.In base → base.Ns mainGlobals mg → FnG l.prog w K mg base 106 fa fd ["_law_script"] D_law := by
  have e := hfa.symm.trans (PySem.W.mg_of X G a44)
  cases e
  have F0 := fun_mk (st := s__law_folded) l0 c0 k0
  have F1 := fun_mk (st := s__law_box) l1 c1 k1
  have F2 := fun_mk (st := s__law_take) l2 c2 k2
  have F3 := fun_mk (st := s__law_names) l3 c3 k3
  have F4 := fun_mk (st := s_Book_init) l4 c4 k4
  have F5 := fun_mk (st := s_next_turnword) l5 c5 k5
  have F6 := fun_mk (st := s_turnwords) l6 c6 k6
  have F7 := fun_mk (st := s_Ground_init) l7 c7 k7
  have F8 := fun_mk (st := s_Book_look_there) l8 c8 k8
  have F9 := fun_mk (st := s_Book_drop) l9 c9 k9
  have F10 := fun_mk (st := s__law_formula) l10 c10 k10
  have F11 := fun_mk (st := s__law_parts) l11 c11 k11
  have F12 := fun_mk (st := s__law_own) l12 c12 k12
  have F13 := fun_mk (st := s__law_ring) l13 c13 k13
  have F14 := fun_mk (st := s__law_same) l14 c14 k14
  have F15 := fun_mk (st := s_is_name) l15 c15 k15
  have F16 := fun_mk (st := s_Reading_init) l16 c16 k16
  have F17 := fun_mk (st := s_Reading_sign) l17 c17 k17
  have F18 := fun_mk (st := s_Reading_stop) l18 c18 k18
  have F19 := fun_mk (st := s_Reading_take) l19 c19 k19
  have F20 := fun_mk (st := s_Reading_expr) l20 c20 k20
  have F21 := fun_mk (st := s_is_among) l21 c21 k21
  have F22 := fun_mk (st := s_Reading_number) l22 c22 k22
  have F23 := fun_mk (st := s_Reading_item) l23 c23 k23
  have F24 := fun_mk (st := s_Reading_enter) l24 c24 k24
  have F25 := fun_mk (st := s_Reading_leave) l25 c25 k25
  have F26 := fun_mk (st := s_Reading_letters) l26 c26 k26
  have F27 := fun_mk (st := s_Reading_atom) l27 c27 k27
  have F28 := fun_mk (st := s_read_tree) l28 c28 k28
  have F29 := fun_mk (st := s_leaves_of) l29 c29 k29
  have F30 := fun_mk (st := s_Ground_letters) l30 c30 k30
  have F31 := fun_mk (st := s_look_letters) l31 c31 k31
  have F32 := fun_mk (st := s_names_in) l32 c32 k32
  have F33 := fun_mk (st := s_Book_own_needs) l33 c33 k33
  have F34 := fun_mk (st := s_Book_ring_by) l34 c34 k34
  have F35 := fun_mk (st := s_Book_let) l35 c35 k35
  have F36 := fun_mk (st := s__law_let) l36 c36 k36
  have F37 := fun_mk (st := s__law_text) l37 c37 k37
  have F38 := fun_mk (st := s__law_item_text) l38 c38 k38
  have F39 := fun_mk (st := s_atom_text) l39 c39 k39
  have F40 := fun_mk (st := s_item_text) l40 c40 k40
  have F41 := fun_mk (st := s_tree_text) l41 c41 k41
  have F42 := fun_mk (st := s_Book_text_of) l42 c42 k42
  have F43 := fun_mk (st := s_Book_names) l43 c43 k43
  have F44 := fun_mk (st := s_law) l44 c44 k44
  have b0 := F0.binds (ps := p__law_folded) fun _ _ _ _ _ _ us hl => match us, hl with | [_, _], _ => rfl
  have b1 := F1.binds (ps := p__law_box) fun _ _ _ _ _ _ us hl => match us, hl with | [_, _], _ => rfl
  have b2 := F2.binds (ps := p__law_take) fun _ _ _ _ _ _ us hl => match us, hl with | [_, _], _ => rfl
  have b3 := F3.binds (ps := p__law_names) fun _ _ _ _ _ _ us hl => match us, hl with | [_, _], _ => rfl
  have b4 := F4.binds (ps := p_Book_init) fun _ _ _ _ _ _ us hl => match us, hl with | [_, _], _ => rfl
  have b5 := F5.binds (ps := p_next_turnword) fun _ _ _ _ _ _ us hl => match us, hl with | [_, _, _], _ => rfl
  have b6 := F6.binds (ps := p_turnwords) fun _ _ _ _ _ _ us hl => match us, hl with | [_, _], _ => rfl
  have b7 := F7.binds (ps := p_Ground_init) fun _ _ _ _ _ _ us hl => match us, hl with | [_, _, _], _ => rfl
  have b8 := F8.binds (ps := p_Book_look_there) fun _ _ _ _ _ _ us hl => match us, hl with | [_, _], _ => rfl
  have b9 := F9.binds (ps := p_Book_drop) fun _ _ _ _ _ _ us hl => match us, hl with | [_, _], _ => rfl
  have b10 := F10.binds (ps := p__law_formula) fun _ _ _ _ _ _ us hl => match us, hl with | [_, _, _], _ => rfl
  have b11 := F11.binds (ps := p__law_parts) fun _ _ _ _ _ _ us hl => match us, hl with | [_], _ => rfl
  have b12 := F12.binds (ps := p__law_own) fun _ _ _ _ _ _ us hl => match us, hl with | [_, _], _ => rfl
  have b13 := F13.binds (ps := p__law_ring) fun _ _ _ _ _ _ us hl => match us, hl with | [_, _, _], _ => rfl
  have b14 := F14.binds (ps := p__law_same) fun _ _ _ _ _ _ us hl => match us, hl with | [_, _], _ => rfl
  have b15 := F15.binds (ps := p_is_name) fun _ _ _ _ _ _ us hl => match us, hl with | [_], _ => rfl
  have b16 := F16.binds (ps := p_Reading_init) fun _ _ _ _ _ _ us hl => match us, hl with | [_, _], _ => rfl
  have b17 := F17.binds (ps := p_Reading_sign) fun _ _ _ _ _ _ us hl => match us, hl with | [_], _ => rfl
  have b18 := F18.binds (ps := p_Reading_stop) fun _ _ _ _ _ _ us hl => match us, hl with | [_], _ => rfl
  have b19 := F19.binds (ps := p_Reading_take) fun _ _ _ _ _ _ us hl => match us, hl with | [_, _], _ => rfl
  have b20 := F20.binds (ps := p_Reading_expr) fun _ _ _ _ _ _ us hl => match us, hl with | [_], _ => rfl
  have b21 := F21.binds (ps := p_is_among) fun _ _ _ _ _ _ us hl => match us, hl with | [_, _], _ => rfl
  have b22 := F22.binds (ps := p_Reading_number) fun _ _ _ _ _ _ us hl => match us, hl with | [_], _ => rfl
  have b23 := F23.binds (ps := p_Reading_item) fun _ _ _ _ _ _ us hl => match us, hl with | [_], _ => rfl
  have b24 := F24.binds (ps := p_Reading_enter) fun _ _ _ _ _ _ us hl => match us, hl with | [_, _], _ => rfl
  have b25 := F25.binds (ps := p_Reading_leave) fun _ _ _ _ _ _ us hl => match us, hl with | [_, _], _ => rfl
  have b26 := F26.binds (ps := p_Reading_letters) fun _ _ _ _ _ _ us hl => match us, hl with | [_], _ => rfl
  have b27 := F27.binds (ps := p_Reading_atom) fun _ _ _ _ _ _ us hl => match us, hl with | [_], _ => rfl
  have b28 := F28.binds (ps := p_read_tree) fun _ _ _ _ _ _ us hl => match us, hl with | [_], _ => rfl
  have b29 := F29.binds (ps := p_leaves_of) fun _ _ _ _ _ _ us hl => match us, hl with | [_], _ => rfl
  have b30 := F30.binds (ps := p_Ground_letters) fun _ _ _ _ _ _ us hl => match us, hl with | [_], _ => rfl
  have b31 := F31.binds (ps := p_look_letters) fun _ _ _ _ _ _ us hl => match us, hl with | [_, _], _ => rfl
  have b32 := F32.binds (ps := p_names_in) fun _ _ _ _ _ _ us hl => match us, hl with | [_], _ => rfl
  have b33 := F33.binds (ps := p_Book_own_needs) fun _ _ _ _ _ _ us hl => match us, hl with | [_, _], _ => rfl
  have b34 := F34.binds (ps := p_Book_ring_by) fun _ _ _ _ _ _ us hl => match us, hl with | [_, _, _], _ => rfl
  have b35 := F35.binds (ps := p_Book_let) fun _ _ _ _ _ _ us hl => match us, hl with | [_, _, _], _ => rfl
  have b36 := F36.binds (ps := p__law_let) fun _ _ _ _ _ _ us hl => match us, hl with | [_, _, _], _ => rfl
  have b37 := F37.binds (ps := p__law_text) fun _ _ _ _ _ _ us hl => match us, hl with | [_], _ => rfl
  have b38 := F38.binds (ps := p__law_item_text) fun _ _ _ _ _ _ us hl => match us, hl with | [_], _ => rfl
  have b39 := F39.binds (ps := p_atom_text) fun _ _ _ _ _ _ us hl => match us, hl with | [_], _ => rfl
  have b40 := F40.binds (ps := p_item_text) fun _ _ _ _ _ _ us hl => match us, hl with | [_], _ => rfl
  have b41 := F41.binds (ps := p_tree_text) fun _ _ _ _ _ _ us hl => match us, hl with | [_], _ => rfl
  have b42 := F42.binds (ps := p_Book_text_of) fun _ _ _ _ _ _ us hl => match us, hl with | [_, _], _ => rfl
  have b43 := F43.binds (ps := p_Book_names) fun _ _ _ _ _ _ us hl => match us, hl with | [_], _ => rfl
  have b44 := F44.binds (ps := p_law) fun _ _ _ _ _ _ us hl => match us, hl with | [_], _ => rfl
  have Fx0 := fun_mk (st := si_NoName) wh0 wi0 wj0
  have bx0 := Fx0.binds (ps := pi_NoName) fun _ _ _ _ _ _ us hl => match us, hl with | [_, _, _], _ => rfl
  have Fx1 := fun_mk (st := si_BadText) wh1 wi1 wj1
  have bx1 := Fx1.binds (ps := pi_BadText) fun _ _ _ _ _ _ us hl => match us, hl with | [_, _, _], _ => rfl
  have Fx2 := fun_mk (st := si_NoLetter) wh2 wi2 wj2
  have bx2 := Fx2.binds (ps := pi_NoLetter) fun _ _ _ _ _ _ us hl => match us, hl with | [_, _, _], _ => rfl
  have Fx3 := fun_mk (st := si_Ring) wh3 wi3 wj3
  have bx3 := Fx3.binds (ps := pi_Ring) fun _ _ _ _ _ _ us hl => match us, hl with | [_, _, _], _ => rfl
  let T : Facts K mg := ⟨C0, ca0, ⟨cp0, ch0, co0, cs0⟩, PySem.W.mg_of X G ca0, cn0x0, cn0x1, C1, ca1, ⟨cp1, ch1, co1, cs1⟩, PySem.W.mg_of X G ca1, cn1x0, cn1x1, cn1x2, cn1x3, cn1x4, C2, ca2, ⟨cp2, ch2, co2, cs2⟩, PySem.W.mg_of X G ca2, cn2x0, cn2x1, cn2x2, f0, _, F0, b0, PySem.W.mg_of X G a0, f1, _, F1, b1, PySem.W.mg_of X G a1, f2, _, F2, b2, PySem.W.mg_of X G a2, f3, _, F3, b3, PySem.W.mg_of X G a3, f4, _, F4, b4, ⟨cm0, a4, i4, ck0⟩, f5, _, F5, b5, PySem.W.mg_of X G a5, f6, _, F6, b6, PySem.W.mg_of X G a6, f7, _, F7, b7, ⟨cm1, a7, i7, ck1⟩, f8, _, F8, b8, ⟨a8, i8, k8⟩, f9, _, F9, b9, ⟨a9, i9, k9⟩, f10, _, F10, b10, PySem.W.mg_of X G a10, f11, _, F11, b11, PySem.W.mg_of X G a11, f12, _, F12, b12, PySem.W.mg_of X G a12, f13, _, F13, b13, PySem.W.mg_of X G a13, f14, _, F14, b14, PySem.W.mg_of X G a14, f15, _, F15, b15, PySem.W.mg_of X G a15, f16, _, F16, b16, ⟨cm2, a16, i16, ck2⟩, f17, _, F17, b17, ⟨a17, i17, k17⟩, f18, _, F18, b18, ⟨a18, i18, k18⟩, f19, _, F19, b19, ⟨a19, i19, k19⟩, f20, _, F20, b20, ⟨a20, i20, k20⟩, f21, _, F21, b21, PySem.W.mg_of X G a21, f22, _, F22, b22, ⟨a22, i22, k22⟩, f23, _, F23, b23, ⟨a23, i23, k23⟩, f24, _, F24, b24, ⟨a24, i24, k24⟩, f25, _, F25, b25, ⟨a25, i25, k25⟩, f26, _, F26, b26, ⟨a26, i26, k26⟩, f27, _, F27, b27, ⟨a27, i27, k27⟩, f28, _, F28, b28, PySem.W.mg_of X G a28, f29, _, F29, b29, PySem.W.mg_of X G a29, f30, _, F30, b30, ⟨a30, i30, k30⟩, f31, _, F31, b31, PySem.W.mg_of X G a31, f32, _, F32, b32, PySem.W.mg_of X G a32, f33, _, F33, b33, ⟨a33, i33, k33⟩, f34, _, F34, b34, ⟨a34, i34, k34⟩, f35, _, F35, b35, ⟨a35, i35, k35⟩, f36, _, F36, b36, PySem.W.mg_of X G a36, f37, _, F37, b37, PySem.W.mg_of X G a37, f38, _, F38, b38, PySem.W.mg_of X G a38, f39, _, F39, b39, PySem.W.mg_of X G a39, f40, _, F40, b40, PySem.W.mg_of X G a40, f41, _, F41, b41, PySem.W.mg_of X G a41, f42, _, F42, b42, ⟨a42, i42, k42⟩, f43, _, F43, b43, ⟨a43, i43, k43⟩, fa, _, F44, b44, PySem.W.mg_of X G a44, E_NoName, xa0, PySem.W.mg_of X G xa0, E_BracketError, xa1, PySem.W.mg_of X G xa1, E_BadName, xa2, PySem.W.mg_of X G xa2, E_BadText, xa3, PySem.W.mg_of X G xa3, E_NoLetter, xa4, PySem.W.mg_of X G xa4, E_Ring, xa5, PySem.W.mg_of X G xa5, E_TooGreat, xa6, PySem.W.mg_of X G xa6, E_BadRow, xa7, PySem.W.mg_of X G xa7, E_NoGround, xa8, PySem.W.mg_of X G xa8, E_NoPlace, xa9, PySem.W.mg_of X G xa9, E_NoPut, xa10, PySem.W.mg_of X G xa10, E_NoRules, xa11, PySem.W.mg_of X G xa11, E_TooLong, xa12, PySem.W.mg_of X G xa12, ⟨xr0, xk0, xs0, xt0⟩, ⟨cls_of_mro ih0, ib0, ic0, id0, ie0, if0, ig0, ih0⟩, ⟨cls_of_mro ih1, ib1, ic1, id1, ie1, if1, ig1, ih1⟩, ⟨cls_of_mro ih2, ib2, ic2, id2, ie2, if2, ig2, ih2⟩, ⟨cls_of_mro ih3, ib3, ic3, id3, ie3, if3, ig3, ih3⟩, ⟨cls_of_mro ih4, ib4, ic4, id4, ie4, if4, ig4, ih4⟩, ⟨cls_of_mro ih5, ib5, ic5, id5, ie5, if5, ig5, ih5⟩, xm0, xm1, xm2, xm3, xm4, xm5, xi0, xi1, xi2, xi3, xi4, xi5, xi6, xi7, xi8, xi9, xi10, xi11, xi12, xi13, xi14, xi15, xi16, xi17, fx0, _, Fx0, bx0, ⟨⟨⟨xnm0, xq0, xN0, xbs0, _, xsn0, xsub0, xab0, xcol0, xdd0, xm00, xm10, xm20, xm30, xm50, wa0, by rfl⟩, wb0, wc0, wd0, we0⟩, wf0, wg0, wk0⟩, fx1, _, Fx1, bx1, ⟨⟨⟨xnm1, xq1, xN1, xbs1, _, xsn1, xsub1, xab1, xcol1, xdd1, xm01, xm11, xm21, xm31, xm51, wa1, by rfl⟩, wb1, wc1, wd1, we1⟩, wf1, wg1, wk1⟩, fx2, _, Fx2, bx2, ⟨⟨⟨xnm2, xq2, xN2, xbs2, _, xsn2, xsub2, xab2, xcol2, xdd2, xm02, xm12, xm22, xm32, xm52, wa2, by rfl⟩, wb2, wc2, wd2, we2⟩, wf2, wg2, wk2⟩, fx3, _, Fx3, bx3, ⟨⟨⟨xnm3, xq3, xN3, xbs3, _, xsn3, xsub3, xab3, xcol3, xdd3, xm03, xm13, xm23, xm33, xm53, wa3, by rfl⟩, wb3, wc3, wd3, we3⟩, wf3, wg3, wk3⟩, ⟨cra, crb⟩, crc, ⟨va0, vb0, vc0, vd0, ve0⟩, PySem.W.mg_of X G y0, t0, PySem.W.mg_of X G v0, t1, PySem.W.mg_of X G v1, t2, PySem.W.mg_of X G v2, t3, PySem.W.mg_of X G v3, t4, PySem.W.mg_of X G v4, t5, PySem.W.mg_of X G v5, t6, PySem.W.mg_of X G v6, t7, PySem.W.mg_of X G v7, t8, PySem.W.mg_of X G v8, PySem.W.mg_none_of X G z0, PySem.W.mg_none_of X G z1, PySem.W.mg_none_of X G z2, PySem.W.mg_none_of X G z3, PySem.W.mg_none_of X G z4, PySem.W.mg_none_of X G z5, PySem.W.mg_none_of X G z6, PySem.W.mg_none_of X G z7, PySem.W.mg_none_of X G z8, PySem.W.mg_none_of X G z9, PySem.W.mg_none_of X G z10, PySem.W.mg_none_of X G z11, PySem.W.mg_none_of X G z12, PySem.W.mg_none_of X G z13, PySem.W.mg_none_of X G z14, PySem.W.mg_none_of X G z15, PySem.W.mg_none_of X G z16, PySem.W.mg_none_of X G z17, PySem.W.mg_none_of X G z18⟩
  exact ⟨_, fun s v => .of_eq rfl, fun base _ _ => ok_law T⟩
end Law

namespace Law
open PySem PySem.Spec PyProof.Rows L2 DL
local macro_rules | `(tactic| walk_at "w") => `(tactic| conv => whnf)
local macro_rules | `(tactic| walk_at "s") => `(tactic| (refine ⟨?_⟩; conv => whnf))
local macro_rules | `(tactic| walk_at "z") => `(tactic| (refine small ?_; simp only [List.length_map, List.length_append, List.length_reverse, List.length_cons, List.length_nil]; omega))
local macro_rules | `(tactic| walk_at "q") => `(tactic| (refine ⟨(okN_tints _).ok, (okN_tints _).ok, ?_⟩; rw [eqD_tints]))
theorem c_box (cells : List Int) (k : Int) (l : LH) (Q : DK) (hk : 0 ≤ k) (hk2 : k < 1000)
    (h : ∀ a l', l a = none → Box l' a 0 → Oth l l' a → Q (.ref a) l') : callD D__law_box_m [.lst (cells.map D.int), .int k] l Q := by
  have key : ∀ c0 c1 : Int, 0 ≤ c0 → 0 ≤ c1 → c1 < 2147483647 → newL (.lst [.int c0, .int c1, .int 0]) l Q := fun c0 c1 h0 h1 h2 a ha => h a _ ha (Box.new h0 h1 h2) Oth.upd
  refine ⟨rfl, ?_⟩
  walk_at "w"
  have rest : ∀ c : Int, T__law_box_m_2 ⟨fun _ l => Q .non l, Q, fun _ _ => False, fun _ _ => False⟩ [some (.lst (cells.map D.int)), some (.int k), some (.int c)] l := by
    intro c
    walk_at "w"
    refine ⟨⟨by decide, by decide, by decide⟩, ?_⟩
    walk_at "w"
    refine ⟨mulR (Int.lt_of_lt_of_le (by decide) (b01 _).1) (Int.lt_of_le_of_lt (b01 _).2 (by decide)), ?_⟩
    walk_at "w"
    refine ⟨by decide, ?_⟩
    walk_at "w"
    refine ⟨mulL (by decide) (by decide), ?_⟩
    walk_at "w"
    refine ⟨mulR (by decide) (by decide), ?_⟩
    walk_at "w"
    refine ⟨by decide, ?_⟩
    walk_at "w"
    refine ⟨by show 3 ≤ sizeLine; decide, ?_⟩
    refine key _ _ ?_ (Int.emod_nonneg _ (by decide)) (Int.emod_lt_of_pos _ (by decide))
    refine Int.mul_nonneg ?_ ?_
    · split <;> omega
    · exact (b01 _).1
  refine ifB_dec (fun hlt => ?_) (fun _ => ?_)
  · obtain ⟨c, hc, _⟩ := atI_ints hk (by simpa using hlt)
    exact ⟨_, hc, ⟨rest c⟩⟩
  · exact ⟨rest 0⟩
theorem c_take {a : Addr} {n : Int} {k : Nat} {l : LH} {Q : DK} (hb : Box l a k) (hn : 0 < n) (hn2 : n < 2 ^ 200) (hk : k < 2 ^ 40)
    (h : ∀ r l', 0 ≤ r → r < n → Box l' a (k + 1) → Oth l l' a → Q (.int r) l') : callD D__law_take [.ref a, .int n] l Q := by
  obtain ⟨o, ho, c0, c1, c2, rfl, h0, h1, h1', h2, h2'⟩ := hb
  refine ⟨rfl, ?_⟩
  walk_at "w"
  refine ⟨_, ho, .int c0, rfl, ?_⟩
  walk_at "w"
  refine ifB_dec (fun hlt => ?_) (fun hlt => ?_)
  · walk_at "w"
    refine ⟨_, ho, .int c0, rfl, ?_⟩
    walk_at "w"
    refine ⟨⟨hn, PyProof.noPylong_of_log2 (by
      have : n.natAbs < 2 ^ 200 := by omega
      have := (Nat.log2_lt (by omega)).mpr this
      omega)⟩, ?_⟩
    walk_at "w"
    refine ⟨rfl, ?_⟩
    walk_at "w"
    refine ⟨_, ho, 0, rfl, ?_⟩
    walk_at "w"
    refine h _ _ (Int.emod_nonneg _ (by omega)) (Int.emod_lt_of_pos _ hn) ⟨_, uL_same, c0 / n, c1, c2, rfl, Int.ediv_nonneg h0 (by omega), h1, h1', h2, by omega⟩ Oth.upd
  · walk_at "s"
    refine ⟨_, ho, .int c2, rfl, ?_⟩
    walk_at "w"
    refine ⟨_, ho, 2, rfl, ?_⟩
    generalize hl : uL l a _ = l1
    have ho1 : l1 a = some (.lst [.int c0, .int c1, .int (c2 + 1)]) := by rw [← hl]; exact uL_same
    walk_at "s"
    refine ⟨_, ho1, .int (c2 + 1), rfl, ?_⟩
    walk_at "w"
    refine ⟨_, ho1, .int (c2 + 1), rfl, ?_⟩
    walk_at "w"
    refine ⟨mulL (by omega) (by omega), ?_⟩
    generalize hs : (c2 + 1) * (c2 + 1) = step
    walk_at "w"
    walk_at "s"
    refine ⟨_, ho1, .int c1, rfl, ?_⟩
    walk_at "w"
    refine ⟨_, ho1, .int (c2 + 1), rfl, ?_⟩
    walk_at "w"
    refine ⟨mulL (by decide) (by decide), ?_⟩
    walk_at "w"
    refine ⟨mulL (by omega) (by omega), ?_⟩
    walk_at "w"
    refine ⟨by decide, ?_⟩
    generalize he : (c1 + 39373 * (c2 + 1)) * (69621 + step) % 2147483587 = once
    have e1 : 0 ≤ once := by rw [← he]; exact Int.emod_nonneg _ (by decide)
    have e2 : once < 2147483587 := by rw [← he]; exact Int.emod_lt_of_pos _ (by decide)
    walk_at "w"
    walk_at "s"
    refine ⟨by decide, ?_⟩
    walk_at "w"
    refine ⟨mulL (by omega) (by omega), ?_⟩
    walk_at "w"
    refine ⟨_, ho1, .int (c2 + 1), rfl, ?_⟩
    walk_at "w"
    refine ⟨by decide, ?_⟩
    generalize hf : (once * (once % 30011 + 5) + (c2 + 1)) % 2147483563 = twice
    have f1 : 0 ≤ twice := by rw [← hf]; exact Int.emod_nonneg _ (by decide)
    have f2 : twice < 2147483563 := by rw [← hf]; exact Int.emod_lt_of_pos _ (by decide)
    walk_at "w"
    walk_at "s"
    refine ⟨by decide, ?_⟩
    walk_at "w"
    refine ⟨mulL (by omega) (by omega), ?_⟩
    walk_at "w"
    refine ⟨by decide, ?_⟩
    walk_at "w"
    refine ⟨⟨by decide, by decide⟩, ?_⟩
    walk_at "w"
    refine ⟨hn, ?_⟩
    refine h _ l1 (Int.emod_nonneg _ (by omega)) (Int.emod_lt_of_pos _ hn) ⟨_, ho1, c0, c1, c2 + 1, rfl, h0, h1, h1', by omega, by omega⟩ (by rw [← hl]; exact Oth.upd)
/-- the cells -/
theorem folded_loop (ns : List Int) (n : Int) (hn : 0 < n) (hn2 : n < 1000) (a : Addr) (l0 : LH) (E : DEnds)
    (hE : ∀ (cs : List Int) e3 e4, cs.length = n.toNat → E.nx [some (.scr ns), some (.int n), some (.ref a), e3, e4] (uL l0 a (.lst (cs.map D.int)))) :
    ∀ (xs : List Int) (i : Nat) (cs : List Int) e3 e4, i + xs.length < 1000 → cs.length = n.toNat →
      forL (gTup 2 (gCons (gName 3) (gCons (gName 4) gNil))) (nS B__law_folded_1) (enumD i (xs.map D.int)) E [some (.scr ns), some (.int n), some (.ref a), e3, e4] (uL l0 a (.lst (cs.map D.int)))
  | [], _, cs, e3, e4, _, hc => hE cs e3 e4 hc
  | x :: xs, i, cs, e3, e4, hi, hc => by
    have h0 : 0 ≤ (i : Int) % n := Int.emod_nonneg _ (by omega)
    have h1 : (i : Int) % n < cs.length := by
      have := Int.emod_lt_of_pos (i : Int) hn
      omega
    obtain ⟨c, hc1, _⟩ := atI_ints h0 h1
    refine ⟨rfl, ?_⟩
    walk_at "w"
    walk_at "s"
    refine ⟨hn, ?_⟩
    walk_at "w"
    refine ⟨_, uL_same, _, hc1, ?_⟩
    walk_at "w"
    rw [List.length_cons] at hi
    refine ⟨mulR (by omega) (by omega), ?_⟩
    walk_at "w"
    refine ⟨hn, ?_⟩
    walk_at "w"
    refine ⟨_, uL_same, ((i : Int) % n).toNat, ?_, ?_⟩
    · unfold ixN
      rw [List.length_map, if_pos h0, if_pos h1]
    · rw [uL_uL, ← List.map_set]
      exact folded_loop ns n hn hn2 a l0 E hE xs (i + 1) _ _ _ (by omega) (by rw [List.length_set]; exact hc)
theorem c_folded (ns : List Int) (n : Int) (hn : 0 < n) (hn2 : n < 60) (hl : ns.length ≤ 63) (l : LH) (Q : DK) (h : ∀ cs : List Int, cs.length ≤ 63 → Q (.lst (cs.map D.int)) l) : callD D__law_folded [.scr ns, .int n] l Q := by
  refine ⟨rfl, ?_⟩
  walk_at "w"
  intro a ha
  have fin : ∀ (cs : List Int) e3 e4, cs.length ≤ 63 → T__law_folded_3 ⟨fun _ l => Q .non l, Q, fun _ _ => False, fun _ _ => False⟩ [some (.scr ns), some (.int n), some (.ref a), e3, e4] (uL l a (.lst (cs.map D.int))) := by
    intro cs e3 e4 hc
    refine ⟨_, uL_same, ?_⟩
    have e : dL (uL l a (.lst (cs.map D.int))) a = l := by
      funext b
      unfold dL
      by_cases hb : b = a
      · rw [if_pos hb, hb, ha]
      · rw [if_neg hb, uL_ne hb]
    rw [e]
    exact h cs hc
  rw [cutD_head ns n (by omega)]
  walk_at "w"
  refine ⟨?_⟩
  show forL _ _ (enumD 0 (cutD (ns.map D.int) (some n) (some 63))) _ _ _
  by_cases hs : ns.length ≤ n.toNat
  · have e : cutD (ns.map D.int) (some n) (some 63) = [] := by
      obtain ⟨j, rfl⟩ := Int.eq_ofNat_of_zero_le (show 0 ≤ n by omega)
      have hj : ns.length ≤ j := by simpa using hs
      unfold DL.cutD
      rw [show (some (63 : Int)) = some ((63 : Nat) : Int) from rfl, HT.sIx_nat, HT.sIx_nat, List.length_map, List.drop_of_length_le (by rw [List.length_map]; omega), List.take_nil]
    rw [e]
    exact ⟨fin _ _ _ (by rw [List.length_take]; omega)⟩
  · have e : ∃ xs : List Int, xs.length ≤ 63 ∧ cutD (ns.map D.int) (some n) (some 63) = xs.map D.int := by
      unfold DL.cutD
      rw [List.length_map, ← List.map_drop, ← List.map_take]
      exact ⟨_, by rw [List.length_take, List.length_drop]; omega, rfl⟩
    obtain ⟨xs, hx, e⟩ := e
    rw [e]
    refine folded_loop ns n hn (by omega) a l ⟨nS T__law_folded_3 ⟨fun _ l => Q .non l, Q, fun _ _ => False, fun _ _ => False⟩, Q, fun _ _ => False, fun _ _ => False⟩ (fun cs e3 e4 hc => ⟨fin cs e3 e4 (by omega)⟩) xs 0 _ _ _ (by omega) ?_
    rw [List.length_take]
    omega
/-! turns of plain words -/
def tnL (ws : List Int) : List (List Int) := (List.range ws.length).map fun k => ws.drop k ++ ws.take k
theorem rgD_len (lo : Int) (n : Nat) : (rgD lo n).length = n := by unfold rgD; rw [List.length_map, List.length_range]
def PlainOf (ws : List Int) (n : Int) : Prop := ∀ w ∈ ws, 1 ≤ w ∧ w ≤ n
theorem PlainOf.take {ws : List Int} {n : Int} (h : PlainOf ws n) (k : Nat) : PlainOf (ws.take k) n := fun w hw => h w (List.mem_of_mem_take hw)
theorem PlainOf.drop {ws : List Int} {n : Int} (h : PlainOf ws n) (k : Nat) : PlainOf (ws.drop k) n := fun w hw => h w (List.mem_of_mem_drop hw)
theorem PlainOf.le {ws : List Int} {n m : Int} (h : PlainOf ws n) (hm : n ≤ m) : PlainOf ws m := fun w hw => ⟨(h w hw).1, Int.le_trans (h w hw).2 hm⟩
def isTwL (ws : List Int) : Bool := decide (0 < ws.length) && ((tnL ws).drop 1).all fun t => HT.lexLt ws t
def pw (q : List Int) (n : Nat) : List Int := (List.replicate n q).flatten
theorem rep_map' (m : Nat) (ws : List Int) : (List.replicate m (ws.map D.int)).flatten = (pw ws m).map D.int := by unfold pw; rw [List.map_flatten, List.map_replicate]
theorem rgD_succ (lo : Int) (n : Nat) : rgD lo (n + 1) = .int lo :: rgD (lo + 1) n := by
  unfold rgD
  rw [List.range_succ_eq_map, List.map_cons, List.map_map]
  congr 1
  · simp
  · refine List.map_congr_left fun k _ => ?_
    show D.int (lo + ((k + 1 : Nat) : Int)) = D.int (lo + 1 + (k : Nat))
    congr 1
    omega
/-! the turnwords, one behind the other -/
def dropMaxR (letters : Int) : List Int → List Int
  | [] => []
  | x :: r => if x = letters then dropMaxR letters r else x :: r
def nextL (letters : Int) (size : Nat) (w : List Int) : List Int := match dropMaxR letters ((pw w size).take size).reverse with
  | [] => []
  | x :: r => r.reverse ++ [x + 1]
theorem dropMaxR_len (letters : Int) : ∀ r : List Int, (dropMaxR letters r).length ≤ r.length
  | [] => Nat.le_refl _
  | x :: r => by
    have := dropMaxR_len letters r
    unfold dropMaxR
    split <;> simp only [List.length_cons] <;> omega
theorem nextL_len (letters : Int) (size : Nat) (w : List Int) : (nextL letters size w).length ≤ size := by
  have h := dropMaxR_len letters ((pw w size).take size).reverse
  have h2 : ((pw w size).take size).reverse.length ≤ size := by rw [List.length_reverse, List.length_take]; omega
  unfold nextL
  split
  · exact Nat.zero_le _
  · rename_i x r e
    rw [e, List.length_cons] at h
    rw [List.length_append, List.length_reverse, List.length_singleton]
    omega
theorem cutD_init (xs : List D) (x : D) : DL.cutD (xs ++ [x]) none (some (-1)) = xs := by
  unfold DL.cutD
  have e : HT.sIx (xs ++ [x]).length (xs ++ [x]).length (some (-1)) = xs.length := by
    show (if (-1 : Int) < 0 then ((-1 : Int) + ((xs ++ [x]).length : Int)).toNat else min (-1 : Int).toNat (xs ++ [x]).length) = _
    rw [if_pos (by decide), List.length_append, List.length_singleton]
    omega
  rw [e, HT.sIx_none, List.drop_zero, Nat.sub_zero, List.take_left' rfl]
theorem c_next {letters : Int} {size : Nat} {w : List Int} (hw : w.length ≤ 100) (hs : size ≤ 100) {l : LH} {Q : DK} (h : Q (.tup ((nextL letters size w).map D.int)) l) : callD D_next_turnword [.tup (w.map D.int), .int letters, .int size] l Q := by
  refine ⟨rfl, ?_⟩
  walk_at "w"
  have hm : w.length * size ≤ 100 * 100 := Nat.mul_le_mul hw hs
  refine ⟨⟨by omega, by omega, ?_⟩, ?_⟩
  · rw [List.length_map, Int.toNat_natCast]
    exact small (by omega)
  rw [Int.toNat_natCast, rep_map']
  walk_at "w"
  rw [cutD_to, ← List.map_take]
  walk_at "s"
  have main : ∀ r : List Int, dropMaxR letters r = dropMaxR letters ((pw w size).take size).reverse → (∀ x r', r = x :: r' → x ≠ letters) → T_next_turnword_3 (E0 Q) [some (.tup (w.map D.int)), some (.int letters), some (.int size), some (.tup (r.reverse.map D.int))] l := by
    intro r hr hx
    walk_at "w"
    rw [List.length_map, List.length_reverse]
    refine ⟨(okN_int _).ok, (okN_int _).ok, ?_⟩
    rw [eqD_int]
    cases r with
    | nil =>
      refine ifB_true ?_
      walk_at "w"
      refine ⟨Nat.zero_le _, ?_⟩
      unfold nextL at h
      rw [← hr] at h
      exact h
    | cons x r =>
      refine ifB_by (fun e => absurd (of_decide_eq_true e) (by simp; omega)) (fun _ => ?_)
      walk_at "w"
      walk_at "s"
      have e1 : (x :: r).reverse.map D.int = r.reverse.map D.int ++ [.int x] := by rw [List.reverse_cons, List.map_append]; rfl
      rw [e1, cutD_init]
      refine ⟨_, atI_last _ _, ?_⟩
      walk_at "w"
      refine ⟨by show 1 ≤ sizeLine; decide, ?_⟩
      walk_at "w"
      refine ⟨?_, ?_⟩
      · have := dropMaxR_len letters ((pw w size).take size).reverse
        rw [← hr] at this
        have e2 : dropMaxR letters (x :: r) = x :: r := by unfold dropMaxR; rw [if_neg (hx x r rfl)]
        rw [e2, List.length_cons, List.length_reverse, List.length_take] at this
        refine small ?_
        rw [List.length_map, List.length_reverse, List.length_singleton]
        omega
      · have e2 : dropMaxR letters (x :: r) = x :: r := by unfold dropMaxR; rw [if_neg (hx x r rfl)]
        unfold nextL at h
        rw [← hr, e2] at h
        replace h : Q (.tup ((r.reverse ++ [x + 1]).map D.int)) l := h
        rw [List.map_append] at h
        exact h
  refine ⟨fun m env l' => l' = l ∧ ∃ r : List Int, env = [some (.tup (w.map D.int)), some (.int letters), some (.int size), some (.tup (r.reverse.map D.int))] ∧ m = r.length ∧ dropMaxR letters r = dropMaxR letters ((pw w size).take size).reverse, ⟨_, rfl, ((pw w size).take size).reverse, by rw [List.reverse_reverse]; rfl, rfl, rfl⟩, ?_⟩
  rintro m env l' ⟨rfl, r, rfl, rfl, hr⟩
  walk_at "w"
  rw [List.length_map, List.length_reverse]
  cases r with
  | nil =>
    refine ifB_false ?_
    walk_at "w"
    refine ifB_false ?_
    exact ⟨main [] hr fun x r' e => by cases e⟩
  | cons x r =>
    refine ifB_dec (fun _ => ?_) (fun hn => absurd hn (by simp))
    walk_at "w"
    have e1 : (x :: r).reverse.map D.int = r.reverse.map D.int ++ [.int x] := by rw [List.reverse_cons, List.map_append]; rfl
    refine ⟨_, by rw [e1]; exact atI_last _ _, ?_⟩
    refine ⟨(okN_int _).ok, (okN_int _).ok, ?_⟩
    rw [eqD_int]
    refine ifB_dec (fun e => ?_) (fun e => ?_)
    · refine ⟨?_⟩
      walk_at "w"
      rw [e1, cutD_init]
      refine ⟨r.length, Nat.lt_succ_self _, rfl, r, rfl, rfl, ?_⟩
      rw [← hr]
      conv => rhs; unfold dropMaxR
      rw [if_pos e]
    · exact ⟨main (x :: r) hr fun y r' q => by cases q; exact e⟩
/-- turnwords, by so many steps at most -/
def twR (letters : Int) (size : Nat) : Nat → List Int → List (List Int) → Option (List (List Int))
  | 0, _, _ => none
  | n + 1, w, acc => match w with
    | [] => some acc
    | x :: r => twR letters size n (nextL letters size (x :: r)) (if (x :: r).length = size then acc ++ [x :: r] else acc)
theorem tw_while {letters : Int} {size : Nat} (hs : size ≤ 100) {b : Addr} {E : DEnds} {l0 : LH} {ws : List (List Int)} {n : Nat} (hn : twR letters size n [1] [] = some ws) (hn2 : n ≤ 10000) (s1 : 1 ≤ size)
    (hE : E.nx [some (.int letters), some (.int size), some (.ref b), some (.tup [])] (uL l0 b (.lst (ws.map wordD)))) :
    sWhile (dTV (dGt (dCall kLen (aCons (dVar 3) aNil)) (dC (.int 0)))) (nS B_turnwords_1) E [some (.int letters), some (.int size), some (.ref b), some (.tup [.int 1])] (uL l0 b (.lst [])) := by
  refine ⟨fun m env l => m ≤ n ∧ ∃ w acc, w.length ≤ 100 ∧ acc.length + m ≤ n ∧ env = [some (.int letters), some (.int size), some (.ref b), some (.tup (w.map D.int))] ∧ l = uL l0 b (.lst (acc.map wordD)) ∧ twR letters size m w acc = some ws, ⟨n, Nat.le_refl _, [1], [], by decide, by simp, rfl, rfl, hn⟩, ?_⟩
  rintro m env l ⟨hm, w, acc, hw, hacc, rfl, rfl, he⟩
  walk_at "w"
  cases m with
  | zero => cases he
  | succ m =>
    cases w with
    | nil =>
      refine ifB_false ?_
      rw [twR] at he
      cases he
      exact hE
    | cons x r =>
      refine ifB_dec (fun _ => ?_) (fun hn => absurd hn (by simp))
      refine ⟨?_⟩
      walk_at "w"
      rw [List.length_map]
      refine ⟨(okN_int _).ok, (okN_int _).ok, ?_⟩
      rw [eqD_int]
      rw [twR] at he
      have nx := nextL_len letters size (x :: r)
      refine ifB_dec (fun e => ?_) (fun e => ?_)
      · walk_at "w"
        refine ⟨_, uL_same, _, uL_same, Nat.lt_of_le_of_lt (show _ ≤ 10000 by rw [List.length_map]; omega) (by decide), ?_⟩
        rw [uL_uL]
        walk_at "w"
        refine c_next hw hs ?_
        walk_at "w"
        rw [if_pos (by omega)] at he
        refine ⟨m, Nat.lt_succ_self _, by omega, _, acc ++ [x :: r], by omega, by rw [List.length_append, List.length_singleton]; omega, rfl, ?_, he⟩
        rw [List.map_append]
        rfl
      · walk_at "w"
        refine c_next hw hs ?_
        walk_at "w"
        rw [if_neg (by omega)] at he
        exact ⟨m, Nat.lt_succ_self _, by omega, _, acc, by omega, by omega, rfl, rfl, he⟩
/-! all words, all turnwords of a ground -/
theorem c_turnwords {letters : Int} {size : Nat} (hs : size ≤ 100) (s1 : 1 ≤ size) {ws : List (List Int)} {n : Nat} (hn : twR letters size n [1] [] = some ws) (hn2 : n ≤ 10000) {l : LH} {Q : DK} (h : Q (.lst (ws.map wordD)) l) : callD D_turnwords [.int letters, .int size] l Q := by
  refine ⟨rfl, ?_⟩
  walk_at "w"
  refine ⟨Nat.zero_le _, fun b nb => ?_⟩
  walk_at "w"
  walk_at "s"
  refine ⟨by show 1 ≤ sizeLine; decide, ⟨?_⟩⟩
  refine (show sWhile (dTV (dGt (dCall kLen (aCons (dVar 3) aNil)) (dC (.int 0)))) (nS B_turnwords_1) ⟨nS T_turnwords_4 (E0 Q), Q, fun _ _ => False, fun _ _ => False⟩ [some (.int letters), some (.int size), some (.ref b), some (.tup [.int 1])] (uL l b (.lst [])) from tw_while hs hn hn2 s1 ⟨?_⟩)
  walk_at "w"
  refine ⟨_, uL_same, ?_⟩
  rw [dL_uL' nb]
  exact h
/-- all words of so many letters -/
def expandL (letters : Nat) (ws : List (List Int)) : List (List Int) := (ws.map fun w => (List.range letters).map fun k => w ++ [((1 + k : Nat) : Int)]).flatten
def allL (letters : Nat) : Nat → List (List Int)
  | 0 => [[]]
  | n + 1 => expandL letters (allL letters n)
def dueL (letters size : Nat) : List (List Int) := (allL letters size).filter isTwL
theorem allL_len (a : Nat) : ∀ n, (allL a n).length = a ^ n
  | 0 => rfl
  | n + 1 => by
    rw [allL]
    unfold expandL
    rw [List.length_flatten, List.map_map]
    have e : ((fun x : List (List Int) => x.length) ∘ fun w => (List.range a).map fun k => w ++ [((1 + k : Nat) : Int)]) = fun _ => a := by
      funext w
      simp
    rw [show (List.length ∘ fun w => (List.range a).map fun k => w ++ [((1 + k : Nat) : Int)]) = fun _ => a from e, List.map_const', List.sum_replicate_nat, allL_len a n, Nat.pow_succ]
/-- by sizes from m on, so many -/
def wordsF (a : Nat) : Nat → Nat → List (List Int)
  | _, 0 => []
  | m, n + 1 => allL a m ++ wordsF a (m + 1) n
def wordsG (a d : Nat) : List (List Int) := wordsF a 0 (d + 1)
def turnsF (a : Nat) : Nat → Nat → List (List Int)
  | _, 0 => []
  | m, n + 1 => dueL a m ++ turnsF a (m + 1) n
def turnsG (a d : Nat) : List (List Int) := turnsF a 1 d
def gds : List (Nat × Nat) := [(1, 1), (1, 2), (1, 3), (1, 4), (1, 5), (2, 1), (2, 2), (2, 3), (2, 4), (2, 5), (3, 1), (3, 2), (3, 3), (3, 4), (4, 1), (4, 2), (4, 3)]
def OkG (a d : Nat) : Prop := (a, d) ∈ gds
theorem OkG.num {a d : Nat} (h : OkG a d) : 1 ≤ a ∧ a ≤ 4 ∧ 1 ≤ d ∧ d ≤ 5 ∧ a + d ≤ 7 :=
  (by decide : ∀ p ∈ gds, 1 ≤ p.1 ∧ p.1 ≤ 4 ∧ 1 ≤ p.2 ∧ p.2 ≤ 5 ∧ p.1 + p.2 ≤ 7) (a, d) h
theorem gds_all {p : Nat × Nat → Bool} (h : gds.all p = true) {a d : Nat} (g : OkG a d) : p (a, d) = true := List.all_eq_true.mp h _ g
theorem fineT_all : (gds.all fun p => (List.range p.2).all fun s => decide (twR (p.1 : Int) (s + 1) 3000 [1] [] = some (dueL p.1 (s + 1)))) = true := by decide +kernel
theorem twR_due {a d s : Nat} (g : OkG a d) (s1 : 1 ≤ s) (s2 : s ≤ d) : twR (a : Int) s 3000 [1] [] = some (dueL a s) := by
  have h := gds_all fineT_all g
  have h := of_decide_eq_true (List.all_eq_true.mp h (s - 1) (List.mem_range.mpr (by show s - 1 < d; omega)))
  rw [show s - 1 + 1 = s by omega] at h
  exact h
theorem turnsG_fine : (gds.all fun p => decide (turnsG p.1 p.2).Nodup && decide ((turnsG p.1 p.2).length ≤ 100) && decide ((wordsG p.1 p.2).length ≤ 200)) = true := by decide +kernel
theorem turnsG_nd {a d : Nat} (g : OkG a d) : (turnsG a d).Nodup := by
  have h := gds_all turnsG_fine g
  rw [Bool.and_eq_true, Bool.and_eq_true] at h
  exact of_decide_eq_true h.1.1
theorem turnsG_len {a d : Nat} (g : OkG a d) : (turnsG a d).length ≤ 100 := by
  have h := gds_all turnsG_fine g
  rw [Bool.and_eq_true, Bool.and_eq_true] at h
  exact of_decide_eq_true h.1.2
theorem dueL_len_le {a s : Nat} : (dueL a s).length ≤ a ^ s := by
  unfold dueL
  refine Nat.le_trans (List.length_filter_le _ _) ?_
  rw [allL_len]
  exact Nat.le_refl _
/-! a Ground -/
structure GndAt (l : LH) (g b c : Addr) (a d : Nat) (ck : List Key) (cd : List D) : Prop where
  g : l g = some (.ins cl_Ground [.int a, .int d, .lst ((turnsG a d).map wordD), .ref b, .ref c])
  b : l b = some (.dT ((turnsG a d).map wkey) ((List.range (turnsG a d).length).map fun (i : Nat) => D.int (i : Int)))
  c : l c = some (.dK ck cd)
theorem fzList0 : ∀ {ds : List D} {l : LH} {k : List D → LH → Prop}, k ds l → fzList (fzN 0) ds l k
  | [], _, _, h => h
  | d :: ds, l, k, h => fzList0 (ds := ds) (k := fun ds' l2 => k (d :: ds') l2) h
theorem init_loop1 {a d : Nat} (gd : OkG a d) {g b : Addr} {e5 e4 : Option D} {E : DEnds} (hgb : g ≠ b) : ∀ (n m : Nat) {l : LH} {acc : List (List Int)} {e3 : Option D}, m + n ≤ d + 1 → 1 ≤ m → l g = some (.ins cl_Ground [.int a, .int d, .ref b]) → l b = some (.lst (acc.map wordD)) → acc.length + n * 1024 ≤ 100000 →
    (∀ l' e3, l' = uL l b (.lst ((acc ++ turnsF a m n).map wordD)) → E.nx [some (.ref g), some (.int a), some (.int d), e3, e4, e5] l') →
    forL (gName 3) (nS B_Ground_init_1) (rgD (m : Int) n) E [some (.ref g), some (.int a), some (.int d), e3, e4, e5] l
  | 0, m, l, acc, e3, _, _, hg, hb, _, h => by
    refine h l e3 ?_
    funext x
    by_cases hx : x = b
    · subst hx; rw [uL_same, hb, turnsF, List.append_nil]
    · rw [uL_ne hx]
  | n + 1, m, l, acc, e3, hz, hm, hg, hb, hl, h => by
    rw [rgD_succ]
    refine ⟨?_⟩
    walk_at "w"
    refine ⟨_, hg, rfl, ?_⟩
    walk_at "w"
    refine ⟨_, hb, ?_⟩
    walk_at "w"
    refine c_turnwords (size := m) (by have := gd.num; omega) hm (twR_due gd hm (by omega)) (by decide) ?_
    have dl := dueL_len_le (a := a) (s := m)
    have dl2 : a ^ m ≤ 1024 := Nat.le_trans (Nat.pow_le_pow_left gd.num.2.1 m) (Nat.pow_le_pow_right (by decide) (show m ≤ 5 by have := gd.num; omega))
    walk_at "w"
    refine ⟨_, hb, by refine small ?_; rw [List.length_map, List.length_map]; omega, ?_⟩
    rw [← List.map_append]
    refine init_loop1 gd hgb n (m + 1) (acc := acc ++ dueL a m) (by omega) (by omega) (by rw [uL_ne hgb]; exact hg) uL_same (by rw [List.length_append]; omega) fun l' e3 e => ?_
    refine h l' e3 ?_
    rw [e, uL_uL, turnsF, List.append_assoc]
theorem putKs_new {ks : List (List Key)} {q : List Key} (h : q ∉ ks) : putKs ks q = ks ++ [q] := by unfold putKs; rw [if_neg h]
theorem putDs_new {ks : List (List Key)} {ds : List D} {q : List Key} {x : D} (h : q ∉ ks) : putDs ks ds q x = ds ++ [x] := by unfold putDs; rw [if_neg h]
theorem wkey_mem {w : List Int} {ws : List (List Int)} : wkey w ∈ ws.map wkey ↔ w ∈ ws := by
  rw [List.mem_map]
  constructor
  · rintro ⟨u, hu, e⟩
    rw [← wkey_inj.mp e]
    exact hu
  · exact fun h => ⟨w, h, rfl⟩
theorem init_loop2 {g p : Addr} {x y z : D} {e1 e2 e3 : Option D} {E : DEnds} (hgp : g ≠ p) : ∀ (ws : List (List Int)) {done : List (List Int)} {l : LH} {e4 e5 : Option D}, (done ++ ws).Nodup → (done ++ ws).length ≤ 1000 → l g = some (.ins cl_Ground [x, y, z, .ref p]) →
    l p = some (.dT (done.map wkey) ((List.range done.length).map fun (i : Nat) => D.int (i : Int))) →
    (∀ l' e4 e5, l' = uL l p (.dT ((done ++ ws).map wkey) ((List.range (done ++ ws).length).map fun (i : Nat) => D.int (i : Int))) → E.nx [some (.ref g), e1, e2, e3, e4, e5] l') →
    forL (gTup 2 (gCons (gName 4) (gCons (gName 5) gNil))) (nS B_Ground_init_2) (enumD done.length (ws.map wordD)) E [some (.ref g), e1, e2, e3, e4, e5] l
  | [], done, l, e4, e5, _, _, hg, hp, h => by
    refine h l e4 e5 ?_
    rw [List.append_nil]
    funext b
    by_cases hb : b = p
    · subst hb; rw [uL_same, hp]
    · rw [uL_ne hb]
  | w :: ws, done, l, e4, e5, nd, hz, hg, hp, h => by
    refine ⟨rfl, ?_⟩
    walk_at "w"
    walk_at "s"
    refine ⟨_, hg, rfl, ?_⟩
    walk_at "w"
    have hw : w ∉ done := by
      rw [List.nodup_append] at nd
      exact fun q => nd.2.2 w q w List.mem_cons_self rfl
    have hw' : wkey w ∉ done.map wkey := fun q => hw (wkey_mem.mp q)
    rw [List.length_append, List.length_cons] at hz
    refine ⟨_, hp, _, keyT_word w, Nat.lt_of_le_of_lt (show _ ≤ 10000 by rw [List.length_map]; omega) (by decide), ?_⟩
    rw [putKs_new hw', putDs_new hw']
    have e1 : (done.map wkey) ++ [wkey w] = (done ++ [w]).map wkey := by rw [List.map_append]; rfl
    have e2 : ((List.range done.length).map fun (i : Nat) => D.int (i : Int)) ++ [D.int (done.length : Nat)] = (List.range (done ++ [w]).length).map fun (i : Nat) => D.int (i : Int) := by
      rw [List.length_append, List.length_singleton, List.range_succ, List.map_append]
      rfl
    rw [e1, e2]
    have el : done.length + 1 = (done ++ [w]).length := by rw [List.length_append]; rfl
    rw [el]
    refine init_loop2 hgp ws (x := x) (y := y) (z := z) (by rw [List.append_assoc]; exact nd) (by rw [List.append_assoc, List.length_append]; rw [List.singleton_append, List.length_cons]; omega) (by rw [uL_ne hgp]; exact hg) uL_same fun l' e4 e5 e => ?_
    refine h l' e4 e5 ?_
    rw [e, uL_uL, List.append_assoc]
    rfl
theorem c_Ground_init2 {a d : Nat} (gd : OkG a d) {g : Addr} {l : LH} {Q : DK} (ng : l g = none) (h : ∀ b c l', GndAt l' g b c a d [] [] → Sub l l' → l' b ≠ none → l c = none → Q .non l') : callD D_Ground_init [.ref g, .int a, .int d] (uL l g (.ins cl_Ground [])) Q := by
  obtain ⟨a1, a4, d1, d5, ad⟩ := gd.num
  refine ⟨rfl, ?_⟩
  walk_at "w"
  rw [decide_eq_true (show (1 : Int) ≤ (a : Nat) by omega)]
  walk_at "w"
  rw [decide_eq_true (show ((a : Nat) : Int) ≤ 4 by omega)]
  refine ifB_false ?_
  walk_at "w"
  rw [decide_eq_true (show (1 : Int) ≤ (d : Nat) by omega)]
  walk_at "w"
  rw [decide_eq_true (show ((d : Nat) : Int) ≤ 5 by omega)]
  refine ifB_false ?_
  walk_at "w"
  rw [decide_eq_false (show ¬ (7 : Int) < (a : Nat) + (d : Nat) by omega)]
  refine ifB_false ?_
  walk_at "w"
  walk_at "s"
  refine ⟨_, uL_same, rfl, ?_⟩
  walk_at "w"
  rw [uL_uL]
  walk_at "s"
  refine ⟨_, uL_same, rfl, ?_⟩
  walk_at "w"
  rw [uL_uL]
  walk_at "s"
  refine ⟨Nat.zero_le _, fun b nb => ?_⟩
  have hgb : g ≠ b := fun e => by subst e; rw [uL_same] at nb; cases nb
  have nb' : l b = none := by rw [uL_ne (Ne.symm hgb)] at nb; exact nb
  walk_at "w"
  refine ⟨_, (uL_ne hgb).trans uL_same, rfl, ?_⟩
  walk_at "w"
  walk_at "s"
  refine ⟨⟨by decide, by decide, by omega, by omega⟩, ?_⟩
  rw [show (((d : Nat) : Int) + 1 - 1).toNat = d by omega]
  refine init_loop1 gd hgb d 1 (acc := []) (by omega) (by omega) uL_same (by rw [uL_ne (Ne.symm hgb)]; exact uL_same) (by simp; omega) fun l1 e3 el1 => ⟨?_⟩
  have g1 : l1 g = some (.ins cl_Ground [.int a, .int d, .ref b]) := by rw [el1, uL_ne hgb]; exact uL_same
  have b1 : l1 b = some (.lst ((turnsG a d).map wordD)) := by rw [el1, uL_same]; rfl
  have o1 : ∀ x, x ≠ g → x ≠ b → l1 x = l x := fun x hg hb => by
    rw [el1, uL_ne hb, uL_ne hg, uL_ne hb, uL_ne hg]
  clear el1
  walk_at "w"
  intro p np
  have hgp : g ≠ p := fun e => by subst e; rw [g1] at np; cases np
  have hbp : b ≠ p := fun e => by subst e; rw [b1] at np; cases np
  have np' : l p = none := by rw [o1 p (Ne.symm hgp) (Ne.symm hbp)] at np; exact np
  walk_at "w"
  refine ⟨_, (uL_ne hgp).trans g1, rfl, ?_⟩
  walk_at "w"
  walk_at "s"
  refine ⟨_, uL_same, rfl, ?_⟩
  walk_at "w"
  refine ⟨_, (uL_ne (Ne.symm hgb)).trans ((uL_ne hbp).trans b1), ?_⟩
  refine fzList0 ?_
  walk_at "w"
  generalize hl2 : dL (uL (uL l1 p (.dT [] [])) g (.ins cl_Ground [.int a, .int d, .ref b, .ref p])) b = l2
  have g2 : l2 g = some (.ins cl_Ground [.int a, .int d, .ref b, .ref p]) := by
    rw [← hl2]; unfold dL; rw [if_neg hgb]; exact uL_same
  have p2 : l2 p = some (.dT [] []) := by
    rw [← hl2]; unfold dL; rw [if_neg (Ne.symm hbp), uL_ne (Ne.symm hgp)]; exact uL_same
  have o2 : ∀ x, x ≠ g → x ≠ b → x ≠ p → l2 x = l x := fun x h1 h2 h3 => by
    rw [← hl2]; unfold dL; rw [if_neg h2, uL_ne h1, uL_ne h3, o1 x h1 h2]
  refine ⟨g2, ?_⟩
  refine init_loop2 hgp (turnsG a d) (done := []) (turnsG_nd gd) (by have := turnsG_len gd; rw [List.nil_append]; omega) uL_same (by rw [uL_ne (Ne.symm hgp)]; exact p2) fun l3 e4 e5 el3 => ⟨?_⟩
  have g3 : l3 g = some (.ins cl_Ground [.int a, .int d, .lst ((turnsG a d).map wordD), .ref p]) := by rw [el3, uL_ne hgp]; exact uL_same
  have p3 : l3 p = some (.dT ((turnsG a d).map wkey) ((List.range (turnsG a d).length).map fun (i : Nat) => D.int (i : Int))) := by rw [el3, uL_same]; rfl
  have o3 : ∀ x, x ≠ g → x ≠ b → x ≠ p → l3 x = l x := fun x h1 h2 h3 => by rw [el3, uL_ne h3, uL_ne h1, o2 x h1 h2 h3]
  clear el3
  walk_at "w"
  intro c nc
  have hgc : g ≠ c := fun e => by subst e; rw [g3] at nc; cases nc
  have hpc : p ≠ c := fun e => by subst e; rw [p3] at nc; cases nc
  walk_at "w"
  refine ⟨_, (uL_ne hgc).trans g3, rfl, ?_⟩
  refine h p c _ ⟨uL_same, by rw [uL_ne (Ne.symm hgp), uL_ne hpc]; exact p3, by rw [uL_ne (Ne.symm hgc)]; exact uL_same⟩ (fun x o ho => ?_) (by rw [uL_ne (Ne.symm hgp), uL_ne hpc, p3]; exact fun z => by cases z) (by
    by_cases e : c = b
    · rw [e]; exact nb'
    · exact (o3 c (Ne.symm hgc) e (Ne.symm hpc)).symm.trans nc)
  have x1 : x ≠ g := fun e => by subst e; rw [ng] at ho; cases ho
  have x2 : x ≠ b := fun e => by subst e; rw [nb'] at ho; cases ho
  have x3 : x ≠ p := fun e => by subst e; rw [np'] at ho; cases ho
  have x4 : x ≠ c := fun e => by subst e; rw [o3 x x1 x2 x3, ho] at nc; cases nc
  rw [uL_ne x1, uL_ne x4, o3 x x1 x2 x3]
  exact ho

end Law

namespace Law
open PySem PySem.Spec PyProof.Rows L2 DL
local macro_rules | `(tactic| walk_at "w") => `(tactic| conv => whnf)
local macro_rules | `(tactic| walk_at "s") => `(tactic| (refine ⟨?_⟩; conv => whnf))
local macro_rules | `(tactic| walk_at "z") => `(tactic| (refine small ?_; simp only [List.length_map, List.length_append, List.length_reverse, List.length_cons, List.length_nil]; omega))
local macro_rules | `(tactic| walk_at "q") => `(tactic| (refine ⟨(okN_tints _).ok, (okN_tints _).ok, ?_⟩; rw [eqD_tints]))
/-! texts as lists of signs -/
abbrev Sx (cs : List Nat) : Str := ⟨cs.toArray⟩
theorem Sx_inj {a b : List Nat} : Sx a = Sx b ↔ a = b := ⟨fun h => by
  have := congrArg (fun z : Str => z.cps.toList) h
  simpa using this, fun h => by rw [h]⟩
theorem Sx_len (cs : List Nat) : (Sx cs).length = cs.length := by show cs.toArray.size = _; simp
theorem eqD_str (x y : Str) : eqD (.str x) (.str y) = decide (x = y) := by
  show (toPy (.str x)).eqv (toPy (.str y)) = _
  rw [toPy, toPy, PyData.eqv]
  by_cases h : x = y
  · rw [decide_eq_true h, h]; exact beq_self_eq_true y
  · rw [decide_eq_false h]; exact beq_eq_false_iff_ne.mpr h
theorem eqD_S (a b : List Nat) : eqD (.str (Sx a)) (.str (Sx b)) = decide (a = b) := by
  rw [eqD_str]
  exact decide_eq_decide.mpr Sx_inj
def Sg (cs : List Nat) : Prop := ∀ c ∈ cs, c < 1114112
theorem okS {cs : List Nat} (h : Sg cs) : okN 0 (.str (Sx cs)) := okN_str (by
  show (cs.toArray).all _ = true
  rw [List.all_toArray]
  exact List.all_eq_true.mpr fun c hc => decide_eq_true (h c hc))
theorem Sg.take {cs : List Nat} (h : Sg cs) (n : Nat) : Sg (cs.take n) := fun c hc => h c (List.mem_of_mem_take hc)
theorem Sg.drop {cs : List Nat} (h : Sg cs) (n : Nat) : Sg (cs.drop n) := fun c hc => h c (List.mem_of_mem_drop hc)
theorem Sg.suf {cs r : List Nat} (h : Sg cs) (s : r <:+ cs) : Sg r := fun c hc => h c (s.subset hc)
theorem cutS_nat (cs : List Nat) (i j : Nat) (h : i ≤ j) (hi : i ≤ cs.length) : cutS (Sx cs) (some (i : Nat)) (some (j : Nat)) = Sx ((cs.drop i).take (j - i)) := by
  unfold cutS
  rw [HT.sIx_nat, HT.sIx_nat, Sx_len, Nat.min_eq_left hi]
  show Sx ((cs.drop i).take (min j cs.length - i)) = _
  congr 1
  by_cases c : j ≤ cs.length
  · rw [Nat.min_eq_left c]
  · rw [Nat.min_eq_right (by omega), List.take_of_length_le (by rw [List.length_drop]; omega), List.take_of_length_le (by rw [List.length_drop]; omega)]
/-! what is left of a text -/
theorem suf_drop {cs r : List Nat} (s : r <:+ cs) : cs.drop (cs.length - r.length) = r := by
  obtain ⟨p, rfl⟩ := s
  rw [List.length_append, Nat.add_sub_cancel, List.drop_left]
theorem suf_tail {cs r : List Nat} {c : Nat} (s : c :: r <:+ cs) : r <:+ cs := List.IsSuffix.trans (List.suffix_cons c r) s
theorem suf_pos {cs r : List Nat} {c : Nat} (s : c :: r <:+ cs) : cs.length - (c :: r).length + 1 = cs.length - r.length := by
  have := s.length_le
  rw [List.length_cons] at this ⊢
  omega
theorem Sx_app (a b : List Nat) : Sx a ++ Sx b = Sx (a ++ b) := by
  show (⟨a.toArray ++ b.toArray⟩ : Str) = _
  rw [List.append_toArray]
theorem comp_byS {α : Type} {u v : α → D} {g : DTG} {tt : DTT} {te : DTE} {vs : List Nat} {env : DSt} {l : LH} : ∀ (zs : List α) {Q : List D → LH → Prop}, (∀ z ∈ zs, ∀ (K1 : DK) (K2 : LH → Prop), K1 (v z) l → wipeK vs env fun env0 => g (u z) env0 l fun env1 l2 => tt env1 l2 fun c l3 => ifB c (te env1 l3 K1) (K2 l3)) → Q (zs.map v) l → compL g tt te vs (zs.map u) env l Q
  | [], _, _, h => h
  | z :: zs, Q, hs, h => hs z List.mem_cons_self _ _ (comp_byS zs (fun y hy => hs y (List.mem_cons_of_mem _ hy)) h)
/-! what a text reads as: brackets within brackets, b more of them -/
inductive PR (α : Type) where
  | ok (x : α) (r : List Nat)
  | st (r : List Nat)
def PR.rest {α : Type} : PR α → List Nat
  | .ok _ r => r
  | .st r => r
def isSmall (c : Nat) : Bool := decide (97 ≤ c) && decide (c ≤ 122)
def isFig (c : Nat) : Bool := decide (48 ≤ c) && decide (c ≤ 57)
/-- so many signs of a kind at most -/
def takeK (k : Nat → Bool) : Nat → List Nat → List Nat
  | 0, _ => []
  | _, [] => []
  | n + 1, c :: r => if k c then c :: takeK k n r else []
def figV (cs : List Nat) : Nat := NumText.digitsVal cs
def pFigs (sg : Int) (r : List Nat) : PR Int := match r with
  | [] => .st []
  | c :: r1 => if isFig c = false ∨ (sg < 0 ∧ c = 48) then .st r else
    if c = 48 then .ok 0 r1 else .ok (sg * (figV (c :: takeK isFig 8 r1) : Nat)) (r1.drop (takeK isFig 8 r1).length)
def pNum (r : List Nat) : PR Int := match r with
  | [] => .st []
  | c :: r1 => if c = 45 then pFigs (-1) r1 else pFigs 1 (c :: r1)
def letD (c : Nat) : D := .tup [.str "letter", .int ((c - 96 : Nat) : Int)]
def namD (w : List Nat) : D := .tup [.str "name", .str (Sx w)]
def pOne (r : List Nat) : PR D := match r with
  | [] => .st []
  | c :: r1 => if isSmall c then (if c ≤ 100 then .ok (letD c) r1 else .st r1) else .st r
def pLetters (r : List Nat) : PR D :=
  if 2 ≤ (takeK isSmall 8 r).length then .ok (namD (takeK isSmall 8 r)) (r.drop (takeK isSmall 8 r).length) else pOne r
def pTake (c : Nat) (r : List Nat) : PR Unit := match r with
  | [] => .st []
  | d :: r1 => if d = c then .ok () r1 else .st r
def PR.bind {α β : Type} (x : PR α) (f : α → List Nat → PR β) : PR β := match x with
  | .ok v r => f v r
  | .st r => .st r
def pAtom (sub : Option (List Nat → PR D)) (r : List Nat) : PR D := match r with
  | [] => .st []
  | c :: r1 =>
    if c = 49 then .ok (.tup [.str "none"]) r1 else
    if c = 91 then (match sub with
      | none => .st r
      | some f => (f r1).bind fun x r2 => (pTake 44 r2).bind fun _ r3 => (pTake 32 r3).bind fun _ r4 => (f r4).bind fun y r5 => (pTake 93 r5).bind fun _ r6 => .ok (.tup [.str "bracket", x, y]) r6) else
    if c = 40 then (match sub with
      | none => .st r
      | some f => (f r1).bind fun x r2 => (pTake 41 r2).bind fun _ r3 => .ok x r3) else
    pLetters r
def pPow (d : D) (r1 : List Nat) : PR D := match r1 with
  | [] => .ok d []
  | c :: r2 => if c = 94 then (pNum r2).bind fun n r3 => .ok (.tup [.str "power", d, .int n]) r3 else .ok d (c :: r2)
def pItem (sub : Option (List Nat → PR D)) (r : List Nat) : PR D := (pAtom sub r).bind pPow
def pMany (it : List Nat → PR D) : Nat → List D → List Nat → PR (List D)
  | 0, _, r => .st r
  | k + 1, acc, r => match r with
    | [] => .ok acc []
    | c :: r1 => if c = 32 then (it r1).bind fun d r2 => pMany it k (acc ++ [d]) r2 else .ok acc r
def pItems (it : List Nat → PR D) (r : List Nat) : PR D := (it r).bind fun d r1 => (pMany it (r1.length + 1) [d] r1).bind fun ds r2 => .ok (.tup [.str "items", .tup ds]) r2
def pE : Nat → List Nat → PR D
  | 0 => pItems (pItem none)
  | b + 1 => pItems (pItem (some (pE b)))
def pTree (cs : List Nat) : PR D := (pE 20 cs).bind fun d r => match r with
  | [] => .ok d []
  | _ :: _ => .st r
/-! what is left is no more -/
theorem bind_ok {α β : Type} {x : PR α} {f : α → List Nat → PR β} {d : β} {r : List Nat} (h : x.bind f = .ok d r) : ∃ v r1, x = .ok v r1 ∧ f v r1 = .ok d r := by
  cases x with
  | ok v r1 => exact ⟨v, r1, rfl, h⟩
  | st r1 => cases h
theorem pFigs_len {sg : Int} : ∀ {r : List Nat} {n : Int} {r' : List Nat}, pFigs sg r = .ok n r' → r'.length ≤ r.length
  | [], _, _, h => by cases h
  | c :: r1, n, r', h => by
    unfold pFigs at h
    simp only at h
    split at h
    · cases h
    · split at h
      · cases h; exact Nat.le_succ _
      · cases h
        rw [List.length_drop, List.length_cons]
        omega
theorem pNum_len : ∀ {r : List Nat} {n : Int} {r' : List Nat}, pNum r = .ok n r' → r'.length ≤ r.length
  | [], _, _, h => by cases h
  | c :: r1, n, r', h => by
    unfold pNum at h
    simp only at h
    split at h
    · exact Nat.le_trans (pFigs_len h) (Nat.le_succ _)
    · exact pFigs_len h
theorem pOne_len : ∀ {r : List Nat} {d : D} {r' : List Nat}, pOne r = .ok d r' → r'.length ≤ r.length
  | [], _, _, h => by cases h
  | c :: r1, d, r', h => by
    unfold pOne at h
    simp only at h
    split at h
    · split at h
      · cases h; exact Nat.le_succ _
      · cases h
    · cases h
theorem pLetters_len {r : List Nat} {d : D} {r' : List Nat} (h : pLetters r = .ok d r') : r'.length ≤ r.length := by
  unfold pLetters at h
  split at h
  · cases h
    rw [List.length_drop]
    omega
  · exact pOne_len h
theorem pTake_len {ch : Nat} : ∀ {r : List Nat} {d : Unit} {r' : List Nat}, pTake ch r = .ok d r' → r'.length ≤ r.length
  | [], _, _, h => by cases h
  | c :: r1, d, r', h => by
    unfold pTake at h
    simp only at h
    split at h
    · cases h; exact Nat.le_succ _
    · cases h
def Les (sub : Option (List Nat → PR D)) : Prop := ∀ f, sub = some f → ∀ r d r', f r = .ok d r' → r'.length ≤ r.length
theorem pAtom_len {sub : Option (List Nat → PR D)} (hs : Les sub) : ∀ {r : List Nat} {d : D} {r' : List Nat}, pAtom sub r = .ok d r' → r'.length ≤ r.length
  | [], _, _, h => by cases h
  | c :: r1, d, r', h => by
    unfold pAtom at h
    simp only at h
    split at h
    · cases h; exact Nat.le_succ _
    · split at h
      · cases sub with
        | none => cases h
        | some f =>
          obtain ⟨x, r2, e2, h⟩ := bind_ok h
          obtain ⟨_, r3, e3, h⟩ := bind_ok h
          obtain ⟨_, r4, e4, h⟩ := bind_ok h
          obtain ⟨y, r5, e5, h⟩ := bind_ok h
          obtain ⟨_, r6, e6, h⟩ := bind_ok h
          cases h
          have := hs f rfl _ _ _ e2
          have := pTake_len e3
          have := pTake_len e4
          have := hs f rfl _ _ _ e5
          have := pTake_len e6
          rw [List.length_cons]
          omega
      · split at h
        · cases sub with
          | none => cases h
          | some f =>
            obtain ⟨x, r2, e2, h⟩ := bind_ok h
            obtain ⟨_, r3, e3, h⟩ := bind_ok h
            cases h
            have := hs f rfl _ _ _ e2
            have := pTake_len e3
            rw [List.length_cons]
            omega
        · exact pLetters_len h
theorem pPow_len {d0 : D} : ∀ {r : List Nat} {d : D} {r' : List Nat}, pPow d0 r = .ok d r' → r'.length ≤ r.length
  | [], _, _, h => by cases h; exact Nat.le_refl _
  | c :: r1, d, r', h => by
    unfold pPow at h
    simp only at h
    split at h
    · obtain ⟨n, r3, e3, h⟩ := bind_ok h
      cases h
      exact Nat.le_trans (pNum_len e3) (Nat.le_succ _)
    · cases h; exact Nat.le_refl _
theorem pItem_len {sub : Option (List Nat → PR D)} (hs : Les sub) {r : List Nat} {d : D} {r' : List Nat} (h : pItem sub r = .ok d r') : r'.length ≤ r.length := by
  obtain ⟨x, r1, e1, h⟩ := bind_ok h
  exact Nat.le_trans (pPow_len h) (pAtom_len hs e1)
theorem pMany_len {it : List Nat → PR D} (hi : ∀ r d r', it r = .ok d r' → r'.length ≤ r.length) : ∀ (k : Nat) {acc : List D} {r : List Nat} {ds : List D} {r' : List Nat}, pMany it k acc r = .ok ds r' → r'.length ≤ r.length
  | 0, _, _, _, _, h => by cases h
  | k + 1, acc, [], ds, r', h => by cases h; exact Nat.le_refl _
  | k + 1, acc, c :: r1, ds, r', h => by
    unfold pMany at h
    simp only at h
    split at h
    · obtain ⟨d, r2, e2, h⟩ := bind_ok h
      have := hi _ _ _ e2
      have := pMany_len hi k h
      rw [List.length_cons]
      omega
    · cases h; exact Nat.le_refl _
theorem pItems_len {it : List Nat → PR D} (hi : ∀ r d r', it r = .ok d r' → r'.length ≤ r.length) {r : List Nat} {d : D} {r' : List Nat} (h : pItems it r = .ok d r') : r'.length ≤ r.length := by
  obtain ⟨x, r1, e1, h⟩ := bind_ok h
  obtain ⟨ds, r2, e2, h⟩ := bind_ok h
  cases h
  exact Nat.le_trans (pMany_len hi _ e2) (hi _ _ _ e1)
theorem pE_len : ∀ (b : Nat) {r : List Nat} {d : D} {r' : List Nat}, pE b r = .ok d r' → r'.length ≤ r.length
  | 0, _, _, _, h => pItems_len (fun r d r' e => pItem_len (sub := none) (by intro f e; cases e) e) h
  | b + 1, _, _, _, h => pItems_len (fun r d r' e => pItem_len (fun f e r d r' z => by cases e; exact pE_len b z) e) h

end Law

namespace Law
open PySem PySem.Spec PyProof.Rows L2 DL
local macro_rules | `(tactic| walk_at "w") => `(tactic| conv => whnf)
local macro_rules | `(tactic| walk_at "s") => `(tactic| (refine ⟨?_⟩; conv => whnf))
local macro_rules | `(tactic| walk_at "z") => `(tactic| (refine small ?_; simp only [List.length_map, List.length_append, List.length_reverse, List.length_cons, List.length_nil]; omega))
local macro_rules | `(tactic| walk_at "q") => `(tactic| (refine ⟨(okN_tints _).ok, (okN_tints _).ok, ?_⟩; rw [eqD_tints]))
/-! the reading of a text, sign by sign -/
def RD (a : Addr) (cs r : List Nat) (o : Nat) (l : LH) : Prop := l a = some (.ins cl_Reading [.str (Sx cs), .int ((cs.length - r.length : Nat) : Int), .int (o : Int)])
def rdO (cs r : List Nat) (o : Nat) : DO := .ins cl_Reading [.str (Sx cs), .int ((cs.length - r.length : Nat) : Int), .int (o : Int)]
/-- what else lies there stays -/
def Keep (a : Addr) (l l' : LH) : Prop := ∀ y o, y ≠ a → l y = some o → l' y = some o
theorem Keep.refl {a : Addr} {l : LH} : Keep a l l := fun _ _ _ h => h
theorem Keep.trans {a : Addr} {l l1 l2 : LH} (h : Keep a l l1) (k : Keep a l1 l2) : Keep a l l2 := fun y o ne e => k y o ne (h y o ne e)
theorem Keep.upd {a : Addr} {l : LH} {u : DO} : Keep a l (uL l a u) := fun y o ne e => (uL_ne ne).trans e
section
variable {cs : List Nat} (hz : cs.length ≤ 100000) (hg : Sg cs) {a : Addr} {l : LH} {r : List Nat} {o : Nat} {Q : DK} {wd : D → LH → Prop}
include hz
theorem c_sign (s : r <:+ cs) (h : RD a cs r o l) (q : Q (.str (Sx (r.take 1))) l) : callD D_Reading_sign [.ref a] l Q := by
  refine ⟨rfl, ?_⟩
  walk_at "w"
  refine ⟨_, h, rfl, ?_⟩
  walk_at "w"
  refine ⟨_, h, rfl, ?_⟩
  walk_at "w"
  refine ⟨_, h, rfl, ?_⟩
  walk_at "w"
  refine ⟨by rw [Sx_len]; exact small hz, ?_⟩
  have e : ((cs.length - r.length : Nat) : Int) + 1 = ((cs.length - r.length + 1 : Nat) : Int) := by omega
  have sl := s.length_le
  have e2 : cutS (Sx cs) (some ((cs.length - r.length : Nat) : Int)) (some (((cs.length - r.length : Nat) : Int) + 1)) = Sx (r.take 1) := by
    rw [e, cutS_nat cs _ _ (by omega) (by omega), suf_drop s]
    congr 1
    congr 1
    omega
  rw [e2]
  exact q
omit hz in
theorem c_stop (h : RD a cs r o l) (q : wd (.exc1 6 (.int ((cs.length - r.length : Nat) : Int))) l) : callD (D_Reading_stop wd) [.ref a] l Q := by
  refine ⟨rfl, ?_⟩
  walk_at "w"
  refine ⟨_, h, rfl, ?_⟩
  exact q
include hg
theorem c_taken (s : r <:+ cs) (h : RD a cs r o l) {w : List Nat} (hw : w ≠ []) (sw : Sg w) (hq : ∀ c r', r = c :: r' → w = [c] → Q .non (uL l a (rdO cs r' o))) (hn : r.take 1 ≠ w → wd (.exc1 6 (.int ((cs.length - r.length : Nat) : Int))) l) : callD (D_Reading_take wd) [.ref a, .str (Sx w)] l Q := by
  refine ⟨rfl, ?_⟩
  walk_at "w"
  refine ⟨_, h, rfl, ?_⟩
  refine c_sign hz s h ?_
  walk_at "w"
  refine ⟨(okS (hg.suf s |>.take 1)).ok, (okS sw).ok, ?_⟩
  rw [eqD_S]
  by_cases e : r.take 1 = w
  · rw [decide_eq_true e]
    refine ifB_false ?_
    walk_at "w"
    cases r with
    | nil => exact absurd e.symm hw
    | cons c r' =>
      refine ⟨_, h, rfl, ?_⟩
      walk_at "w"
      refine ⟨_, h, rfl, ?_⟩
      have := hq c r' rfl (by simpa using e.symm)
      unfold rdO at this
      rw [← suf_pos s] at this
      exact this
  · rw [decide_eq_false e]
    refine ifB_true ?_
    walk_at "w"
    refine ⟨_, h, rfl, ?_⟩
    exact c_stop h (hn e)
end

end Law

namespace Law
open PySem PySem.Spec PyProof.Rows L2 DL
local macro_rules | `(tactic| walk_at "w") => `(tactic| conv => whnf)
local macro_rules | `(tactic| walk_at "s") => `(tactic| (refine ⟨?_⟩; conv => whnf))
local macro_rules | `(tactic| walk_at "z") => `(tactic| (refine small ?_; simp only [List.length_map, List.length_append, List.length_reverse, List.length_cons, List.length_nil]; omega))
local macro_rules | `(tactic| walk_at "q") => `(tactic| (refine ⟨(okN_tints _).ok, (okN_tints _).ok, ?_⟩; rw [eqD_tints]))
/-! kinds of signs -/
theorem fig_mem (c : Nat) : decide (c ∈ ("0123456789" : Str).cps.toList) = isFig c := by
  have e : ("0123456789" : Str).cps.toList = [48, 49, 50, 51, 52, 53, 54, 55, 56, 57] := rfl
  rw [e]
  unfold isFig
  rw [← Bool.decide_and]
  refine decide_eq_decide.mpr ?_
  simp only [List.mem_cons, List.not_mem_nil, or_false]
  omega
theorem small_mem (c : Nat) : decide (c ∈ ("abcdefghijklmnopqrstuvwxyz" : Str).cps.toList) = isSmall c := by
  have e : ("abcdefghijklmnopqrstuvwxyz" : Str).cps.toList = [97, 98, 99, 100, 101, 102, 103, 104, 105, 106, 107, 108, 109, 110, 111, 112, 113, 114, 115, 116, 117, 118, 119, 120, 121, 122] := rfl
  rw [e]
  unfold isSmall
  rw [← Bool.decide_and]
  refine decide_eq_decide.mpr ?_
  simp only [List.mem_cons, List.not_mem_nil, or_false]
  omega
def isLet (c : Nat) : Bool := decide (97 ≤ c) && decide (c ≤ 100)
theorem let_mem (c : Nat) : decide (c ∈ ("abcd" : Str).cps.toList) = isLet c := by
  have e : ("abcd" : Str).cps.toList = [97, 98, 99, 100] := rfl
  rw [e]
  unfold isLet
  rw [← Bool.decide_and]
  refine decide_eq_decide.mpr ?_
  simp only [List.mem_cons, List.not_mem_nil, or_false]
  omega
/-- one sign, or none, among signs -/
def amB (k : Nat → Bool) (w : List Nat) : Bool := match w with
  | [c] => k c
  | _ => false
theorem c_among {w : List Nat} (hw : w.length ≤ 1) (sw : Sg w) {z : Str} {k : Nat → Bool} (hk : ∀ c, decide (c ∈ z.cps.toList) = k c) {l : LH} {Q : DK} (q : Q (.bl (amB k w)) l) : callD D_is_among [.str (Sx w), .str z] l Q := by
  refine ⟨rfl, ?_⟩
  walk_at "w"
  refine ⟨(okS sw).ok, (okN_str (x := "") (by decide +kernel)).ok, ?_⟩
  rw [show eqD (.str (Sx w)) (.str "") = decide (w = []) from eqD_S w []]
  match w, hw with
  | [], _ =>
    rw [decide_eq_true rfl]
    exact q
  | [c], _ =>
    rw [decide_eq_false (fun e => nomatch e)]
    refine ⟨c, rfl, ?_⟩
    rw [hk c]
    exact q
theorem takeK_of (k : Nat → Bool) : ∀ (n : Nat) (w r : List Nat), (∀ c ∈ w, k c = true) → w.length ≤ n → (w.length = n ∨ amB k (r.take 1) = false) → takeK k n (w ++ r) = w
  | 0, [], r, _, _, _ => rfl
  | 0, _ :: _, _, _, h, _ => by simp at h
  | n + 1, [], [], _, _, _ => rfl
  | n + 1, [], c :: r, _, _, h => by
    rw [List.nil_append, takeK]
    rcases h with h | h
    · cases h
    · rw [if_neg (by
        have : k c = false := h
        rw [this]; decide)]
  | n + 1, c :: w, r, hw, hl, h => by
    rw [List.cons_append, takeK, if_pos (hw c List.mem_cons_self), takeK_of k n w r (fun d hd => hw d (List.mem_cons_of_mem _ hd)) (by simpa using hl) (h.imp (fun e => by simpa using e) id)]
/-- the figures that were taken so far -/
def FgW (cs : List Nat) (a : Addr) (o : Nat) (sg : Int) (l0 : LH) (c : Nat) (r1 : List Nat) (m : Nat) (env : DSt) (l : LH) : Prop := ∃ w r, m = 9 - w.length ∧ w ++ r = r1 ∧ (∀ d ∈ w, isFig d = true) ∧ w.length ≤ 8 ∧ (c = 48 → w = []) ∧ env = [some (.ref a), some (.int sg), some (.str (Sx (c :: w)))] ∧ Keep a l0 l ∧ RD a cs r o l
section
variable {cs : List Nat} (hz : cs.length ≤ 100000) (hg : Sg cs) {a : Addr} {o : Nat} {Q : DK} {wd : D → LH → Prop}
include hz hg
theorem dig_out {c : Nat} {w r : List Nat} (hc : c ≠ 48) (hw : ∀ d ∈ w, isFig d = true) (wl : w.length ≤ 8) (hx : w.length = 8 ∨ amB isFig (r.take 1) = false) {sg : Int} (hf : isFig c = true) (hs : ¬ (sg < 0 ∧ c = 48)) : pFigs sg (c :: (w ++ r)) = .ok (sg * (figV (c :: w) : Nat)) r := by
  show (if isFig c = false ∨ (sg < 0 ∧ c = 48) then PR.st (c :: (w ++ r)) else if c = 48 then .ok 0 (w ++ r) else .ok (sg * (figV (c :: takeK isFig 8 (w ++ r)) : Nat)) ((w ++ r).drop (takeK isFig 8 (w ++ r)).length)) = _
  rw [takeK_of isFig 8 w r hw wl hx, List.drop_left]
  rw [if_neg (by rw [hf]; rintro (h | h); · cases h
                 · exact hs h), if_neg hc]
theorem figs_loop {sg : Int} (sg1 : sg.natAbs ≤ 1) {l0 : LH} {c : Nat} {r1 : List Nat} (hf : isFig c = true) (hs : ¬ (sg < 0 ∧ c = 48)) (s1 : c :: r1 <:+ cs)
    (hq : ∀ n r' l', pFigs sg (c :: r1) = .ok n r' → r' <:+ cs → Keep a l0 l' → RD a cs r' o l' → Q (.int n) l') {l : LH} (k0 : Keep a l0 l) (h : RD a cs r1 o l) :
    nS (T_Reading_number_6 fun _ => wd) ⟨fun _ l => Q .non l, Q, fun _ _ => False, fun _ _ => False⟩ [some (.ref a), some (.int sg), some (.str (Sx [c]))] l := by
  have sgc := hg.suf s1
  have cf : 48 ≤ c ∧ c ≤ 57 := by
    unfold isFig at hf
    rw [Bool.and_eq_true, decide_eq_true_iff, decide_eq_true_iff] at hf
    exact hf
  have fin : ∀ (w r : List Nat) (l' : LH), w ++ r = r1 → (∀ d ∈ w, isFig d = true) → w.length ≤ 8 → pFigs sg (c :: r1) = .ok (sg * (figV (c :: w) : Nat)) r → Keep a l0 l' → RD a cs r o l' →
      nS (T_Reading_number_7 fun _ => wd) ⟨fun _ l => Q .non l, Q, fun _ _ => False, fun _ _ => False⟩ [some (.ref a), some (.int sg), some (.str (Sx (c :: w)))] l' := by
    intro w r l' e1 hw wl hp k h'
    refine ⟨?_⟩
    walk_at "w"
    have ad : NumText.AllDigits (c :: w) := fun d hd => by
      rcases List.mem_cons.mp hd with e | e
      · rw [e]; exact cf
      · have := hw d e
        unfold isFig at this
        rw [Bool.and_eq_true, decide_eq_true_iff, decide_eq_true_iff] at this
        exact this
    have tl : (Sx (c :: w)).cps.toList = c :: w := by simp
    refine ⟨(figV (c :: w) : Nat), ?_, by rw [Sx_len, List.length_cons]; omega, ?_⟩
    · have := intText_digits (x := Sx (c :: w)) (by rw [tl]; exact ad) (by rw [tl]; exact List.cons_ne_nil _ _) (by rw [Sx_len, List.length_cons]; omega)
      rw [tl] at this
      exact this
    refine ⟨mulL (by omega) (by omega), ?_⟩
    exact hq _ r l' hp (by
      rw [← e1] at s1
      exact List.IsSuffix.trans (List.suffix_append w r) (suf_tail s1)) k h'
  refine ⟨?_⟩
  walk_at "w"
  refine ⟨FgW cs a o sg l0 c r1, ⟨9, [], r1, rfl, rfl, (by intro d hd; cases hd), Nat.zero_le _, fun _ => rfl, rfl, k0, h⟩, ?_⟩
  rintro m env l' ⟨w, r, rfl, e1, hw, wl, h0, rfl, k, h'⟩
  have sr : r <:+ cs := by
    rw [← e1] at s1
    exact List.IsSuffix.trans (List.suffix_append w r) (suf_tail s1)
  have sw : Sg (c :: w) := fun d hd => by
    rcases List.mem_cons.mp hd with e | e
    · rw [e]; omega
    · have := hw d e
      unfold isFig at this
      rw [Bool.and_eq_true, decide_eq_true_iff, decide_eq_true_iff] at this
      omega
  walk_at "w"
  refine ⟨(okS sw).ok, (okN_str (x := "0") (by decide +kernel)).ok, ?_⟩
  rw [show eqD (.str (Sx (c :: w))) (.str "0") = decide (c :: w = [48]) from eqD_S _ [48]]
  by_cases c0 : c = 48
  · have w0 := h0 c0
    subst c0 w0
    rw [decide_eq_true rfl]
    refine ifB_false ?_
    refine ifB_false ?_
    refine fin [] r l' e1 hw wl ?_ k h'
    rw [List.nil_append] at e1
    subst e1
    show (if isFig 48 = false ∨ (sg < 0 ∧ 48 = 48) then PR.st (48 :: r) else if 48 = 48 then .ok 0 r else .ok (sg * (figV (48 :: takeK isFig 8 r) : Nat)) (r.drop (takeK isFig 8 r).length)) = _
    rw [if_neg (by rintro (h | h); · cases h
                   · exact hs h), if_pos rfl, show figV [48] = 0 from rfl]
    congr 1
    omega
  · rw [decide_eq_false (fun e => c0 (by cases e; rfl))]
    refine ifB_true ?_
    walk_at "w"
    refine ⟨by rw [Sx_len, List.length_cons]; exact small (by omega), ?_⟩
    walk_at "w"
    rw [Sx_len, List.length_cons]
    by_cases w8 : w.length = 8
    · rw [decide_eq_false (show ¬ ((w.length + 1 : Nat) : Int) < 9 by omega)]
      refine ifB_false ?_
      refine ifB_false ?_
      exact fin w r l' e1 hw wl (by rw [← e1]; exact dig_out hz hg c0 hw wl (.inl w8) hf hs) k h'
    · rw [decide_eq_true (show ((w.length + 1 : Nat) : Int) < 9 by omega)]
      refine ifB_true ?_
      walk_at "w"
      refine ⟨_, h', rfl, ?_⟩
      refine c_sign hz sr h' ?_
      refine c_among (by rw [List.length_take]; omega) ((hg.suf sr).take 1) fig_mem ?_
      cases e : amB isFig (r.take 1) with
      | false =>
        refine ifB_false ?_
        exact fin w r l' e1 hw wl (by rw [← e1]; exact dig_out hz hg c0 hw wl (.inr e) hf hs) k h'
      | true =>
        refine ifB_true ⟨?_⟩
        walk_at "w"
        cases r with
        | nil => cases e
        | cons d r2 =>
          have hd : isFig d = true := e
          refine ⟨_, h', rfl, ?_⟩
          refine c_sign hz sr h' ?_
          refine ⟨by rw [Sx_len]; exact small (by rw [List.length_cons]; show w.length + 1 + _ ≤ _; rw [show (Sx ((d :: r2).take 1)).length = 1 by rw [Sx_len]; rfl]; omega), ?_⟩
          have e3 : Sx (c :: w) ++ Sx ((d :: r2).take 1) = Sx (c :: (w ++ [d])) := Sx_app _ _
          rw [e3]
          walk_at "w"
          refine ⟨_, h', rfl, ?_⟩
          refine ⟨_, h', rfl, ?_⟩
          refine c_sign hz sr h' ?_
          walk_at "w"
          refine c_taken hz hg sr h' (w := [d]) (fun e => nomatch e) ((hg.suf sr).take 1) (fun c' r' e _ => ?_) (fun e => absurd rfl e)
          cases e
          refine ⟨9 - (w ++ [d]).length, by rw [List.length_append]; show 9 - (w.length + 1) < _; omega, w ++ [d], r2, rfl, by rw [List.append_assoc]; exact e1, fun x hx => ?_, by rw [List.length_append]; show w.length + 1 ≤ 8; omega, fun e => absurd e c0, rfl, k.trans Keep.upd, uL_same⟩
          rcases List.mem_append.mp hx with q | q
          · exact hw x q
          · rw [List.mem_singleton.mp q]; exact hd
end

end Law

namespace Law
open PySem PySem.Spec PyProof.Rows L2 DL
local macro_rules | `(tactic| walk_at "w") => `(tactic| conv => whnf)
local macro_rules | `(tactic| walk_at "s") => `(tactic| (refine ⟨?_⟩; conv => whnf))
local macro_rules | `(tactic| walk_at "z") => `(tactic| (refine small ?_; simp only [List.length_map, List.length_append, List.length_reverse, List.length_cons, List.length_nil]; omega))
local macro_rules | `(tactic| walk_at "q") => `(tactic| (refine ⟨(okN_tints _).ok, (okN_tints _).ok, ?_⟩; rw [eqD_tints]))
/-! a whole number -/
section
variable {cs : List Nat} (hz : cs.length ≤ 100000) (hg : Sg cs) {a : Addr} {o : Nat} {Q : DK} {wd : D → LH → Prop}
include hz hg
theorem c_figs {sg : Int} (sg1 : sg.natAbs ≤ 1) {l0 l : LH} {r : List Nat} (s : r <:+ cs) (k0 : Keep a l0 l) (h : RD a cs r o l)
    (hq : ∀ n r' l', pFigs sg r = .ok n r' → r' <:+ cs → Keep a l0 l' → RD a cs r' o l' → Q (.int n) l') (hs : ∀ r' l', pFigs sg r = .st r' → Keep a l0 l' → wd (.exc1 6 (.int ((cs.length - r'.length : Nat) : Int))) l') :
    nS (T_Reading_number_3 fun _ => wd) ⟨fun _ l => Q .non l, Q, fun _ _ => False, fun _ _ => False⟩ [some (.ref a), some (.int sg), none] l := by
  refine ⟨?_⟩
  walk_at "w"
  refine ⟨_, h, rfl, ?_⟩
  refine c_sign hz s h ?_
  walk_at "w"
  refine ⟨?_⟩
  walk_at "w"
  refine c_among (by rw [List.length_take]; omega) ((hg.suf s).take 1) fig_mem ?_
  walk_at "w"
  cases r with
  | nil =>
    refine ifB_true ?_
    refine ifB_true ?_
    walk_at "w"
    refine ⟨_, h, rfl, ?_⟩
    exact c_stop h (hs [] l rfl k0)
  | cons c r1 =>
    have ea : amB isFig ((c :: r1).take 1) = isFig c := rfl
    rw [ea]
    have ep : pFigs sg (c :: r1) = (if isFig c = false ∨ (sg < 0 ∧ c = 48) then .st (c :: r1) else if c = 48 then .ok 0 r1 else .ok (sg * (figV (c :: takeK isFig 8 r1) : Nat)) (r1.drop (takeK isFig 8 r1).length)) := rfl
    have stop : (isFig c = false ∨ (sg < 0 ∧ c = 48)) → callD (D_Reading_stop wd) [.ref a] l fun d l1 => nS (T_Reading_number_5 fun _ => wd) ⟨fun _ l => Q .non l, Q, fun _ _ => False, fun _ _ => False⟩ [some (.ref a), some (.int sg), some (.str (Sx [c]))] l1 := fun e =>
      c_stop h (hs _ l (by rw [ep, if_pos e]) k0)
    have go : isFig c = true → ¬ (sg < 0 ∧ c = 48) → nS (T_Reading_number_5 fun _ => wd) ⟨fun _ l => Q .non l, Q, fun _ _ => False, fun _ _ => False⟩ [some (.ref a), some (.int sg), some (.str (Sx [c]))] l := by
      intro hf hn
      refine ⟨?_⟩
      walk_at "w"
      refine ⟨_, h, rfl, ?_⟩
      refine c_taken hz hg s h (w := [c]) (fun e => nomatch e) ((hg.suf s).take 1) (fun c' r' e _ => ?_) (fun e => absurd rfl e)
      cases e
      exact figs_loop hz hg sg1 hf hn s hq (k0.trans Keep.upd) uL_same
    cases hf : isFig c with
    | false =>
      refine ifB_true ?_
      refine ifB_true ?_
      walk_at "w"
      refine ⟨_, h, rfl, ?_⟩
      exact stop (.inl hf)
    | true =>
      refine ifB_false ?_
      walk_at "w"
      by_cases sn : sg < 0
      · rw [decide_eq_true sn]
        refine ifB_true ?_
        walk_at "w"
        refine ⟨(okS (cs := [c]) ((hg.suf s).take 1)).ok, (okN_str (x := "0") (by decide +kernel)).ok, ?_⟩
        rw [show eqD (.str (Sx ((c :: r1).take 1))) (.str "0") = decide ([c] = [48]) from eqD_S _ [48]]
        by_cases c0 : c = 48
        · rw [decide_eq_true (by rw [c0])]
          refine ifB_true ?_
          walk_at "w"
          refine ⟨_, h, rfl, ?_⟩
          exact stop (.inr ⟨sn, c0⟩)
        · rw [decide_eq_false (fun e => c0 (by cases e; rfl))]
          refine ifB_false ?_
          exact go hf fun e => c0 e.2
      · rw [decide_eq_false sn]
        refine ifB_false ?_
        refine ifB_false ?_
        exact go hf fun e => sn e.1
theorem c_pnum {l : LH} {r : List Nat} (s : r <:+ cs) (h : RD a cs r o l)
    (hq : ∀ n r' l', pNum r = .ok n r' → r' <:+ cs → Keep a l l' → RD a cs r' o l' → Q (.int n) l') (hs : ∀ r' l', pNum r = .st r' → Keep a l l' → wd (.exc1 6 (.int ((cs.length - r'.length : Nat) : Int))) l') :
    callD (D_Reading_number wd) [.ref a] l Q := by
  refine ⟨rfl, ?_⟩
  walk_at "w"
  refine ⟨?_⟩
  walk_at "w"
  refine ⟨_, h, rfl, ?_⟩
  refine c_sign hz s h ?_
  refine ⟨(okS ((hg.suf s).take 1)).ok, (okN_str (x := "-") (by decide +kernel)).ok, ?_⟩
  rw [show eqD (.str (Sx (r.take 1))) (.str "-") = decide (r.take 1 = [45]) from eqD_S _ [45]]
  by_cases e : r.take 1 = [45]
  · rw [decide_eq_true e]
    refine ifB_true ?_
    walk_at "w"
    cases r with
    | nil => cases e
    | cons c r1 =>
      obtain rfl : c = 45 := by cases e; rfl
      refine ⟨_, h, rfl, ?_⟩
      refine c_taken hz hg s h (w := [45]) (fun e => nomatch e) ((hg.suf s).take 1) (fun c' r' e _ => ?_) (fun e => absurd rfl e)
      cases e
      walk_at "w"
      exact c_figs hz hg (by decide) (suf_tail s) Keep.upd uL_same hq hs
  · rw [decide_eq_false e]
    refine ifB_false ?_
    have ep : pNum r = pFigs 1 r := by
      cases r with
      | nil => rfl
      | cons c r1 =>
        show (if c = 45 then pFigs (-1) r1 else pFigs 1 (c :: r1)) = _
        rw [if_neg (fun h => e (by rw [h]; rfl))]
    rw [ep] at hq hs
    exact c_figs hz hg (by decide) s Keep.refl h hq hs
end

end Law

namespace Law
open PySem PySem.Spec PyProof.Rows L2 DL
local macro_rules | `(tactic| walk_at "w") => `(tactic| conv => whnf)
local macro_rules | `(tactic| walk_at "s") => `(tactic| (refine ⟨?_⟩; conv => whnf))
local macro_rules | `(tactic| walk_at "z") => `(tactic| (refine small ?_; simp only [List.length_map, List.length_append, List.length_reverse, List.length_cons, List.length_nil]; omega))
local macro_rules | `(tactic| walk_at "q") => `(tactic| (refine ⟨(okN_tints _).ok, (okN_tints _).ok, ?_⟩; rw [eqD_tints]))
/-! a letter, or a name -/
theorem signs_map (w : List Nat) : signsD (Sx w) = w.map fun c => D.str ⟨#[c]⟩ := by
  unfold signsD
  rw [show (Sx w).cps.toList = w by simp]
theorem c_is_name {w : List Nat} (hw : ∀ c ∈ w, isSmall c = true) (wl : w.length ≤ 8) {l : LH} {Q : DK} (q : Q (.bl (decide (2 ≤ w.length))) l) : callD D_is_name [.str (Sx w)] l Q := by
  refine ⟨rfl, ?_⟩
  walk_at "w"
  refine ⟨by rw [Sx_len]; exact small (by omega), ?_⟩
  walk_at "w"
  rw [Sx_len]
  by_cases h : 2 ≤ w.length
  · rw [decide_eq_true h] at q
    rw [decide_eq_true (show (2 : Int) ≤ (w.length : Nat) by omega)]
    walk_at "w"
    rw [decide_eq_true (show ((w.length : Nat) : Int) ≤ 8 by omega)]
    walk_at "w"
    rw [signs_map]
    refine ⟨by rw [List.length_map]; exact small (by omega), ?_⟩
    refine comp_byS (v := fun _ => D.bl true) w (fun c hc K1 K2 k1 => ?_) ?_
    · refine ifB_true ⟨?_⟩
      walk_at "w"
      refine ⟨c, rfl, ?_⟩
      rw [small_mem c, hw c hc]
      exact k1
    · walk_at "w"
      refine ⟨List.replicate w.length true, by rw [List.map_replicate, List.map_const'], ?_⟩
      have al : (List.replicate w.length true).all id = true := List.all_eq_true.mpr fun b hb => by rw [(List.mem_replicate.mp hb).2]; rfl
      rw [al]
      exact q
  · rw [decide_eq_false h] at q
    rw [decide_eq_false (show ¬ (2 : Int) ≤ (w.length : Nat) by omega)]
    exact q
/-- the letters that were taken so far -/
def LtW (cs : List Nat) (a : Addr) (o : Nat) (l0 : LH) (r : List Nat) (m : Nat) (env : DSt) (l : LH) : Prop := ∃ w r', m = 9 - w.length ∧ w ++ r' = r ∧ (∀ d ∈ w, isSmall d = true) ∧ w.length ≤ 8 ∧ env = [some (.ref a), some (.int ((cs.length - r.length : Nat) : Int)), none] ∧ Keep a l0 l ∧ RD a cs r' o l
theorem let_at {c : Nat} (h : isLet c = true) : Txt.index0 "abcd" (Sx [c]) = some (c - 97) := by
  unfold isLet at h
  rw [Bool.and_eq_true, decide_eq_true_iff, decide_eq_true_iff] at h
  have : c = 97 ∨ c = 98 ∨ c = 99 ∨ c = 100 := by omega
  rcases this with rfl | rfl | rfl | rfl <;> decide +kernel
section
variable {cs : List Nat} (hz : cs.length ≤ 100000) (hg : Sg cs) {a : Addr} {o : Nat} {Q : DK} {wd : D → LH → Prop}
include hz hg
theorem c_letters {l : LH} {r : List Nat} (s : r <:+ cs) (h : RD a cs r o l)
    (hq : ∀ d r' l', pLetters r = .ok d r' → r' <:+ cs → Keep a l l' → RD a cs r' o l' → Q d l') (hs : ∀ r' l', pLetters r = .st r' → Keep a l l' → wd (.exc1 6 (.int ((cs.length - r'.length : Nat) : Int))) l') :
    callD (D_Reading_letters wd) [.ref a] l Q := by
  have sl := s.length_le
  have fin : ∀ (w r' : List Nat) (l' : LH), w ++ r' = r → (∀ d ∈ w, isSmall d = true) → w.length ≤ 8 → (w.length = 8 ∨ amB isSmall (r'.take 1) = false) → Keep a l l' → RD a cs r' o l' →
      nS (T_Reading_letters_3 fun _ => wd) ⟨fun _ l => Q .non l, Q, fun _ _ => False, fun _ _ => False⟩ [some (.ref a), some (.int ((cs.length - r.length : Nat) : Int)), none] l' := by
    intro w r' l' e1 hw wl hx k h'
    have tk : takeK isSmall 8 r = w := by rw [← e1]; exact takeK_of isSmall 8 w r' hw wl hx
    have dr : r.drop w.length = r' := by rw [← e1, List.drop_left]
    have rl : r.length = w.length + r'.length := by rw [← e1, List.length_append]
    have sr : r' <:+ cs := by rw [← e1] at s; exact List.IsSuffix.trans (List.suffix_append w r') s
    refine ⟨?_⟩
    walk_at "w"
    refine ⟨_, h', rfl, ?_⟩
    walk_at "w"
    refine ⟨_, h', rfl, ?_⟩
    walk_at "w"
    refine ⟨by rw [Sx_len]; exact small hz, ?_⟩
    have ec : cutS (Sx cs) (some ((cs.length - r.length : Nat) : Int)) (some ((cs.length - r'.length : Nat) : Int)) = Sx w := by
      rw [cutS_nat cs _ _ (by omega) (by omega), suf_drop s, show cs.length - r'.length - (cs.length - r.length) = w.length by omega, ← e1, List.take_left]
    rw [ec]
    refine ⟨?_⟩
    walk_at "w"
    refine c_is_name hw wl ?_
    by_cases w2 : 2 ≤ w.length
    · rw [decide_eq_true w2]
      refine ifB_true ?_
      walk_at "w"
      refine ⟨small (by show 2 ≤ _; decide), ?_⟩
      refine hq (namD w) r' l' ?_ sr k h'
      unfold pLetters
      rw [tk, dr, if_pos w2]
    · rw [decide_eq_false w2]
      refine ifB_false ?_
      have sgw : Sg w := fun d hd => by
        have := hw d hd
        unfold isSmall at this
        rw [Bool.and_eq_true, decide_eq_true_iff, decide_eq_true_iff] at this
        omega
      refine ⟨?_⟩
      walk_at "w"
      refine c_among (by omega) sgw let_mem ?_
      have ep : pLetters r = pOne r := by
        unfold pLetters
        rw [tk, if_neg w2]
      match w, w2, hw, e1, hx with
      | [], _, _, e1, hx =>
        rw [List.nil_append] at e1
        subst e1
        refine ifB_true ?_
        walk_at "w"
        refine ⟨_, h', rfl, ?_⟩
        refine c_stop h' (hs r' l' ?_ k)
        rw [ep]
        cases r' with
        | nil => rfl
        | cons c r1 =>
          have hc : isSmall c = false := by
            rcases hx with hx | hx
            · cases hx
            · exact hx
          show (if isSmall c then _ else _) = _
          rw [if_neg (by rw [hc]; decide)]
      | [c], _, hw, e1, _ =>
        have hc := hw c List.mem_cons_self
        have e1' : r = c :: r' := e1.symm
        have ep2 : pLetters r = if c ≤ 100 then .ok (letD c) r' else .st r' := by
          rw [ep, e1']
          show (if isSmall c then _ else _) = _
          rw [if_pos hc]
        have hc2 : 97 ≤ c ∧ c ≤ 122 := by
          unfold isSmall at hc
          rw [Bool.and_eq_true, decide_eq_true_iff, decide_eq_true_iff] at hc
          exact hc
        show ifB (!amB isLet [c]) _ _
        show ifB (!isLet c) _ _
        cases hl : isLet c with
        | false =>
          refine ifB_true ?_
          walk_at "w"
          refine ⟨_, h', rfl, ?_⟩
          refine c_stop h' (hs r' l' ?_ k)
          unfold isLet at hl
          rw [ep2, if_neg (by
            intro z
            rw [decide_eq_true hc2.1, decide_eq_true z] at hl
            cases hl)]
        | true =>
          refine ifB_false ?_
          have hl2 : c ≤ 100 := by
            unfold isLet at hl
            rw [Bool.and_eq_true, decide_eq_true_iff, decide_eq_true_iff] at hl
            exact hl.2
          refine ⟨?_⟩
          walk_at "w"
          refine ⟨c - 97, let_at hl, ?_⟩
          refine ⟨small (by show 2 ≤ _; decide), ?_⟩
          have := hq (letD c) r' l' (by rw [ep2, if_pos hl2]) sr k h'
          unfold letD at this
          rw [show ((c - 97 : Nat) : Int) + 1 = ((c - 96 : Nat) : Int) by omega]
          exact this
      | _ :: _ :: _, w2, _, _, _ => exact absurd (by simp) w2
  refine ⟨rfl, ?_⟩
  walk_at "w"
  refine ⟨_, h, rfl, ?_⟩
  walk_at "w"
  refine ⟨?_⟩
  walk_at "w"
  refine ⟨LtW cs a o l r, ⟨9, [], r, rfl, rfl, (by intro d hd; cases hd), Nat.zero_le _, rfl, Keep.refl, h⟩, ?_⟩
  rintro m env l' ⟨w, r', rfl, e1, hw, wl, rfl, k, h'⟩
  have rl : r.length = w.length + r'.length := by rw [← e1, List.length_append]
  have sr : r' <:+ cs := by rw [← e1] at s; exact List.IsSuffix.trans (List.suffix_append w r') s
  walk_at "w"
  refine ⟨_, h', rfl, ?_⟩
  walk_at "w"
  by_cases w8 : w.length = 8
  · rw [decide_eq_false (show ¬ ((cs.length - r'.length : Nat) : Int) - ((cs.length - r.length : Nat) : Int) < 8 by omega)]
    refine ifB_false ?_
    refine ifB_false ?_
    exact fin w r' l' e1 hw wl (.inl w8) k h'
  · rw [decide_eq_true (show ((cs.length - r'.length : Nat) : Int) - ((cs.length - r.length : Nat) : Int) < 8 by omega)]
    refine ifB_true ?_
    walk_at "w"
    refine ⟨_, h', rfl, ?_⟩
    refine c_sign hz sr h' ?_
    refine c_among (by rw [List.length_take]; omega) ((hg.suf sr).take 1) small_mem ?_
    cases e : amB isSmall (r'.take 1) with
    | false =>
      refine ifB_false ?_
      exact fin w r' l' e1 hw wl (.inr e) k h'
    | true =>
      refine ifB_true ⟨?_⟩
      walk_at "w"
      cases r' with
      | nil => cases e
      | cons d r2 =>
        have hd : isSmall d = true := e
        refine ⟨_, h', rfl, ?_⟩
        refine ⟨_, h', rfl, ?_⟩
        refine c_sign hz sr h' ?_
        walk_at "w"
        refine c_taken hz hg sr h' (w := [d]) (fun e => nomatch e) ((hg.suf sr).take 1) (fun c' r'' e _ => ?_) (fun e => absurd rfl e)
        cases e
        refine ⟨9 - (w ++ [d]).length, by rw [List.length_append]; show 9 - (w.length + 1) < _; omega, w ++ [d], r2, rfl, by rw [List.append_assoc]; exact e1, fun x hx => ?_, by rw [List.length_append]; show w.length + 1 ≤ 8; omega, rfl, k.trans Keep.upd, uL_same⟩
        rcases List.mem_append.mp hx with q | q
        · exact hw x q
        · rw [List.mem_singleton.mp q]; exact hd
end

end Law

namespace Law
open PySem PySem.Spec PyProof.Rows L2 DL
local macro_rules | `(tactic| walk_at "w") => `(tactic| conv => whnf)
local macro_rules | `(tactic| walk_at "s") => `(tactic| (refine ⟨?_⟩; conv => whnf))
local macro_rules | `(tactic| walk_at "z") => `(tactic| (refine small ?_; simp only [List.length_map, List.length_append, List.length_reverse, List.length_cons, List.length_nil]; omega))
local macro_rules | `(tactic| walk_at "q") => `(tactic| (refine ⟨(okN_tints _).ok, (okN_tints _).ok, ?_⟩; rw [eqD_tints]))
/-! things, items, formulas -/
theorem pTake_ne {ch : Nat} {r : List Nat} (h : r.take 1 ≠ [ch]) : pTake ch r = .st r := by
  cases r with
  | nil => rfl
  | cons c r1 =>
    show (if c = ch then _ else _) = _
    rw [if_neg (fun e => h (by rw [e]; rfl))]
theorem pTake_eq (ch : Nat) (r : List Nat) : pTake ch (ch :: r) = .ok () r := if_pos rfl
def subP : Nat → Option (List Nat → PR D)
  | 0 => none
  | b + 1 => some (pE b)
theorem pE_sub (b : Nat) : pE b = pItems (pItem (subP b)) := by cases b <;> rfl
section
variable {cs : List Nat} (hz : cs.length ≤ 100000) (hg : Sg cs) {a : Addr} {o : Nat} {Q : DK} {wd : D → LH → Prop}
include hz hg
theorem c_takeP {l : LH} {r : List Nat} (ch : Nat) (hc : ch < 1114112) (s : r <:+ cs) (h : RD a cs r o l) (hq : ∀ r1, pTake ch r = .ok () r1 → r1 <:+ cs → Q .non (uL l a (rdO cs r1 o))) (hs : pTake ch r = .st r → wd (.exc1 6 (.int ((cs.length - r.length : Nat) : Int))) l) : callD (D_Reading_take wd) [.ref a, .str (Sx [ch])] l Q := by
  refine c_taken hz hg s h (fun e => nomatch e) (fun c hm => by rw [List.mem_singleton.mp hm]; exact hc) (fun c r1 e e2 => ?_) (fun e => hs (pTake_ne e))
  cases e2
  subst e
  exact hq r1 (pTake_eq _ _) (suf_tail s)
theorem c_enter {l : LH} {r1 : List Nat} (ch : Nat) (s : ch :: r1 <:+ cs) (h : RD a cs (ch :: r1) o l) (hq : o ≠ 20 → Q .non (uL l a (rdO cs r1 (o + 1)))) (hs : o = 20 → wd (.exc1 6 (.int ((cs.length - (ch :: r1).length : Nat) : Int))) l) : callD (D_Reading_enter wd) [.ref a, .str (Sx [ch])] l Q := by
  refine ⟨rfl, ?_⟩
  walk_at "w"
  refine ⟨_, h, rfl, ?_⟩
  walk_at "w"
  refine ⟨(okN_int _).ok, (okN_int _).ok, ?_⟩
  rw [eqD_int]
  by_cases e : o = 20
  · rw [decide_eq_true (show (o : Int) = 20 by omega)]
    refine ifB_true ?_
    walk_at "w"
    refine ⟨_, h, rfl, ?_⟩
    exact c_stop h (hs e)
  · rw [decide_eq_false (show ¬ (o : Int) = 20 by omega)]
    refine ifB_false ?_
    refine ⟨?_⟩
    walk_at "w"
    refine ⟨_, h, rfl, ?_⟩
    refine c_taken hz hg s h (w := [ch]) (fun e => nomatch e) ((hg.suf s).take 1) (fun c' r' e' _ => ?_) (fun e => absurd rfl e)
    cases e'
    refine ⟨?_⟩
    walk_at "w"
    refine ⟨_, uL_same, rfl, ?_⟩
    walk_at "w"
    refine ⟨_, uL_same, rfl, ?_⟩
    walk_at "w"
    rw [uL_uL]
    have := hq e
    unfold rdO at this
    rw [show ((o + 1 : Nat) : Int) = (o : Int) + 1 by omega] at this
    exact this
theorem c_leave {l : LH} {r : List Nat} (ch : Nat) (hc : ch < 1114112) (s : r <:+ cs) (h : RD a cs r (o + 1) l) (hq : ∀ r1, pTake ch r = .ok () r1 → r1 <:+ cs → Q .non (uL l a (rdO cs r1 o))) (hs : pTake ch r = .st r → wd (.exc1 6 (.int ((cs.length - r.length : Nat) : Int))) l) : callD (D_Reading_leave wd) [.ref a, .str (Sx [ch])] l Q := by
  refine ⟨rfl, ?_⟩
  walk_at "w"
  refine ⟨_, h, rfl, ?_⟩
  refine c_takeP hz hg ch hc s h (fun r1 e s1 => ?_) hs
  refine ⟨?_⟩
  walk_at "w"
  refine ⟨_, uL_same, rfl, ?_⟩
  walk_at "w"
  refine ⟨_, uL_same, rfl, ?_⟩
  walk_at "w"
  rw [uL_uL]
  have := hq r1 e s1
  unfold rdO at this
  rw [show ((o + 1 : Nat) : Int) - 1 = (o : Int) by omega]
  exact this
theorem c_atom {b n : Nat} (ho : o + b = 20)
    (IH : ∀ b', b = b' + 1 → ∀ {l : LH} {r : List Nat} {Q : DK}, r <:+ cs → RD a cs r (o + 1) l → (∀ d r' l', pE b' r = .ok d r' → r' <:+ cs → Keep a l l' → RD a cs r' (o + 1) l' → Q d l') → (∀ r' l', pE b' r = .st r' → Keep a l l' → wd (.exc1 6 (.int ((cs.length - r'.length : Nat) : Int))) l') → callD (D_Reading_expr n wd) [.ref a] l Q)
    {l : LH} {r : List Nat} (s : r <:+ cs) (h : RD a cs r o l)
    (hq : ∀ d r' l', pAtom (subP b) r = .ok d r' → r' <:+ cs → Keep a l l' → RD a cs r' o l' → Q d l') (hs : ∀ r' l', pAtom (subP b) r = .st r' → Keep a l l' → wd (.exc1 6 (.int ((cs.length - r'.length : Nat) : Int))) l') :
    callD (D_Reading_atom (n + 1) wd) [.ref a] l Q := by
  have sign : ∀ (ch : Nat) (z : Str), z = Sx [ch] → ch < 1114112 → ∀ {P : Bool → Prop}, (r.take 1 = [ch] → P true) → (r.take 1 ≠ [ch] → P false) → (okD (.str (Sx (r.take 1))) ∧ okD (.str z) ∧ P (eqD (.str (Sx (r.take 1))) (.str z))) := by
    intro ch z e hc P p1 p2
    subst e
    refine ⟨(okS ((hg.suf s).take 1)).ok, (okS (fun c hm => by rw [List.mem_singleton.mp hm]; exact hc)).ok, ?_⟩
    rw [eqD_S]
    by_cases q : r.take 1 = [ch]
    · rw [decide_eq_true q]; exact p1 q
    · rw [decide_eq_false q]; exact p2 q
  have hd : ∀ {ch : Nat}, r.take 1 = [ch] → ∃ r1, r = ch :: r1 := fun {ch} e => by
    cases r with
    | nil => cases e
    | cons c r1 => cases e; exact ⟨r1, rfl⟩
  refine ⟨rfl, ?_⟩
  walk_at "w"
  refine ⟨_, h, rfl, ?_⟩
  refine c_sign hz s h ?_
  refine sign 49 "1" rfl (by decide) (P := fun b => ifB b _ _) (fun e => ?_) (fun n1 => ?_)
  · obtain ⟨r1, rfl⟩ := hd e
    refine ifB_true ?_
    walk_at "w"
    refine ⟨_, h, rfl, ?_⟩
    refine c_takeP hz hg 49 (by decide) s h (fun r2 e2 s2 => ?_) (fun e2 => by rw [pTake_eq] at e2; cases e2)
    rw [pTake_eq] at e2
    cases e2
    walk_at "w"
    refine ⟨small (by show 1 ≤ _; decide), ?_⟩
    exact hq _ r1 _ rfl s2 Keep.upd uL_same
  refine ifB_false ?_
  refine ⟨?_⟩
  walk_at "w"
  refine ⟨_, h, rfl, ?_⟩
  refine c_sign hz s h ?_
  refine sign 91 "[" rfl (by decide) (P := fun b => ifB b _ _) (fun e => ?_) (fun n2 => ?_)
  · obtain ⟨r1, rfl⟩ := hd e
    refine ifB_true ?_
    walk_at "w"
    refine ⟨_, h, rfl, ?_⟩
    refine c_enter hz hg 91 s h (fun o20 => ?_) (fun o20 => ?_)
    · obtain ⟨b', rfl⟩ : ∃ b', b = b' + 1 := ⟨b - 1, by omega⟩
      have ep : pAtom (subP (b' + 1)) (91 :: r1) = (pE b' r1).bind fun x r2 => (pTake 44 r2).bind fun _ r3 => (pTake 32 r3).bind fun _ r4 => (pE b' r4).bind fun y r5 => (pTake 93 r5).bind fun _ r6 => .ok (.tup [.str "bracket", x, y]) r6 := rfl
      rw [ep] at hq hs
      walk_at "w"
      refine ⟨_, uL_same, rfl, ?_⟩
      refine IH b' rfl (suf_tail s) uL_same (fun x r2 l2 e2 s2 k2 h2 => ?_) (fun r2 l2 e2 k2 => hs r2 l2 (by rw [e2]; rfl) (Keep.upd.trans k2))
      rw [e2] at hq hs
      walk_at "w"
      refine ⟨_, h2, rfl, ?_⟩
      refine c_takeP hz hg 44 (by decide) s2 h2 (fun r3 e3 s3 => ?_) (fun e3 => hs r2 l2 (by show (pTake 44 r2).bind _ = _; rw [e3]; rfl) (Keep.upd.trans k2))
      replace hq : ∀ d r' l', ((pTake 44 r2).bind fun _ r3 => (pTake 32 r3).bind fun _ r4 => (pE b' r4).bind fun y r5 => (pTake 93 r5).bind fun _ r6 => .ok (.tup [.str "bracket", x, y]) r6) = .ok d r' → r' <:+ cs → Keep a l l' → RD a cs r' o l' → Q d l' := hq
      replace hs : ∀ r' l', ((pTake 44 r2).bind fun _ r3 => (pTake 32 r3).bind fun _ r4 => (pE b' r4).bind fun y r5 => (pTake 93 r5).bind fun _ r6 => PR.ok (D.tup [.str "bracket", x, y]) r6) = .st r' → Keep a l l' → wd (.exc1 6 (.int ((cs.length - r'.length : Nat) : Int))) l' := hs
      rw [e3] at hq hs
      walk_at "w"
      refine ⟨_, uL_same, rfl, ?_⟩
      have k3 := (Keep.upd.trans k2).trans (Keep.upd (l := l2) (u := rdO cs r3 (o + 1)))
      refine c_takeP hz hg 32 (by decide) s3 uL_same (fun r4 e4 s4 => ?_) (fun e4 => hs r3 _ (by show (pTake 32 r3).bind _ = _; rw [e4]; rfl) k3)
      replace hq : ∀ d r' l', ((pTake 32 r3).bind fun _ r4 => (pE b' r4).bind fun y r5 => (pTake 93 r5).bind fun _ r6 => .ok (.tup [.str "bracket", x, y]) r6) = .ok d r' → r' <:+ cs → Keep a l l' → RD a cs r' o l' → Q d l' := hq
      replace hs : ∀ r' l', ((pTake 32 r3).bind fun _ r4 => (pE b' r4).bind fun y r5 => (pTake 93 r5).bind fun _ r6 => PR.ok (D.tup [.str "bracket", x, y]) r6) = .st r' → Keep a l l' → wd (.exc1 6 (.int ((cs.length - r'.length : Nat) : Int))) l' := hs
      rw [e4] at hq hs
      have k4 := k3.trans (Keep.upd (u := rdO cs r4 (o + 1)))
      walk_at "w"
      refine ⟨_, uL_same, rfl, ?_⟩
      refine IH b' rfl s4 uL_same (fun y r5 l5 e5 s5 k5 h5 => ?_) (fun r5 l5 e5 k5 => hs r5 l5 (by show (pE b' r4).bind _ = _; rw [e5]; rfl) (k4.trans k5))
      replace hq : ∀ d r' l', ((pE b' r4).bind fun y r5 => (pTake 93 r5).bind fun _ r6 => .ok (.tup [.str "bracket", x, y]) r6) = .ok d r' → r' <:+ cs → Keep a l l' → RD a cs r' o l' → Q d l' := hq
      replace hs : ∀ r' l', ((pE b' r4).bind fun y r5 => (pTake 93 r5).bind fun _ r6 => PR.ok (D.tup [.str "bracket", x, y]) r6) = .st r' → Keep a l l' → wd (.exc1 6 (.int ((cs.length - r'.length : Nat) : Int))) l' := hs
      rw [e5] at hq hs
      walk_at "w"
      refine ⟨_, h5, rfl, ?_⟩
      refine c_leave hz hg 93 (by decide) s5 h5 (fun r6 e6 s6 => ?_) (fun e6 => hs r5 l5 (by show (pTake 93 r5).bind _ = _; rw [e6]; rfl) (k4.trans k5))
      walk_at "w"
      refine ⟨small (by show 3 ≤ _; decide), ?_⟩
      exact hq _ r6 _ (by show (pTake 93 r5).bind _ = _; rw [e6]; rfl) s6 ((k4.trans k5).trans Keep.upd) uL_same
    · obtain rfl : b = 0 := by omega
      exact hs _ l rfl Keep.refl
  refine ifB_false ?_
  refine ⟨?_⟩
  walk_at "w"
  refine ⟨_, h, rfl, ?_⟩
  refine c_sign hz s h ?_
  refine sign 40 "(" rfl (by decide) (P := fun b => ifB b _ _) (fun e => ?_) (fun n3 => ?_)
  · obtain ⟨r1, rfl⟩ := hd e
    refine ifB_true ?_
    walk_at "w"
    refine ⟨_, h, rfl, ?_⟩
    refine c_enter hz hg 40 s h (fun o20 => ?_) (fun o20 => ?_)
    · obtain ⟨b', rfl⟩ : ∃ b', b = b' + 1 := ⟨b - 1, by omega⟩
      have ep : pAtom (subP (b' + 1)) (40 :: r1) = (pE b' r1).bind fun x r2 => (pTake 41 r2).bind fun _ r3 => .ok x r3 := rfl
      rw [ep] at hq hs
      walk_at "w"
      refine ⟨_, uL_same, rfl, ?_⟩
      refine IH b' rfl (suf_tail s) uL_same (fun x r2 l2 e2 s2 k2 h2 => ?_) (fun r2 l2 e2 k2 => hs r2 l2 (by rw [e2]; rfl) (Keep.upd.trans k2))
      rw [e2] at hq hs
      walk_at "w"
      refine ⟨_, h2, rfl, ?_⟩
      refine c_leave hz hg 41 (by decide) s2 h2 (fun r3 e3 s3 => ?_) (fun e3 => hs r2 l2 (by show (pTake 41 r2).bind _ = _; rw [e3]; rfl) (Keep.upd.trans k2))
      walk_at "w"
      exact hq _ r3 _ (by show (pTake 41 r2).bind _ = _; rw [e3]; rfl) s3 ((Keep.upd.trans k2).trans Keep.upd) uL_same
    · obtain rfl : b = 0 := by omega
      exact hs _ l rfl Keep.refl
  refine ifB_false ?_
  refine ⟨?_⟩
  walk_at "w"
  refine ⟨_, h, rfl, ?_⟩
  have ep : pAtom (subP b) r = pLetters r := by
    cases r with
    | nil => rfl
    | cons c r1 =>
      have ne : ∀ {ch : Nat}, (c :: r1).take 1 ≠ [ch] → c ≠ ch := fun h e => h (by rw [e]; rfl)
      unfold pAtom
      simp only [if_neg (ne n1), if_neg (ne n2), if_neg (ne n3)]
  rw [ep] at hq hs
  exact c_letters hz hg s h hq hs
end

end Law

namespace Law
open PySem PySem.Spec PyProof.Rows L2 DL
local macro_rules | `(tactic| walk_at "w") => `(tactic| conv => whnf)
local macro_rules | `(tactic| walk_at "s") => `(tactic| (refine ⟨?_⟩; conv => whnf))
local macro_rules | `(tactic| walk_at "z") => `(tactic| (refine small ?_; simp only [List.length_map, List.length_append, List.length_reverse, List.length_cons, List.length_nil]; omega))
local macro_rules | `(tactic| walk_at "q") => `(tactic| (refine ⟨(okN_tints _).ok, (okN_tints _).ok, ?_⟩; rw [eqD_tints]))
/-! items, and formulas -/
theorem pMany_stop {it : List Nat → PR D} {k : Nat} {acc : List D} {r : List Nat} (h : r.take 1 ≠ [32]) : pMany it (k + 1) acc r = .ok acc r := by
  cases r with
  | nil => rfl
  | cons c r1 =>
    show (if c = 32 then _ else _) = _
    rw [if_neg (fun e => h (by rw [e]; rfl))]
theorem pMany_go {it : List Nat → PR D} {k : Nat} {acc : List D} {r : List Nat} : pMany it (k + 1) acc (32 :: r) = (it r).bind fun d r2 => pMany it k (acc ++ [d]) r2 := by
  show (if 32 = 32 then (it r).bind (fun d r2 => pMany it k (acc ++ [d]) r2) else PR.ok acc (32 :: r)) = _
  rw [if_pos rfl]
theorem les_sub : ∀ b, Les (subP b)
  | 0 => fun f e => nomatch e
  | b + 1 => fun f e r d r' z => by cases e; exact pE_len b z
/-- the items that were read so far -/
def ItW (cs : List Nat) (a p : Addr) (o : Nat) (l0 : LH) (it : List Nat → PR D) (res : PR (List D)) (m : Nat) (env : DSt) (l : LH) : Prop := ∃ acc r k, m = r.length ∧ r.length < k ∧ acc.length + r.length ≤ cs.length + 1 ∧ res = pMany it k acc r ∧ r <:+ cs ∧ env = [some (.ref a), some (.ref p)] ∧ l p = some (.lst acc) ∧ Keep a l0 l ∧ RD a cs r o l
section
variable {cs : List Nat} (hz : cs.length ≤ 100000) (hg : Sg cs) {a : Addr} {o : Nat} {wd : D → LH → Prop}
include hz hg
theorem c_item {b m : Nat} (ho : o + b = 20)
    (IH : ∀ b', b = b' + 1 → ∀ {l : LH} {r : List Nat} {Q : DK}, r <:+ cs → RD a cs r (o + 1) l → (∀ d r' l', pE b' r = .ok d r' → r' <:+ cs → Keep a l l' → RD a cs r' (o + 1) l' → Q d l') → (∀ r' l', pE b' r = .st r' → Keep a l l' → wd (.exc1 6 (.int ((cs.length - r'.length : Nat) : Int))) l') → callD (D_Reading_expr m wd) [.ref a] l Q)
    {Q : DK} {l : LH} {r : List Nat} (s : r <:+ cs) (h : RD a cs r o l)
    (hq : ∀ d r' l', pItem (subP b) r = .ok d r' → r' <:+ cs → Keep a l l' → RD a cs r' o l' → Q d l') (hs : ∀ r' l', pItem (subP b) r = .st r' → Keep a l l' → wd (.exc1 6 (.int ((cs.length - r'.length : Nat) : Int))) l') :
    callD (D_Reading_item (m + 2) wd) [.ref a] l Q := by
  refine ⟨rfl, ?_⟩
  walk_at "w"
  refine ⟨_, h, rfl, ?_⟩
  refine c_atom hz hg ho IH s h (fun d r1 l1 e1 s1 k1 h1 => ?_) (fun r1 l1 e1 k1 => hs r1 l1 (by unfold pItem; rw [e1]; rfl) k1)
  have ep : pItem (subP b) r = pPow d r1 := by
    unfold pItem
    rw [e1]
    rfl
  walk_at "w"
  refine ⟨?_⟩
  walk_at "w"
  refine ⟨_, h1, rfl, ?_⟩
  refine c_sign hz s1 h1 ?_
  refine ⟨(okS ((hg.suf s1).take 1)).ok, (okN_str (x := "^") (by decide +kernel)).ok, ?_⟩
  rw [show eqD (.str (Sx (r1.take 1))) (.str "^") = decide (r1.take 1 = [94]) from eqD_S _ [94]]
  by_cases e : r1.take 1 = [94]
  · rw [decide_eq_true e]
    refine ifB_false ?_
    cases r1 with
    | nil => cases e
    | cons c r2 =>
      obtain rfl : c = 94 := by cases e; rfl
      have ep2 : pItem (subP b) r = (pNum r2).bind fun n r3 => .ok (.tup [.str "power", d, .int n]) r3 := ep.trans (by simp [pPow])
      refine ⟨?_⟩
      walk_at "w"
      refine ⟨_, h1, rfl, ?_⟩
      refine c_takeP hz hg 94 (by decide) s1 h1 (fun r3 e3 s3 => ?_) (fun e3 => by rw [pTake_eq] at e3; cases e3)
      rw [pTake_eq] at e3
      cases e3
      refine ⟨?_⟩
      walk_at "w"
      refine ⟨_, uL_same, rfl, ?_⟩
      refine c_pnum hz hg s3 uL_same (fun n r4 l4 e4 s4 k4 h4 => ?_) (fun r4 l4 e4 k4 => hs r4 l4 (by rw [ep2, e4]; rfl) ((k1.trans Keep.upd).trans k4))
      refine ⟨small (by show 3 ≤ _; decide), ?_⟩
      exact hq _ r4 l4 (by rw [ep2, e4]; rfl) s4 ((k1.trans Keep.upd).trans k4) h4
  · rw [decide_eq_false e]
    refine ifB_true ?_
    refine hq d r1 l1 ?_ s1 k1 h1
    rw [ep]
    cases r1 with
    | nil => rfl
    | cons c r2 =>
      show (if c = 94 then _ else _) = _
      rw [if_neg (fun z => e (by rw [z]; rfl))]
theorem c_expr_step {b m : Nat} (ho : o + b = 20)
    (IH : ∀ b', b = b' + 1 → ∀ {l : LH} {r : List Nat} {Q : DK}, r <:+ cs → RD a cs r (o + 1) l → (∀ d r' l', pE b' r = .ok d r' → r' <:+ cs → Keep a l l' → RD a cs r' (o + 1) l' → Q d l') → (∀ r' l', pE b' r = .st r' → Keep a l l' → wd (.exc1 6 (.int ((cs.length - r'.length : Nat) : Int))) l') → callD (D_Reading_expr m wd) [.ref a] l Q)
    {Q : DK} {l : LH} {r : List Nat} (s : r <:+ cs) (h : RD a cs r o l)
    (hq : ∀ d r' l', pE b r = .ok d r' → r' <:+ cs → Keep a l l' → RD a cs r' o l' → Q d l') (hs : ∀ r' l', pE b r = .st r' → Keep a l l' → wd (.exc1 6 (.int ((cs.length - r'.length : Nat) : Int))) l') :
    callD (D_Reading_expr (m + 3) wd) [.ref a] l Q := by
  rw [pE_sub] at hq hs
  refine ⟨rfl, ?_⟩
  walk_at "w"
  refine ⟨_, h, rfl, ?_⟩
  refine c_item hz hg ho IH s h (fun d r1 l1 e1 s1 k1 h1 => ?_) (fun r1 l1 e1 k1 => hs r1 l1 (by unfold pItems; rw [e1]; rfl) k1)
  have ep : pItems (pItem (subP b)) r = (pMany (pItem (subP b)) (r1.length + 1) [d] r1).bind fun ds r2 => .ok (.tup [.str "items", .tup ds]) r2 := by
    unfold pItems
    rw [e1]
    rfl
  rw [ep] at hq hs
  walk_at "w"
  refine ⟨small (by show 1 ≤ _; decide), fun p np => ?_⟩
  walk_at "w"
  refine ⟨?_⟩
  walk_at "w"
  have pa : p ≠ a := fun e => by
    have : l1 a = some _ := h1
    rw [← e, np] at this
    cases this
  have np0 : l p = none := by
    cases e : l p with
    | none => rfl
    | some o' => rw [k1 p o' pa e] at np; cases np
  have kp : ∀ {l2 : LH} {u : DO}, Keep a l l2 → Keep a l (uL l2 p u) := fun k y o' ne e => (uL_ne (fun z => by rw [z, np0] at e; cases e)).trans (k y o' ne e)
  have sl1 := s1.length_le
  refine ⟨ItW cs a p o l (pItem (subP b)) (pMany (pItem (subP b)) (r1.length + 1) [d] r1), ⟨r1.length, [d], r1, r1.length + 1, rfl, Nat.lt_succ_self _, by rw [List.length_singleton]; omega, rfl, s1, rfl, uL_same, kp k1, (uL_ne (Ne.symm pa)).trans h1⟩, ?_⟩
  rintro m' env l2 ⟨acc, r2, k, rfl, hk, ha, er, s2, rfl, hp, k2, h2⟩
  obtain ⟨k, rfl⟩ : ∃ k', k = k' + 1 := ⟨k - 1, by omega⟩
  walk_at "w"
  refine ⟨_, h2, rfl, ?_⟩
  refine c_sign hz s2 h2 ?_
  refine ⟨(okS ((hg.suf s2).take 1)).ok, (okN_str (x := " ") (by decide +kernel)).ok, ?_⟩
  rw [show eqD (.str (Sx (r2.take 1))) (.str " ") = decide (r2.take 1 = [32]) from eqD_S _ [32]]
  by_cases e : r2.take 1 = [32]
  · rw [decide_eq_true e]
    refine ifB_true ⟨?_⟩
    walk_at "w"
    cases r2 with
    | nil => cases e
    | cons c r3 =>
      obtain rfl : c = 32 := by cases e; rfl
      rw [pMany_go] at er
      refine ⟨_, h2, rfl, ?_⟩
      refine c_takeP hz hg 32 (by decide) s2 h2 (fun r4 e4 s4 => ?_) (fun e4 => by rw [pTake_eq] at e4; cases e4)
      rw [pTake_eq] at e4
      cases e4
      walk_at "w"
      have hp3 : uL l2 a (rdO cs r3 o) p = some (.lst acc) := (uL_ne pa).trans hp
      refine ⟨_, hp3, ?_⟩
      walk_at "w"
      refine ⟨_, uL_same, rfl, ?_⟩
      refine c_item hz hg ho IH s4 uL_same (fun d2 r5 l5 e5 s5 k5 h5 => ?_) (fun r5 l5 e5 k5 => hs r5 l5 (by rw [er, e5]; rfl) ((k2.trans Keep.upd).trans k5))
      rw [e5] at er
      have hp5 := k5 p _ pa hp3
      walk_at "w"
      refine ⟨_, hp5, ?_⟩
      have le5 := pItem_len (les_sub b) e5
      rw [List.length_cons] at hk ha
      refine ⟨Nat.lt_of_lt_of_le (show acc.length < 2 ^ 20 by omega) (by decide), ?_⟩
      refine ⟨r5.length, by rw [List.length_cons]; omega, acc ++ [d2], r5, k, rfl, by omega, by rw [List.length_append]; show acc.length + 1 + _ ≤ _; omega, er, s5, rfl, uL_same, ?_, ?_⟩
      · exact kp ((k2.trans Keep.upd).trans k5)
      · exact (uL_ne (Ne.symm pa)).trans h5
  · rw [decide_eq_false e]
    refine ifB_false ?_
    rw [pMany_stop e] at er
    refine ⟨?_⟩
    walk_at "w"
    refine ⟨_, hp, ?_⟩
    walk_at "w"
    refine ⟨small (by show 2 ≤ _; decide), ?_⟩
    exact hq _ r2 l2 (by rw [er]; rfl) s2 k2 h2
end

end Law

namespace Law
open PySem PySem.Spec PyProof.Rows L2 DL
local macro_rules | `(tactic| walk_at "w") => `(tactic| conv => whnf)
local macro_rules | `(tactic| walk_at "s") => `(tactic| (refine ⟨?_⟩; conv => whnf))
local macro_rules | `(tactic| walk_at "z") => `(tactic| (refine small ?_; simp only [List.length_map, List.length_append, List.length_reverse, List.length_cons, List.length_nil]; omega))
local macro_rules | `(tactic| walk_at "q") => `(tactic| (refine ⟨(okN_tints _).ok, (okN_tints _).ok, ?_⟩; rw [eqD_tints]))
/-! read_tree -/
section
variable {cs : List Nat} (hz : cs.length ≤ 100000) (hg : Sg cs) {wd : D → LH → Prop}
include hz hg
theorem c_expr {a : Addr} : ∀ (b : Nat) {o m : Nat}, o + b = 20 → 3 * b + 3 ≤ m → ∀ {l : LH} {r : List Nat} {Q : DK}, r <:+ cs → RD a cs r o l →
    (∀ d r' l', pE b r = .ok d r' → r' <:+ cs → Keep a l l' → RD a cs r' o l' → Q d l') → (∀ r' l', pE b r = .st r' → Keep a l l' → wd (.exc1 6 (.int ((cs.length - r'.length : Nat) : Int))) l') → callD (D_Reading_expr m wd) [.ref a] l Q
  | 0, o, m, ho, hm, l, r, Q, s, h, hq, hs => by
    obtain ⟨m, rfl⟩ : ∃ m', m = m' + 3 := ⟨m - 3, by omega⟩
    exact c_expr_step hz hg ho (fun b' e => by omega) s h hq hs
  | b + 1, o, m, ho, hm, l, r, Q, s, h, hq, hs => by
    obtain ⟨m, rfl⟩ : ∃ m', m = m' + 3 := ⟨m - 3, by omega⟩
    refine c_expr_step hz hg ho (fun b' e => ?_) s h hq hs
    obtain rfl : b = b' := by omega
    intro l r Q s h hq hs
    exact c_expr b (by omega) (by omega) s h hq hs
theorem c_read_tree {l : LH} {Q : DK} (hq : ∀ d l', pTree cs = .ok d [] → DL.Sub l l' → Q d l') (hs : ∀ r' l', pTree cs = .st r' → DL.Sub l l' → wd (.exc1 6 (.int ((cs.length - r'.length : Nat) : Int))) l') : callD (D_read_tree wd) [.str (Sx cs)] l Q := by
  refine ⟨rfl, ?_⟩
  walk_at "w"
  intro a na
  refine ⟨rfl, ?_⟩
  walk_at "w"
  refine ⟨_, uL_same, rfl, ?_⟩
  walk_at "w"
  refine ⟨?_⟩
  walk_at "w"
  refine ⟨_, uL_same, rfl, ?_⟩
  walk_at "w"
  refine ⟨?_⟩
  walk_at "w"
  refine ⟨_, uL_same, rfl, ?_⟩
  walk_at "w"
  refine ⟨rfl, ?_⟩
  rw [uL_uL, uL_uL, uL_uL]
  walk_at "w"
  refine ⟨?_⟩
  walk_at "w"
  have h0 : RD a cs cs 0 (uL l a (.ins cl_Reading [.str (Sx cs), .int 0, .int 0])) := by
    unfold RD
    rw [uL_same, Nat.sub_self]
    rfl
  have sub : ∀ {l' : LH}, Keep a (uL l a (.ins cl_Reading [.str (Sx cs), .int 0, .int 0])) l' → DL.Sub l l' := fun k y o e => by
    have ne : y ≠ a := fun z => by rw [z, na] at e; cases e
    exact k y o ne ((uL_ne ne).trans e)
  refine ⟨_, uL_same, rfl, ?_⟩
  refine c_expr hz hg 20 rfl (by decide) (List.suffix_refl cs) h0 (fun d r1 l1 e1 s1 k1 h1 => ?_) (fun r1 l1 e1 k1 => hs r1 l1 (by unfold pTree; rw [e1]; rfl) (sub k1))
  walk_at "w"
  refine ⟨?_⟩
  walk_at "w"
  refine ⟨_, h1, rfl, ?_⟩
  refine ⟨by rw [Sx_len]; exact small hz, ?_⟩
  walk_at "w"
  rw [Sx_len]
  have sl := s1.length_le
  cases r1 with
  | nil =>
    rw [decide_eq_false (by rw [List.length_nil]; omega)]
    refine ifB_false ?_
    refine ⟨?_⟩
    walk_at "w"
    exact hq d l1 (by unfold pTree; rw [e1]; rfl) (sub k1)
  | cons c r2 =>
    rw [List.length_cons] at sl
    rw [decide_eq_true (by rw [List.length_cons]; omega)]
    refine ifB_true ?_
    walk_at "w"
    refine ⟨_, h1, rfl, ?_⟩
    exact c_stop h1 (hs (c :: r2) l1 (by unfold pTree; rw [e1]; rfl) (sub k1))
end

end Law

namespace Law
open PySem PySem.Spec PyProof.Rows L2 DL
local macro_rules | `(tactic| walk_at "w") => `(tactic| conv => whnf)
local macro_rules | `(tactic| walk_at "s") => `(tactic| (refine ⟨?_⟩; conv => whnf))
local macro_rules | `(tactic| walk_at "z") => `(tactic| (refine small ?_; simp only [List.length_map, List.length_append, List.length_reverse, List.length_cons, List.length_nil]; omega))
local macro_rules | `(tactic| walk_at "q") => `(tactic| (refine ⟨(okN_tints _).ok, (okN_tints _).ok, ?_⟩; rw [eqD_tints]))
/-! formulas as trees, and their texts -/
mutual
inductive FA where
  | lt (c : Nat) | nam (w : List Nat) | non | br (x y : FE) | par (x : FE)
inductive FI where
  | pl (a : FA) | pw (a : FA) (n : Int)
inductive FE where
  | one (i : FI) | cons (i : FI) (r : FE)
end
mutual
def FA.toD : FA → D
  | .lt c => letD c
  | .nam w => namD w
  | .non => .tup [.str "none"]
  | .br x y => .tup [.str "bracket", .tup [.str "items", .tup x.toDs], .tup [.str "items", .tup y.toDs]]
  | .par x => .tup [.str "items", .tup x.toDs]
def FI.toD : FI → D
  | .pl a => a.toD
  | .pw a n => .tup [.str "power", a.toD, .int n]
def FE.toDs : FE → List D
  | .one i => [i.toD]
  | .cons i r => i.toD :: r.toDs
end
def FE.toD (x : FE) : D := .tup [.str "items", .tup x.toDs]
def numT (n : Int) : List Nat := if n < 0 then 45 :: TL.numL n.natAbs else TL.numL n.natAbs
mutual
def FA.tx : FA → List Nat
  | .lt c => [c]
  | .nam w => w
  | .non => [49]
  | .br x y => 91 :: (x.tx ++ (44 :: 32 :: (y.tx ++ [93])))
  | .par x => 40 :: (x.tx ++ [41])
def FI.tx : FI → List Nat
  | .pl a => a.tx
  | .pw a n => a.tx ++ 94 :: numT n
def FE.tx : FE → List Nat
  | .one i => i.tx
  | .cons i r => i.tx ++ 32 :: r.tx
end
mutual
def FA.dp : FA → Nat
  | .br x y => 1 + max x.dp y.dp
  | .par x => 1 + x.dp
  | _ => 0
def FI.dp : FI → Nat
  | .pl a => a.dp
  | .pw a _ => a.dp
def FE.dp : FE → Nat
  | .one i => i.dp
  | .cons i r => max i.dp r.dp
end
mutual
def FA.ok : FA → Prop
  | .lt c => isLet c = true
  | .nam w => 2 ≤ w.length ∧ w.length ≤ 8 ∧ ∀ c ∈ w, isSmall c = true
  | .non => True
  | .br x y => x.ok ∧ y.ok
  | .par x => x.ok
def FI.ok : FI → Prop
  | .pl a => a.ok
  | .pw a n => a.ok ∧ n.natAbs < 10 ^ 9
def FE.ok : FE → Prop
  | .one i => i.ok
  | .cons i r => i.ok ∧ r.ok
end
/-! what is read has the text that was read -/
theorem isFig_iff {c : Nat} : isFig c = true ↔ 48 ≤ c ∧ c ≤ 57 := by
  unfold isFig
  rw [Bool.and_eq_true, decide_eq_true_iff, decide_eq_true_iff]
theorem isSmall_iff {c : Nat} : isSmall c = true ↔ 97 ≤ c ∧ c ≤ 122 := by
  unfold isSmall
  rw [Bool.and_eq_true, decide_eq_true_iff, decide_eq_true_iff]
theorem isLet_iff {c : Nat} : isLet c = true ↔ 97 ≤ c ∧ c ≤ 100 := by
  unfold isLet
  rw [Bool.and_eq_true, decide_eq_true_iff, decide_eq_true_iff]
end Law

namespace Law
open PySem PySem.Spec PyProof.Rows L2 DL
local macro_rules | `(tactic| walk_at "w") => `(tactic| conv => whnf)
local macro_rules | `(tactic| walk_at "s") => `(tactic| (refine ⟨?_⟩; conv => whnf))
local macro_rules | `(tactic| walk_at "z") => `(tactic| (refine small ?_; simp only [List.length_map, List.length_append, List.length_reverse, List.length_cons, List.length_nil]; omega))
local macro_rules | `(tactic| walk_at "q") => `(tactic| (refine ⟨(okN_tints _).ok, (okN_tints _).ok, ?_⟩; rw [eqD_tints]))
/-! the text of a tree reads as the tree -/
def NoH (k : Nat → Bool) (r : List Nat) : Prop := amB k (r.take 1) = false
theorem noH_cons {k : Nat → Bool} {c : Nat} {r : List Nat} (h : k c = false) : NoH k (c :: r) := h
/-- behind an item -/
def Br (r : List Nat) : Prop := r = [] ∨ ∃ c r', r = c :: r' ∧ (c = 32 ∨ c = 44 ∨ c = 41 ∨ c = 93)
/-- behind a formula -/
def Ed (r : List Nat) : Prop := r = [] ∨ ∃ c r', r = c :: r' ∧ (c = 44 ∨ c = 41 ∨ c = 93)
theorem Ed.br {r : List Nat} (h : Ed r) : Br r := h.imp id fun ⟨c, r', e, h⟩ => ⟨c, r', e, .inr h⟩
theorem Br.noH {k : Nat → Bool} {r : List Nat} (h : Br r) (h1 : k 32 = false) (h2 : k 44 = false) (h3 : k 41 = false) (h4 : k 93 = false) : NoH k r := by
  rcases h with rfl | ⟨c, r', rfl, rfl | rfl | rfl | rfl⟩
  · rfl
  · exact h1
  · exact h2
  · exact h3
  · exact h4
theorem numL_head : ∀ {m : Nat}, 0 < m → ∃ c w, TL.numL m = c :: w ∧ 49 ≤ c := by
  intro m
  induction m using Nat.strongRecOn with
  | _ m ih =>
    intro h
    by_cases q : m < 10
    · exact ⟨48 + m, [], TL.numL_lt q, by omega⟩
    · obtain ⟨c, w, e, hc⟩ := ih (m / 10) (by omega) (by omega)
      exact ⟨c, w ++ [48 + m % 10], by rw [TL.numL_step (by omega), e]; rfl, hc⟩
theorem pFigs_cpl {sg : Int} (hs : sg = 1 ∨ sg = -1) {m : Nat} (hm : m < 10 ^ 9) (hn : sg = -1 → 0 < m) {r : List Nat} (hr : NoH isFig r) : pFigs sg (TL.numL m ++ r) = .ok (sg * (m : Nat)) r := by
  rcases Nat.eq_zero_or_pos m with e | e
  · subst e
    rw [TL.numL_lt (by decide)]
    have : sg = 1 := by
      rcases hs with h | h
      · exact h
      · exact absurd (hn h) (by decide)
    subst this
    rfl
  · obtain ⟨c, w, e2, hc⟩ := numL_head e
    have ad := TL.numL_digits m
    have nl := TL.numL_len (n := m) (k := 9) (by decide) hm
    have nv := TL.numL_val m
    rw [e2] at ad nl nv ⊢
    have hc2 := ad c List.mem_cons_self
    have hw : ∀ d ∈ w, isFig d = true := fun d hd => isFig_iff.mpr (ad d (List.mem_cons_of_mem _ hd))
    rw [List.length_cons] at nl
    rw [List.cons_append]
    show (if isFig c = false ∨ (sg < 0 ∧ c = 48) then PR.st (c :: (w ++ r)) else if c = 48 then .ok 0 (w ++ r) else .ok (sg * (figV (c :: takeK isFig 8 (w ++ r)) : Nat)) ((w ++ r).drop (takeK isFig 8 (w ++ r)).length)) = _
    have hf : isFig c = true := isFig_iff.mpr hc2
    rw [if_neg (by rintro (h | ⟨_, h⟩); · rw [hf] at h; cases h
                   · omega), if_neg (by omega), takeK_of isFig 8 w r hw (by omega) (.inr hr), List.drop_left]
    unfold figV
    rw [nv]
theorem pNum_cpl {n : Int} (hn : n.natAbs < 10 ^ 9) {r : List Nat} (hr : NoH isFig r) : pNum (numT n ++ r) = .ok n r := by
  unfold numT
  by_cases h : n < 0
  · rw [if_pos h, List.cons_append]
    show (if 45 = 45 then pFigs (-1) (TL.numL n.natAbs ++ r) else pFigs 1 (45 :: (TL.numL n.natAbs ++ r))) = _
    rw [if_pos rfl, pFigs_cpl (.inr rfl) hn (fun _ => by omega) hr]
    congr 1
    omega
  · rw [if_neg h]
    have hh : ∃ c w, TL.numL n.natAbs = c :: w ∧ c ≠ 45 := by
      cases e : TL.numL n.natAbs with
      | nil => exact absurd e (TL.numL_ne _)
      | cons c w => exact ⟨c, w, rfl, fun z => by have := TL.numL_digits n.natAbs c (by rw [e]; exact List.mem_cons_self); omega⟩
    obtain ⟨c, w, e, hc⟩ := hh
    have e3 : pNum (TL.numL n.natAbs ++ r) = pFigs 1 (TL.numL n.natAbs ++ r) := by
      rw [e, List.cons_append]
      show (if c = 45 then _ else _) = _
      rw [if_neg hc]
    rw [e3, pFigs_cpl (.inl rfl) hn (fun z => by cases z) hr]
    congr 1
    omega
theorem pLetters_nam {w : List Nat} (h1 : 2 ≤ w.length) (h2 : w.length ≤ 8) (h3 : ∀ c ∈ w, isSmall c = true) {r : List Nat} (hr : w.length = 8 ∨ NoH isSmall r) : pLetters (w ++ r) = .ok (namD w) r := by
  unfold pLetters
  rw [takeK_of isSmall 8 w r h3 h2 hr, if_pos h1, List.drop_left]
theorem pLetters_one {c : Nat} (h3 : isSmall c = true) {r : List Nat} (hr : NoH isSmall r) : pLetters (c :: r) = if c ≤ 100 then .ok (letD c) r else .st r := by
  have : takeK isSmall 8 ([c] ++ r) = [c] := takeK_of isSmall 8 [c] r (fun d hd => by rw [List.mem_singleton.mp hd]; exact h3) (by simp) (.inr hr)
  unfold pLetters
  have e : takeK isSmall 8 (c :: r) = [c] := this
  rw [e, if_neg (by simp)]
  show (if isSmall c then _ else _) = _
  rw [if_pos h3]
theorem pAtom_small {sub : Option (List Nat → PR D)} {c : Nat} (h : isSmall c = true) (r : List Nat) : pAtom sub (c :: r) = pLetters (c :: r) := by
  have := isSmall_iff.mp h
  unfold pAtom
  simp only [if_neg (show ¬ c = 49 by omega), if_neg (show ¬ c = 91 by omega), if_neg (show ¬ c = 40 by omega)]
theorem bind_k {α β : Type} (x : α) (r : List Nat) (f : α → List Nat → PR β) : (PR.ok x r).bind f = f x r := rfl
theorem pAtom_br {f : List Nat → PR D} (r1 : List Nat) : pAtom (some f) (91 :: r1) = (f r1).bind fun x r2 => (pTake 44 r2).bind fun _ r3 => (pTake 32 r3).bind fun _ r4 => (f r4).bind fun y r5 => (pTake 93 r5).bind fun _ r6 => .ok (.tup [.str "bracket", x, y]) r6 := rfl
theorem pAtom_par {f : List Nat → PR D} (r1 : List Nat) : pAtom (some f) (40 :: r1) = (f r1).bind fun x r2 => (pTake 41 r2).bind fun _ r3 => .ok x r3 := rfl
/-- the fuel of pMany is no matter -/
theorem pMany_fuel {it : List Nat → PR D} (hi : ∀ r d r', it r = .ok d r' → r'.length ≤ r.length) : ∀ (k k' : Nat) {acc : List D} {r : List Nat}, r.length < k → r.length < k' → pMany it k acc r = pMany it k' acc r
  | 0, _, _, _, h, _ => by omega
  | _ + 1, 0, _, _, _, h => by omega
  | k + 1, k' + 1, acc, [], _, _ => rfl
  | k + 1, k' + 1, acc, c :: r, h, h' => by
    rw [List.length_cons] at h h'
    by_cases e : c = 32
    · subst e
      rw [pMany_go, pMany_go]
      cases e2 : it r with
      | st r2 => rfl
      | ok d r2 =>
        have := hi _ _ _ e2
        exact pMany_fuel hi k k' (by omega) (by omega)
    · rw [pMany_stop (fun z => e (by cases z; rfl)), pMany_stop (fun z => e (by cases z; rfl))]
def pM (it : List Nat → PR D) (acc : List D) (r : List Nat) : PR (List D) := pMany it (r.length + 1) acc r
theorem pM_stop {it : List Nat → PR D} {acc : List D} {r : List Nat} (h : r.take 1 ≠ [32]) : pM it acc r = .ok acc r := pMany_stop h
theorem pM_go {it : List Nat → PR D} (hi : ∀ r d r', it r = .ok d r' → r'.length ≤ r.length) {acc : List D} {r : List Nat} : pM it acc (32 :: r) = (it r).bind fun d r2 => pM it (acc ++ [d]) r2 := by
  unfold pM
  rw [pMany_go]
  cases e2 : it r with
  | st r2 => rfl
  | ok d r2 =>
    have := hi _ _ _ e2
    exact pMany_fuel hi _ _ (by rw [List.length_cons]; omega) (by omega)
theorem pItems_eq (it : List Nat → PR D) (r : List Nat) : pItems it r = (it r).bind fun d r1 => (pM it [d] r1).bind fun ds r2 => .ok (.tup [.str "items", .tup ds]) r2 := rfl
theorem it_len (b : Nat) : ∀ r d r', pItem (subP b) r = .ok d r' → r'.length ≤ r.length := fun _ _ _ h => pItem_len (les_sub b) h
theorem Ed.take {r : List Nat} (h : Ed r) : r.take 1 ≠ [32] := by
  rcases h with rfl | ⟨c, r', rfl, h⟩
  · decide
  · intro e
    have : c = 32 := by cases e; rfl
    omega
mutual
theorem FA.cpl : ∀ (a : FA) {b : Nat}, a.ok → a.dp ≤ b → ∀ {r : List Nat}, NoH isSmall r → pAtom (subP b) (a.tx ++ r) = .ok a.toD r
  | .lt c, b, ho, _, r, hr => by
    have h := isLet_iff.mp ho
    have hs : isSmall c = true := isSmall_iff.mpr (by omega)
    show pAtom _ (c :: r) = _
    rw [pAtom_small hs, pLetters_one hs hr, if_pos h.2]
    rfl
  | .nam w, b, ho, _, r, hr => by
    obtain ⟨h1, h2, h3⟩ := ho
    show pAtom _ (w ++ r) = _
    match w, h1, h2, h3 with
    | c :: w, h1, h2, h3 =>
      rw [List.cons_append, pAtom_small (h3 c List.mem_cons_self), ← List.cons_append, pLetters_nam h1 h2 h3 (.inr hr)]
      rfl
  | .non, b, _, _, r, _ => rfl
  | .br x y, b, ho, hd, r, _ => by
    obtain ⟨b, rfl⟩ : ∃ b', b = b' + 1 := ⟨b - 1, by have : 1 + max x.dp y.dp ≤ b := hd; omega⟩
    have hd' : 1 + max x.dp y.dp ≤ b + 1 := hd
    show pAtom (some (pE b)) (91 :: (x.tx ++ (44 :: 32 :: (y.tx ++ [93]))) ++ r) = _
    rw [List.cons_append, List.append_assoc, pAtom_br, x.cpl ho.1 (by omega) (r := 44 :: 32 :: (y.tx ++ [93]) ++ r) (.inr ⟨44, _, rfl, .inl rfl⟩)]
    simp only [bind_k, List.cons_append, pTake_eq]
    rw [List.append_assoc, y.cpl ho.2 (by omega) (r := [93] ++ r) (.inr ⟨93, _, rfl, .inr (.inr rfl)⟩)]
    simp only [bind_k, List.cons_append, List.nil_append, pTake_eq]
    rfl
  | .par x, b, ho, hd, r, _ => by
    obtain ⟨b, rfl⟩ : ∃ b', b = b' + 1 := ⟨b - 1, by have : 1 + x.dp ≤ b := hd; omega⟩
    have hd' : 1 + x.dp ≤ b + 1 := hd
    show pAtom (some (pE b)) (40 :: (x.tx ++ [41]) ++ r) = _
    rw [List.cons_append, List.append_assoc, pAtom_par, x.cpl ho (by omega) (r := [41] ++ r) (.inr ⟨41, _, rfl, .inr (.inl rfl)⟩)]
    simp only [bind_k, List.cons_append, List.nil_append, pTake_eq]
    rfl
theorem FI.cpl : ∀ (i : FI) {b : Nat}, i.ok → i.dp ≤ b → ∀ {r : List Nat}, Br r → pItem (subP b) (i.tx ++ r) = .ok i.toD r
  | .pl a, b, ho, hd, r, hr => by
    show (pAtom (subP b) (a.tx ++ r)).bind _ = _
    rw [a.cpl ho hd (hr.noH rfl rfl rfl rfl)]
    rcases hr with rfl | ⟨c, r', rfl, hc⟩
    · rfl
    · show (if c = 94 then _ else _) = _
      rw [if_neg (by omega)]
      rfl
  | .pw a n, b, ho, hd, r, hr => by
    show (pAtom (subP b) (a.tx ++ 94 :: numT n ++ r)).bind _ = _
    rw [List.append_assoc, List.cons_append, a.cpl ho.1 hd (noH_cons rfl)]
    show (if 94 = 94 then (pNum (numT n ++ r)).bind (fun n r3 => PR.ok (.tup [.str "power", a.toD, .int n]) r3) else PR.ok a.toD (94 :: (numT n ++ r))) = _
    rw [if_pos rfl, pNum_cpl ho.2 (hr.noH rfl rfl rfl rfl)]
    rfl
theorem FE.cpl : ∀ (x : FE) {b : Nat}, x.ok → x.dp ≤ b → ∀ {r : List Nat}, Ed r → pE b (x.tx ++ r) = .ok x.toD r
  | .one i, b, ho, hd, r, hr => by
    rw [pE_sub, pItems_eq]
    show (pItem (subP b) (i.tx ++ r)).bind _ = _
    rw [i.cpl ho hd hr.br]
    show (pM _ _ r).bind _ = _
    rw [pM_stop hr.take]
    rfl
  | .cons i x, b, ho, hd, r, hr => by
    have hd' : max i.dp x.dp ≤ b := hd
    rw [pE_sub, pItems_eq]
    show (pItem (subP b) (i.tx ++ 32 :: x.tx ++ r)).bind _ = _
    rw [List.append_assoc, List.cons_append, i.cpl ho.1 (by omega) (.inr ⟨32, _, rfl, .inl rfl⟩)]
    show (pM _ _ (32 :: (x.tx ++ r))).bind _ = _
    rw [x.cplM ho.2 (by omega) hr]
    rfl
theorem FE.cplM : ∀ (x : FE) {b : Nat}, x.ok → x.dp ≤ b → ∀ {r : List Nat}, Ed r → ∀ {acc : List D}, pM (pItem (subP b)) acc (32 :: (x.tx ++ r)) = .ok (acc ++ x.toDs) r
  | .one i, b, ho, hd, r, hr, acc => by
    rw [pM_go (it_len b)]
    show (pItem (subP b) (i.tx ++ r)).bind _ = _
    rw [i.cpl ho hd hr.br]
    show pM _ _ r = _
    rw [pM_stop hr.take]
    rfl
  | .cons i x, b, ho, hd, r, hr, acc => by
    have hd' : max i.dp x.dp ≤ b := hd
    rw [pM_go (it_len b)]
    show (pItem (subP b) (i.tx ++ 32 :: x.tx ++ r)).bind _ = _
    rw [List.append_assoc, List.cons_append, i.cpl ho.1 (by omega) (.inr ⟨32, _, rfl, .inl rfl⟩)]
    show pM _ _ (32 :: (x.tx ++ r)) = _
    rw [x.cplM ho.2 (by omega) hr, FE.toDs]
    simp
end
theorem pTree_cpl (x : FE) (ho : x.ok) (hd : x.dp ≤ 20) : pTree x.tx = .ok x.toD [] := by
  unfold pTree
  have := x.cpl ho hd (r := []) (.inl rfl)
  rw [List.append_nil] at this
  rw [this]
  rfl

end Law

namespace Law
open PySem PySem.Spec PyProof.Rows L2 DL
local macro_rules | `(tactic| walk_at "w") => `(tactic| conv => whnf)
local macro_rules | `(tactic| walk_at "s") => `(tactic| (refine ⟨?_⟩; conv => whnf))
local macro_rules | `(tactic| walk_at "z") => `(tactic| (refine small ?_; simp only [List.length_map, List.length_append, List.length_reverse, List.length_cons, List.length_nil]; omega))
local macro_rules | `(tactic| walk_at "q") => `(tactic| (refine ⟨(okN_tints _).ok, (okN_tints _).ok, ?_⟩; rw [eqD_tints]))
/-! tree_text -/
theorem str_num (n : Int) : (Str.ofString (toString n)) = Sx (numT n) := by
  have e : TL.tl (Str.ofString (toString n)) = numT n := by
    cases n with
    | ofNat m => exact TL.tl_num m
    | negSucc m =>
      have h1 := TL.tl_num (m + 1)
      rw [TL.tl_ofString] at h1 ⊢
      have e2 : toString (Int.negSucc m) = "-" ++ toString (m + 1) := rfl
      rw [e2, String.toList_append, List.map_append]
      have e3 : toString ((m + 1 : Nat) : Int) = toString (m + 1) := rfl
      rw [e3] at h1
      rw [h1, show ("-".toList).map Char.toNat = [45] from by decide +kernel]
      unfold numT
      rw [if_pos (Int.negSucc_lt_zero m)]
      rfl
  rw [← TL.mk_tl (Str.ofString (toString n)), e]
theorem txJ (s : List Nat) (ys : List (List Nat)) : Txt.join (Sx s) (ys.map Sx) = Sx (TL.joinL s ys) := by
  have e : TL.tl (Txt.join (Sx s) (ys.map Sx)) = TL.joinL s ys := by
    rw [TL.join_eq, TL.tl_join, TL.tl_mk, List.map_map, show TL.tl ∘ Sx = id from funext fun l => TL.tl_mk l, List.map_id]
  rw [← TL.mk_tl (Txt.join (Sx s) (ys.map Sx)), e]
def FE.parts : FE → List (List Nat)
  | .one i => [i.tx]
  | .cons i r => i.tx :: r.parts
theorem FE.parts_ne (x : FE) : ∃ y ys, x.parts = y :: ys := by cases x <;> exact ⟨_, _, rfl⟩
theorem joinL_two (s y z : List Nat) (zs : List (List Nat)) : TL.joinL s (y :: z :: zs) = y ++ (s ++ TL.joinL s (z :: zs)) := TL.joinL.eq_3 s y z zs
theorem FE.join : ∀ x : FE, TL.joinL [32] x.parts = x.tx
  | .one i => TL.joinL.eq_2 _ _
  | .cons i r => by
    obtain ⟨y, ys, e⟩ := r.parts_ne
    have ih := r.join
    rw [e] at ih
    show TL.joinL [32] (i.tx :: r.parts) = i.tx ++ 32 :: r.tx
    rw [e, joinL_two, ih]
    rfl
theorem txts_S (ys : List (List Nat)) : txts (ys.map fun w => D.str (Sx w)) = some (ys.map Sx) := by
  have := txts_map (ys.map Sx)
  rw [List.map_map] at this
  exact this
theorem parts_len : ∀ x : FE, (x.parts.map List.length).sum + x.parts.length ≤ x.tx.length + 1
  | .one i => by simp [FE.parts, FE.tx]
  | .cons i r => by
    have := parts_len r
    simp only [FE.parts, FE.tx, List.map_cons, List.sum_cons, List.length_cons, List.length_append]
    omega
theorem lit_ok (x : Str) (h : PyData.strOk x = true) : okD (.str x) := (okN_str h).ok
theorem let_sign {c : Nat} (h : isLet c = true) : ∃ k : Nat, ((c - 96 : Nat) : Int) - 1 = (k : Nat) ∧ ("abcd" : Str).cps.toList[k]? = some c := by
  have := isLet_iff.mp h
  refine ⟨c - 97, by omega, ?_⟩
  have e : ("abcd" : Str).cps.toList = [97, 98, 99, 100] := rfl
  rw [e]
  have : c = 97 ∨ c = 98 ∨ c = 99 ∨ c = 100 := by omega
  rcases this with rfl | rfl | rfl | rfl <;> rfl
theorem FA.first (a : FA) : ∃ (w : Str) (r : List D), a.toD = .tup (.str w :: r) ∧ PyData.strOk w = true ∧ eqD (.str w) (.str "power") = false := by
  cases a with
  | lt c => exact ⟨_, _, rfl, by decide +kernel, by decide +kernel⟩
  | nam w => exact ⟨_, _, rfl, by decide +kernel, by decide +kernel⟩
  | non => exact ⟨_, _, rfl, by decide +kernel, by decide +kernel⟩
  | br x y => exact ⟨_, _, rfl, by decide +kernel, by decide +kernel⟩
  | par x => exact ⟨_, _, rfl, by decide +kernel, by decide +kernel⟩
theorem pw_eq {w : Str} (h : eqD (.str w) (.str "power") = false) (hw : PyData.strOk w = true) {P : Bool → Prop} (p : P false) : okD (.str w) ∧ okD (.str "power") ∧ P (eqD (.str w) (.str "power")) := ⟨lit_ok _ hw, lit_ok _ (by decide +kernel), by rw [h]; exact p⟩
theorem wd_eq (x y : Str) (b : Bool) (h : eqD (.str x) (.str y) = b) (hx : PyData.strOk x = true) (hy : PyData.strOk y = true) {P : Bool → Prop} (p : P b) : okD (.str x) ∧ okD (.str y) ∧ P (eqD (.str x) (.str y)) := ⟨lit_ok _ hx, lit_ok _ hy, by rw [h]; exact p⟩
theorem toDs_len : ∀ x : FE, x.toDs.length = x.parts.length
  | .one i => rfl
  | .cons i r => congrArg Nat.succ (toDs_len r)
theorem lenSx {a b : List Nat} (h : a.length + b.length ≤ 100000) : (Sx a).length + (Sx b).length ≤ sizeLine := by rw [Sx_len, Sx_len]; exact small h
theorem log9 {n : Int} (h : n.natAbs < 10 ^ 9) : n.natAbs.log2 < 1920 := by
  by_cases z : n.natAbs = 0
  · rw [z]; decide
  · exact Nat.lt_of_lt_of_le ((Nat.log2_lt z).mpr (Nat.lt_trans h (show 10 ^ 9 < 2 ^ 60 by decide))) (by decide)
mutual
theorem FA.tw : ∀ (a : FA) {m : Nat}, a.ok → a.tx.length ≤ 100000 → 3 * a.dp + 1 ≤ m → ∀ {l : LH} {Q : DK}, Q (.str (Sx a.tx)) l → callD (D_atom_text m) [a.toD] l Q
  | .lt c, m, ho, hl, hm, l, Q, q => by
    obtain ⟨m, rfl⟩ : ∃ m', m = m' + 1 := ⟨m - 1, by omega⟩
    refine ⟨rfl, ?_⟩
    walk_at "w"
    refine ⟨_, rfl, ?_⟩
    refine ⟨?_⟩
    walk_at "w"
    refine wd_eq "letter" "letter" true (by decide +kernel) (by decide +kernel) (by decide +kernel) (P := fun b => ifB b _ _) (ifB_true ?_)
    walk_at "w"
    refine ⟨_, rfl, ?_⟩
    obtain ⟨k, e1, e2⟩ := let_sign ho
    refine ⟨small (by decide), c, ?_, q⟩
    rw [e1]
    exact atI_nat e2
  | .nam w, m, ho, hl, hm, l, Q, q => by
    obtain ⟨m, rfl⟩ : ∃ m', m = m' + 1 := ⟨m - 1, by omega⟩
    refine ⟨rfl, ?_⟩
    walk_at "w"
    refine ⟨_, rfl, ?_⟩
    refine ⟨?_⟩
    walk_at "w"
    refine wd_eq "name" "letter" false (by decide +kernel) (by decide +kernel) (by decide +kernel) (P := fun b => ifB b _ _) (ifB_false ?_)
    refine ⟨?_⟩
    walk_at "w"
    refine wd_eq "name" "name" true (by decide +kernel) (by decide +kernel) (by decide +kernel) (P := fun b => ifB b _ _) (ifB_true ?_)
    walk_at "w"
    exact ⟨_, rfl, q⟩
  | .non, m, ho, hl, hm, l, Q, q => by
    obtain ⟨m, rfl⟩ : ∃ m', m = m' + 1 := ⟨m - 1, by omega⟩
    refine ⟨rfl, ?_⟩
    walk_at "w"
    refine ⟨_, rfl, ?_⟩
    refine ⟨?_⟩
    walk_at "w"
    refine wd_eq "none" "letter" false (by decide +kernel) (by decide +kernel) (by decide +kernel) (P := fun b => ifB b _ _) (ifB_false ?_)
    refine ⟨?_⟩
    walk_at "w"
    refine wd_eq "none" "name" false (by decide +kernel) (by decide +kernel) (by decide +kernel) (P := fun b => ifB b _ _) (ifB_false ?_)
    refine ⟨?_⟩
    walk_at "w"
    refine wd_eq "none" "none" true (by decide +kernel) (by decide +kernel) (by decide +kernel) (P := fun b => ifB b _ _) (ifB_true ?_)
    exact q
  | .br x y, m, ho, hl, hm, l, Q, q => by
    obtain ⟨m, rfl⟩ : ∃ m', m = m' + 1 := ⟨m - 1, by omega⟩
    have hm' : 3 * (1 + max x.dp y.dp) + 1 ≤ m + 1 := hm
    have e0 : (FA.br x y).tx = 91 :: (x.tx ++ (44 :: 32 :: (y.tx ++ [93]))) := rfl
    rw [e0] at hl q
    rw [List.length_cons, List.length_append, List.length_cons, List.length_cons, List.length_append, List.length_singleton] at hl
    refine ⟨rfl, ?_⟩
    walk_at "w"
    refine ⟨_, rfl, ?_⟩
    refine ⟨?_⟩
    walk_at "w"
    refine wd_eq "bracket" "letter" false (by decide +kernel) (by decide +kernel) (by decide +kernel) (P := fun b => ifB b _ _) (ifB_false ?_)
    refine ⟨?_⟩
    walk_at "w"
    refine wd_eq "bracket" "name" false (by decide +kernel) (by decide +kernel) (by decide +kernel) (P := fun b => ifB b _ _) (ifB_false ?_)
    refine ⟨?_⟩
    walk_at "w"
    refine wd_eq "bracket" "none" false (by decide +kernel) (by decide +kernel) (by decide +kernel) (P := fun b => ifB b _ _) (ifB_false ?_)
    refine ⟨?_⟩
    walk_at "w"
    refine wd_eq "bracket" "bracket" true (by decide +kernel) (by decide +kernel) (by decide +kernel) (P := fun b => ifB b _ _) (ifB_true ?_)
    walk_at "w"
    refine ⟨_, rfl, ?_⟩
    refine x.tw ho.1 (by omega) (by omega) ?_
    walk_at "w"
    refine ⟨lenSx (a := [91]) (by rw [List.length_singleton]; omega), ?_⟩
    walk_at "w"
    refine ⟨by rw [show (Str.ofString "[" ++ Sx x.tx) = Sx ([91] ++ x.tx) from Sx_app [91] x.tx]; exact lenSx (b := [44, 32]) (by rw [List.length_append, List.length_singleton, List.length_cons, List.length_singleton]; omega), ?_⟩
    walk_at "w"
    refine ⟨_, rfl, ?_⟩
    refine y.tw ho.2 (by omega) (by omega) ?_
    walk_at "w"
    rw [show (Str.ofString "[" ++ Sx x.tx ++ Str.ofString ", ") = Sx ([91] ++ x.tx ++ [44, 32]) from (congrArg (· ++ Sx [44, 32]) (Sx_app [91] x.tx)).trans (Sx_app _ _)]
    refine ⟨lenSx (by simp only [List.length_append, List.length_singleton, List.length_cons, List.length_nil]; omega), ?_⟩
    rw [Sx_app]
    walk_at "w"
    refine ⟨lenSx (b := [93]) (by simp only [List.length_append, List.length_singleton, List.length_cons, List.length_nil]; omega), ?_⟩
    walk_at "w"
    rw [show (Sx ([91] ++ x.tx ++ [44, 32] ++ y.tx) ++ Str.ofString "]") = Sx (91 :: (x.tx ++ (44 :: 32 :: (y.tx ++ [93])))) from (Sx_app _ [93]).trans (by simp)]
    exact q
  | .par x, m, ho, hl, hm, l, Q, q => by
    obtain ⟨m, rfl⟩ : ∃ m', m = m' + 1 := ⟨m - 1, by omega⟩
    have hm' : 3 * (1 + x.dp) + 1 ≤ m + 1 := hm
    have e0 : (FA.par x).tx = 40 :: (x.tx ++ [41]) := rfl
    rw [e0] at hl q
    rw [List.length_cons, List.length_append, List.length_singleton] at hl
    refine ⟨rfl, ?_⟩
    walk_at "w"
    refine ⟨_, rfl, ?_⟩
    refine ⟨?_⟩
    walk_at "w"
    refine wd_eq "items" "letter" false (by decide +kernel) (by decide +kernel) (by decide +kernel) (P := fun b => ifB b _ _) (ifB_false ?_)
    refine ⟨?_⟩
    walk_at "w"
    refine wd_eq "items" "name" false (by decide +kernel) (by decide +kernel) (by decide +kernel) (P := fun b => ifB b _ _) (ifB_false ?_)
    refine ⟨?_⟩
    walk_at "w"
    refine wd_eq "items" "none" false (by decide +kernel) (by decide +kernel) (by decide +kernel) (P := fun b => ifB b _ _) (ifB_false ?_)
    refine ⟨?_⟩
    walk_at "w"
    refine wd_eq "items" "bracket" false (by decide +kernel) (by decide +kernel) (by decide +kernel) (P := fun b => ifB b _ _) (ifB_false ?_)
    refine ⟨?_⟩
    walk_at "w"
    refine x.tw ho (by omega) (by omega) ?_
    walk_at "w"
    refine ⟨lenSx (a := [40]) (by rw [List.length_singleton]; omega), ?_⟩
    walk_at "w"
    rw [show (Str.ofString "(" ++ Sx x.tx) = Sx ([40] ++ x.tx) from Sx_app [40] x.tx]
    refine ⟨lenSx (b := [41]) (by simp only [List.length_append, List.length_singleton]; omega), ?_⟩
    walk_at "w"
    rw [show (Sx ([40] ++ x.tx) ++ Str.ofString ")") = Sx (40 :: (x.tx ++ [41])) from (Sx_app _ [41]).trans (by simp)]
    exact q
theorem FI.tw : ∀ (i : FI) {m : Nat}, i.ok → i.tx.length ≤ 100000 → 3 * i.dp + 2 ≤ m → ∀ {l : LH} {Q : DK}, Q (.str (Sx i.tx)) l → callD (D_item_text m) [i.toD] l Q
  | .pl a, m, ho, hl, hm, l, Q, q => by
    obtain ⟨m, rfl⟩ : ∃ m', m = m' + 1 := ⟨m - 1, by omega⟩
    have hm' : 3 * a.dp + 2 ≤ m + 1 := hm
    obtain ⟨w, r, e, hw, hp⟩ := a.first
    show callD (D_item_text (m + 1)) [a.toD] l Q
    have go := a.tw (m := m) ho hl (by omega) (l := l) (Q := Q) q
    rw [e] at go ⊢
    refine ⟨rfl, ?_⟩
    walk_at "w"
    refine ⟨.str w, show atI (.str w :: r) ((0 : Nat) : Int) = some (.str w) from atI_nat rfl, ?_⟩
    refine pw_eq hp hw (P := fun b => ifB b _ _) (ifB_false ?_)
    refine ⟨?_⟩
    walk_at "w"
    exact go
  | .pw a n, m, ho, hl, hm, l, Q, q => by
    obtain ⟨m, rfl⟩ : ∃ m', m = m' + 1 := ⟨m - 1, by omega⟩
    have hm' : 3 * a.dp + 2 ≤ m + 1 := hm
    have e0 : (FI.pw a n).tx = a.tx ++ 94 :: numT n := rfl
    rw [e0] at hl q
    rw [List.length_append, List.length_cons] at hl
    refine ⟨rfl, ?_⟩
    walk_at "w"
    refine ⟨_, rfl, ?_⟩
    refine wd_eq "power" "power" true (by decide +kernel) (by decide +kernel) (by decide +kernel) (P := fun b => ifB b _ _) (ifB_true ?_)
    walk_at "w"
    refine ⟨_, rfl, ?_⟩
    refine a.tw ho.1 (by omega) (by omega) ?_
    walk_at "w"
    refine ⟨lenSx (b := [94]) (by rw [List.length_singleton]; omega), ?_⟩
    rw [show (Sx a.tx ++ Str.ofString "^") = Sx (a.tx ++ [94]) from Sx_app a.tx [94]]
    walk_at "w"
    refine ⟨_, rfl, ?_⟩
    walk_at "w"
    refine ⟨log9 ho.2, ?_⟩
    walk_at "w"
    rw [str_num]
    refine ⟨lenSx (by simp only [List.length_append, List.length_singleton]; omega), ?_⟩
    walk_at "w"
    rw [Sx_app, show a.tx ++ [94] ++ numT n = a.tx ++ 94 :: numT n by simp]
    exact q
theorem FE.tw : ∀ (x : FE) {m : Nat}, x.ok → x.tx.length ≤ 100000 → 3 * x.dp + 3 ≤ m → ∀ {l : LH} {Q : DK}, Q (.str (Sx x.tx)) l → callD (D_tree_text m) [x.toD] l Q
  | x, m, ho, hl, hm, l, Q, q => by
    obtain ⟨m, rfl⟩ : ∃ m', m = m' + 1 := ⟨m - 1, by omega⟩
    refine ⟨rfl, ?_⟩
    walk_at "w"
    refine ⟨_, rfl, ?_⟩
    walk_at "w"
    have hp := parts_len x
    refine ⟨Nat.le_trans (show _ ≤ 200000 by rw [toDs_len]; omega) (by decide), ?_⟩
    refine x.comp ho hl (by omega) ?_
    walk_at "w"
    refine ⟨_, txts_S _, ?_, ?_⟩
    · rw [List.map_map, show (fun x => Str.length x) ∘ Sx = List.length from funext fun w => Sx_len w, List.length_map]
      have : (" " : Str).length = 1 := rfl
      rw [this]
      omega
    · rw [show (Str.ofString " ") = Sx [32] from rfl, txJ, x.join]
      exact q
theorem FE.comp : ∀ (x : FE) {m : Nat}, x.ok → x.tx.length ≤ 100000 → 3 * x.dp + 2 ≤ m → ∀ {d0 : D} {l : LH} {Q : List D → LH → Prop}, Q (x.parts.map fun w => .str (Sx w)) l → compL (gName 1) tYes (nE (C_tree_text_1 (G_atom_text m).fst (G_atom_text m).snd.fst (G_atom_text m).snd.snd)) [1] x.toDs (List.map some [d0] ++ List.replicate 1 none) l Q
  | .one i, m, ho, hl, hm, d0, l, Q, q => by
    show compL _ _ _ _ [i.toD] _ _ _
    walk_at "w"
    refine ifB_true ?_
    refine ⟨?_⟩
    walk_at "w"
    exact i.tw ho hl hm q
  | .cons i x, m, ho, hl, hm, d0, l, Q, q => by
    have e0 : (FE.cons i x).tx = i.tx ++ 32 :: x.tx := rfl
    rw [e0, List.length_append, List.length_cons] at hl
    have hm' : 3 * max i.dp x.dp + 2 ≤ m := hm
    show compL _ _ _ _ (i.toD :: x.toDs) _ _ _
    walk_at "w"
    refine ifB_true ?_
    refine ⟨?_⟩
    walk_at "w"
    refine i.tw ho.1 (by omega) (by omega) ?_
    exact x.comp ho.2 (by omega) (by omega) q
end
/-! words that are alike; no items -/
theorem wq {x y : Str} {P : Bool → Prop} (b : Bool) (h : eqD (.str x) (.str y) = b) (hx : PyData.strOk x = true) (hy : PyData.strOk y = true) (p : P b) : okD (.str x) ∧ okD (.str y) ∧ P (eqD (.str x) (.str y)) := ⟨lit_ok _ hx, lit_ok _ hy, by rw [h]; exact p⟩
theorem lst_nil (ds : List D) : eqD (.lst ds) (.lst []) = ds.isEmpty := by
  cases ds with
  | nil => decide +kernel
  | cons d ds =>
    show PyData.eqv (toPy (.lst (d :: ds))) (toPy (.lst [])) = false
    rw [toPy, toPy, PyData.eqv]
    rfl
theorem ixN_last (n : Nat) : ixN (n + 1) (-1) = some n := by
  unfold ixN
  rw [if_neg (by decide), if_pos (by omega)]
  congr 1
  omega
theorem atI_last (xs : List D) (d : D) : atI (xs ++ [d]) (-1) = some d := by
  unfold atI
  rw [List.length_append, List.length_singleton, ixN_last]
  show (xs ++ [d])[xs.length]? = some d
  rw [List.getElem?_append_right (Nat.le_refl _), Nat.sub_self]
  rfl
/-! the law's own texts of trees -/
theorem getA_hd {k : Key} {ks : List Key} {d : D} {ds : List D} : getA (k :: ks) (d :: ds) k = some d := if_pos rfl
theorem getA_tl {k q : Key} {ks : List Key} {d : D} {ds : List D} (h : k ≠ q) : getA (k :: ks) (d :: ds) q = getA ks ds q := if_neg h
theorem dL_new {l : LH} {b : Addr} {o : DO} (nb : l b = none) : dL (uL l b o) b = l := by
  funext y
  unfold dL
  by_cases h : y = b
  · rw [if_pos h, h, nb]
  · rw [if_neg h, uL_ne h]
mutual
theorem FA.lw : ∀ (a : FA) {m : Nat}, a.ok → a.tx.length ≤ 100000 → 3 * a.dp + 1 ≤ m → ∀ {l : LH} {Q : DK}, Q (.str (Sx a.tx)) l → callD (D__law_item_text m) [a.toD] l Q
  | .lt c, m, ho, hl, hm, l, Q, q => by
    obtain ⟨m, rfl⟩ : ∃ m', m = m' + 1 := ⟨m - 1, by omega⟩
    refine ⟨rfl, ?_⟩
    walk_at "w"
    refine ⟨_, rfl, ?_⟩
    refine wq false (by decide +kernel) (by decide +kernel) (by decide +kernel) (P := fun b => ifB b _ _) (ifB_false ?_)
    refine ⟨?_⟩
    walk_at "w"
    refine ⟨_, rfl, ?_⟩
    refine wq true (by decide +kernel) (by decide +kernel) (by decide +kernel) (P := fun b => ifB b _ _) (ifB_true ?_)
    walk_at "w"
    refine ⟨_, rfl, ?_⟩
    obtain ⟨k, e1, e2⟩ := let_sign ho
    refine ⟨small (by decide), c, ?_, q⟩
    rw [e1]
    exact atI_nat e2
  | .nam w, m, ho, hl, hm, l, Q, q => by
    obtain ⟨m, rfl⟩ : ∃ m', m = m' + 1 := ⟨m - 1, by omega⟩
    refine ⟨rfl, ?_⟩
    walk_at "w"
    refine ⟨_, rfl, ?_⟩
    refine wq false (by decide +kernel) (by decide +kernel) (by decide +kernel) (P := fun b => ifB b _ _) (ifB_false ?_)
    refine ⟨?_⟩
    walk_at "w"
    refine ⟨_, rfl, ?_⟩
    refine wq false (by decide +kernel) (by decide +kernel) (by decide +kernel) (P := fun b => ifB b _ _) (ifB_false ?_)
    refine ⟨?_⟩
    walk_at "w"
    refine ⟨_, rfl, ?_⟩
    refine wq false (by decide +kernel) (by decide +kernel) (by decide +kernel) (P := fun b => ifB b _ _) (ifB_false ?_)
    refine ⟨?_⟩
    walk_at "w"
    refine ⟨_, rfl, ?_⟩
    refine wq false (by decide +kernel) (by decide +kernel) (by decide +kernel) (P := fun b => ifB b _ _) (ifB_false ?_)
    walk_at "w"
    refine ⟨?_⟩
    walk_at "w"
    refine ⟨_, atI_last [.str "name"] (.str (Sx w)), ?_⟩
    walk_at "w"
    refine ⟨_, rfl, by decide +kernel, by decide, ?_⟩
    intro b nb
    walk_at "w"
    refine ⟨_, uL_same, ?_⟩
    rw [dL_new nb]
    walk_at "w"
    refine ⟨_, rfl, ?_⟩
    walk_at "w"
    refine ⟨_, rfl, ?_⟩
    dsimp only
    rw [getA_hd]
    exact q
  | .non, m, ho, hl, hm, l, Q, q => by
    obtain ⟨m, rfl⟩ : ∃ m', m = m' + 1 := ⟨m - 1, by omega⟩
    refine ⟨rfl, ?_⟩
    walk_at "w"
    refine ⟨_, rfl, ?_⟩
    refine wq false (by decide +kernel) (by decide +kernel) (by decide +kernel) (P := fun b => ifB b _ _) (ifB_false ?_)
    refine ⟨?_⟩
    walk_at "w"
    refine ⟨_, rfl, ?_⟩
    refine wq false (by decide +kernel) (by decide +kernel) (by decide +kernel) (P := fun b => ifB b _ _) (ifB_false ?_)
    refine ⟨?_⟩
    walk_at "w"
    refine ⟨_, rfl, ?_⟩
    refine wq false (by decide +kernel) (by decide +kernel) (by decide +kernel) (P := fun b => ifB b _ _) (ifB_false ?_)
    refine ⟨?_⟩
    walk_at "w"
    refine ⟨_, rfl, ?_⟩
    refine wq false (by decide +kernel) (by decide +kernel) (by decide +kernel) (P := fun b => ifB b _ _) (ifB_false ?_)
    walk_at "w"
    refine ⟨?_⟩
    walk_at "w"
    refine ⟨_, atI_last [] (.str "none"), ?_⟩
    walk_at "w"
    refine ⟨_, rfl, by decide +kernel, by decide, ?_⟩
    intro b nb
    walk_at "w"
    refine ⟨_, uL_same, ?_⟩
    rw [dL_new nb]
    walk_at "w"
    refine ⟨_, rfl, ?_⟩
    walk_at "w"
    refine ⟨_, rfl, ?_⟩
    dsimp only
    rw [getA_tl (by decide +kernel), getA_hd]
    exact q
  | .br x y, m, ho, hl, hm, l, Q, q => by
    obtain ⟨m, rfl⟩ : ∃ m', m = m' + 1 := ⟨m - 1, by omega⟩
    have hm' : 3 * (1 + max x.dp y.dp) + 1 ≤ m + 1 := hm
    have e0 : (FA.br x y).tx = 91 :: (x.tx ++ (44 :: 32 :: (y.tx ++ [93]))) := rfl
    rw [e0] at hl q
    rw [List.length_cons, List.length_append, List.length_cons, List.length_cons, List.length_append, List.length_singleton] at hl
    refine ⟨rfl, ?_⟩
    walk_at "w"
    refine ⟨_, rfl, ?_⟩
    refine wq false (by decide +kernel) (by decide +kernel) (by decide +kernel) (P := fun b => ifB b _ _) (ifB_false ?_)
    refine ⟨?_⟩
    walk_at "w"
    refine ⟨_, rfl, ?_⟩
    refine wq false (by decide +kernel) (by decide +kernel) (by decide +kernel) (P := fun b => ifB b _ _) (ifB_false ?_)
    refine ⟨?_⟩
    walk_at "w"
    refine ⟨_, rfl, ?_⟩
    refine wq true (by decide +kernel) (by decide +kernel) (by decide +kernel) (P := fun b => ifB b _ _) (ifB_true ?_)
    walk_at "w"
    refine ⟨_, rfl, ?_⟩
    refine x.lw ho.1 (by omega) (by omega) ?_
    walk_at "w"
    refine ⟨lenSx (a := [91]) (by rw [List.length_singleton]; omega), ?_⟩
    walk_at "w"
    refine ⟨by rw [show (Str.ofString "[" ++ Sx x.tx) = Sx ([91] ++ x.tx) from Sx_app [91] x.tx]; exact lenSx (b := [44, 32]) (by rw [List.length_append, List.length_singleton, List.length_cons, List.length_singleton]; omega), ?_⟩
    walk_at "w"
    refine ⟨_, rfl, ?_⟩
    refine y.lw ho.2 (by omega) (by omega) ?_
    walk_at "w"
    rw [show (Str.ofString "[" ++ Sx x.tx ++ Str.ofString ", ") = Sx ([91] ++ x.tx ++ [44, 32]) from (congrArg (· ++ Sx [44, 32]) (Sx_app [91] x.tx)).trans (Sx_app _ _)]
    refine ⟨lenSx (by simp only [List.length_append, List.length_singleton, List.length_cons, List.length_nil]; omega), ?_⟩
    rw [Sx_app]
    walk_at "w"
    refine ⟨lenSx (b := [93]) (by simp only [List.length_append, List.length_singleton, List.length_cons, List.length_nil]; omega), ?_⟩
    walk_at "w"
    rw [show (Sx ([91] ++ x.tx ++ [44, 32] ++ y.tx) ++ Str.ofString "]") = Sx (91 :: (x.tx ++ (44 :: 32 :: (y.tx ++ [93])))) from (Sx_app _ [93]).trans (by simp)]
    exact q
  | .par x, m, ho, hl, hm, l, Q, q => by
    obtain ⟨m, rfl⟩ : ∃ m', m = m' + 1 := ⟨m - 1, by omega⟩
    have hm' : 3 * (1 + x.dp) + 1 ≤ m + 1 := hm
    have e0 : (FA.par x).tx = 40 :: (x.tx ++ [41]) := rfl
    rw [e0] at hl q
    rw [List.length_cons, List.length_append, List.length_singleton] at hl
    refine ⟨rfl, ?_⟩
    walk_at "w"
    refine ⟨_, rfl, ?_⟩
    refine wq false (by decide +kernel) (by decide +kernel) (by decide +kernel) (P := fun b => ifB b _ _) (ifB_false ?_)
    refine ⟨?_⟩
    walk_at "w"
    refine ⟨_, rfl, ?_⟩
    refine wq false (by decide +kernel) (by decide +kernel) (by decide +kernel) (P := fun b => ifB b _ _) (ifB_false ?_)
    refine ⟨?_⟩
    walk_at "w"
    refine ⟨_, rfl, ?_⟩
    refine wq false (by decide +kernel) (by decide +kernel) (by decide +kernel) (P := fun b => ifB b _ _) (ifB_false ?_)
    refine ⟨?_⟩
    walk_at "w"
    refine ⟨_, rfl, ?_⟩
    refine wq true (by decide +kernel) (by decide +kernel) (by decide +kernel) (P := fun b => ifB b _ _) (ifB_true ?_)
    walk_at "w"
    refine x.lw ho (by omega) (by omega) ?_
    walk_at "w"
    refine ⟨lenSx (a := [40]) (by rw [List.length_singleton]; omega), ?_⟩
    walk_at "w"
    rw [show (Str.ofString "(" ++ Sx x.tx) = Sx ([40] ++ x.tx) from Sx_app [40] x.tx]
    refine ⟨lenSx (b := [41]) (by simp only [List.length_append, List.length_singleton]; omega), ?_⟩
    walk_at "w"
    rw [show (Sx ([40] ++ x.tx) ++ Str.ofString ")") = Sx (40 :: (x.tx ++ [41])) from (Sx_app _ [41]).trans (by simp)]
    exact q
theorem FI.lw : ∀ (i : FI) {m : Nat}, i.ok → i.tx.length ≤ 100000 → 3 * i.dp + 2 ≤ m → ∀ {l : LH} {Q : DK}, Q (.str (Sx i.tx)) l → callD (D__law_item_text m) [i.toD] l Q
  | .pl a, m, ho, hl, hm, l, Q, q => a.lw ho hl (by have : 3 * a.dp + 2 ≤ m := hm; omega) q
  | .pw a n, m, ho, hl, hm, l, Q, q => by
    obtain ⟨m, rfl⟩ : ∃ m', m = m' + 1 := ⟨m - 1, by omega⟩
    have hm' : 3 * a.dp + 2 ≤ m + 1 := hm
    have e0 : (FI.pw a n).tx = a.tx ++ 94 :: numT n := rfl
    rw [e0] at hl q
    rw [List.length_append, List.length_cons] at hl
    refine ⟨rfl, ?_⟩
    walk_at "w"
    refine ⟨_, rfl, ?_⟩
    refine wq true (by decide +kernel) (by decide +kernel) (by decide +kernel) (P := fun b => ifB b _ _) (ifB_true ?_)
    walk_at "w"
    refine ⟨_, rfl, ?_⟩
    refine a.lw ho.1 (by omega) (by omega) ?_
    walk_at "w"
    refine ⟨lenSx (b := [94]) (by rw [List.length_singleton]; omega), ?_⟩
    rw [show (Sx a.tx ++ Str.ofString "^") = Sx (a.tx ++ [94]) from Sx_app a.tx [94]]
    walk_at "w"
    refine ⟨_, rfl, ?_⟩
    walk_at "w"
    refine ⟨log9 ho.2, ?_⟩
    walk_at "w"
    rw [str_num]
    refine ⟨lenSx (by simp only [List.length_append, List.length_singleton]; omega), ?_⟩
    walk_at "w"
    rw [Sx_app, show a.tx ++ [94] ++ numT n = a.tx ++ 94 :: numT n by simp]
    exact q
theorem FE.lw : ∀ (x : FE) {m : Nat}, x.ok → x.tx.length ≤ 100000 → 3 * x.dp + 3 ≤ m → ∀ {l : LH} {Q : DK}, Q (.str (Sx x.tx)) l → callD (D__law_text m) [x.toD] l Q
  | x, m, ho, hl, hm, l, Q, q => by
    obtain ⟨m, rfl⟩ : ∃ m', m = m' + 1 := ⟨m - 1, by omega⟩
    refine ⟨rfl, ?_⟩
    walk_at "w"
    refine ⟨_, rfl, ?_⟩
    walk_at "w"
    have hp := parts_len x
    refine ⟨Nat.le_trans (show _ ≤ 200000 by rw [toDs_len]; omega) (by decide), ?_⟩
    refine x.lcomp ho hl (by omega) ?_
    walk_at "w"
    refine ⟨_, txts_S _, ?_, ?_⟩
    · rw [List.map_map, show (fun x => Str.length x) ∘ Sx = List.length from funext fun w => Sx_len w, List.length_map]
      have : (" " : Str).length = 1 := rfl
      rw [this]
      omega
    · rw [show (Str.ofString " ") = Sx [32] from rfl, txJ, x.join]
      exact q
theorem FE.lcomp : ∀ (x : FE) {m : Nat}, x.ok → x.tx.length ≤ 100000 → 3 * x.dp + 2 ≤ m → ∀ {d0 : D} {l : LH} {Q : List D → LH → Prop}, Q (x.parts.map fun w => .str (Sx w)) l → compL (gName 1) tYes (nE (C__law_text_1 (G__law_text m).fst (G__law_text m).snd)) [1] x.toDs (List.map some [d0] ++ List.replicate 1 none) l Q
  | .one i, m, ho, hl, hm, d0, l, Q, q => by
    show compL _ _ _ _ [i.toD] _ _ _
    walk_at "w"
    refine ifB_true ?_
    refine ⟨?_⟩
    walk_at "w"
    exact i.lw ho hl hm q
  | .cons i x, m, ho, hl, hm, d0, l, Q, q => by
    have e0 : (FE.cons i x).tx = i.tx ++ 32 :: x.tx := rfl
    rw [e0, List.length_append, List.length_cons] at hl
    have hm' : 3 * max i.dp x.dp + 2 ≤ m := hm
    show compL _ _ _ _ (i.toD :: x.toDs) _ _ _
    walk_at "w"
    refine ifB_true ?_
    refine ⟨?_⟩
    walk_at "w"
    refine i.lw ho.1 (by omega) (by omega) ?_
    exact x.lcomp ho.2 (by omega) (by omega) q
end
/-! items one behind another -/
def ofL : FI → List FI → FE
  | i, [] => .one i
  | i, j :: js => .cons i (ofL j js)
/-! leaves -/
mutual
def FA.lv : FA → List FA
  | .lt c => [.lt c]
  | .nam w => [.nam w]
  | .non => []
  | .br x y => x.lv ++ y.lv
  | .par x => x.lv
def FI.lv : FI → List FA
  | .pl a => a.lv
  | .pw a _ => a.lv
def FE.lv : FE → List FA
  | .one i => i.lv
  | .cons i r => i.lv ++ r.lv
end
mutual
theorem FA.lv_len : ∀ a : FA, a.ok → a.lv.length ≤ a.tx.length
  | .lt c, _ => Nat.le_refl _
  | .nam w, h => by show 1 ≤ w.length; have := h.1; omega
  | .non, _ => Nat.zero_le _
  | .br x y, h => by
    have := x.lv_len h.1
    have := y.lv_len h.2
    show (x.lv ++ y.lv).length ≤ (91 :: (x.tx ++ (44 :: 32 :: (y.tx ++ [93])))).length
    simp only [List.length_append, List.length_cons, List.length_nil]
    omega
  | .par x, h => by
    have := x.lv_len h
    show x.lv.length ≤ (40 :: (x.tx ++ [41])).length
    simp only [List.length_append, List.length_cons, List.length_nil]
    omega
theorem FI.lv_len : ∀ i : FI, i.ok → i.lv.length ≤ i.tx.length
  | .pl a, h => a.lv_len h
  | .pw a n, h => by
    have := a.lv_len h.1
    show a.lv.length ≤ (a.tx ++ 94 :: numT n).length
    rw [List.length_append]
    omega
theorem FE.lv_len : ∀ x : FE, x.ok → x.lv.length ≤ x.tx.length
  | .one i, h => i.lv_len h
  | .cons i r, h => by
    have := i.lv_len h.1
    have := r.lv_len h.2
    show (i.lv ++ r.lv).length ≤ (i.tx ++ 32 :: r.tx).length
    rw [List.length_append, List.length_append, List.length_cons]
    omega
end
/-! the names among leaves; the law's own names of a tree -/
def nmsL (ls : List FA) : List (List Nat) := ls.filterMap fun a => match a with
  | .nam w => some w
  | _ => none
theorem nmsL_app (us vs : List FA) : nmsL (us ++ vs) = nmsL us ++ nmsL vs := List.filterMap_append
theorem nmsL_len (ls : List FA) : (nmsL ls).length ≤ ls.length := List.length_filterMap_le _ _
/-! leaves_of -/
/-- the parts, one by one -/
theorem lv_loop {m : Nat} {b : Addr} {e0 e1 : Option D} {E : DEnds} : ∀ (ps : List (D × List FA)) (acc : List FA) {l : LH} {e3 : Option D}, acc.length + ((ps.map (·.2)).flatten).length ≤ 100000 →
    (∀ p ∈ ps, ∀ {l : LH} {Q : DK}, Q (.lst (p.2.map FA.toD)) l → callD (D_leaves_of m) [p.1] l Q) →
    (∀ e3, E.nx [e0, e1, some (.ref b), e3] (uL l b (.lst ((acc ++ (ps.map (·.2)).flatten).map FA.toD)))) →
    forL (gName 3) (nS (B_leaves_of_1 (D_leaves_of m))) (ps.map (·.1)) E [e0, e1, some (.ref b), e3] (uL l b (.lst (acc.map FA.toD)))
  | [], acc, l, e3, _, _, h => by
    have := h e3
    rw [List.map_nil, List.flatten_nil, List.append_nil] at this
    exact this
  | p :: ps, acc, l, e3, hl, hp, h => by
    rw [List.map_cons]
    rw [List.map_cons, List.flatten_cons, List.length_append] at hl
    refine ⟨?_⟩
    walk_at "w"
    refine ⟨_, uL_same, ?_⟩
    refine hp p List.mem_cons_self ?_
    walk_at "w"
    refine ⟨_, uL_same, ?_⟩
    refine ⟨by rw [List.length_map, List.length_map]; exact small (by omega), ?_⟩
    rw [uL_uL, ← List.map_append]
    refine lv_loop ps (acc ++ p.2) (by rw [List.length_append]; omega) (fun x hx => hp x (List.mem_cons_of_mem _ hx)) fun e3 => ?_
    have := h e3
    rw [List.map_cons, List.flatten_cons, ← List.append_assoc] at this
    exact this
def FE.lp : FE → List (D × List FA)
  | .one i => [(i.toD, i.lv)]
  | .cons i r => (i.toD, i.lv) :: r.lp
theorem lp_1 : ∀ x : FE, x.lp.map (·.1) = x.toDs
  | .one i => rfl
  | .cons i r => by show i.toD :: r.lp.map (·.1) = i.toD :: r.toDs; rw [lp_1 r]
theorem lp_2 : ∀ x : FE, (x.lp.map (·.2)).flatten = x.lv
  | .one i => by simp [FE.lp, FE.lv]
  | .cons i r => by show i.lv ++ (r.lp.map (·.2)).flatten = i.lv ++ r.lv; rw [lp_2 r]
theorem lv_rest {m : Nat} {e0 : Option D} {ds : List D} {ps : List (D × List FA)} {l : LH} {Q : DK} (e1 : ps.map (·.1) = ds) (hl : ((ps.map (·.2)).flatten).length ≤ 100000)
    (hp : ∀ p ∈ ps, ∀ {l : LH} {Q : DK}, Q (.lst (p.2.map FA.toD)) l → callD (D_leaves_of m) [p.1] l Q) (q : Q (.lst (((ps.map (·.2)).flatten).map FA.toD)) l) :
    nS (T_leaves_of_5 (D_leaves_of m)) ⟨fun _ l => Q .non l, Q, fun _ _ => False, fun _ _ => False⟩ [e0, some (.lst ds), none, none] l := by
  subst e1
  refine ⟨?_⟩
  walk_at "w"
  refine ⟨show 0 ≤ sizeLine by decide, ?_⟩
  intro b nb
  walk_at "w"
  refine ⟨?_⟩
  walk_at "w"
  refine lv_loop ps [] (by rw [List.length_nil]; omega) hp fun e3 => ?_
  refine ⟨?_⟩
  walk_at "w"
  refine ⟨_, uL_same, ?_⟩
  rw [dL_new nb, List.nil_append]
  exact q
mutual
theorem FA.lf : ∀ (a : FA) {m : Nat}, a.ok → a.tx.length ≤ 100000 → 3 * a.dp + 1 ≤ m → ∀ {l : LH} {Q : DK}, Q (.lst (a.lv.map FA.toD)) l → callD (D_leaves_of m) [a.toD] l Q
  | .lt c, m, ho, hl, hm, l, Q, q => by
    obtain ⟨m, rfl⟩ : ∃ m', m = m' + 1 := ⟨m - 1, by omega⟩
    refine ⟨rfl, ?_⟩
    walk_at "w"
    refine ⟨_, rfl, ?_⟩
    walk_at "w"
    refine ⟨show 2 ≤ sizeLine by decide, ?_⟩
    walk_at "w"
    refine ⟨lit_ok _ (by decide +kernel), (okN_two (okN_str (by decide +kernel)) (okN_str (by decide +kernel))).ok, ?_⟩
    walk_at "w"
    refine ifB_by (fun _ => ?_) (fun h => absurd h (by decide +kernel))
    walk_at "w"
    refine ⟨show 1 ≤ sizeLine by decide, ?_⟩
    exact q
  | .nam w, m, ho, hl, hm, l, Q, q => by
    obtain ⟨m, rfl⟩ : ∃ m', m = m' + 1 := ⟨m - 1, by omega⟩
    refine ⟨rfl, ?_⟩
    walk_at "w"
    refine ⟨_, rfl, ?_⟩
    walk_at "w"
    refine ⟨show 2 ≤ sizeLine by decide, ?_⟩
    walk_at "w"
    refine ⟨lit_ok _ (by decide +kernel), (okN_two (okN_str (by decide +kernel)) (okN_str (by decide +kernel))).ok, ?_⟩
    walk_at "w"
    refine ifB_by (fun _ => ?_) (fun h => absurd h (by decide +kernel))
    walk_at "w"
    refine ⟨show 1 ≤ sizeLine by decide, ?_⟩
    exact q
  | .non, m, ho, hl, hm, l, Q, q => by
    obtain ⟨m, rfl⟩ : ∃ m', m = m' + 1 := ⟨m - 1, by omega⟩
    refine ⟨rfl, ?_⟩
    walk_at "w"
    refine ⟨_, rfl, ?_⟩
    walk_at "w"
    refine ⟨show 2 ≤ sizeLine by decide, ?_⟩
    walk_at "w"
    refine ⟨lit_ok _ (by decide +kernel), (okN_two (okN_str (by decide +kernel)) (okN_str (by decide +kernel))).ok, ?_⟩
    walk_at "w"
    refine ifB_by (fun h => absurd h (by decide +kernel)) (fun _ => ?_)
    walk_at "w"
    refine ⟨?_⟩
    walk_at "w"
    refine ⟨_, rfl, ?_⟩
    refine wq true (by decide +kernel) (by decide +kernel) (by decide +kernel) (P := fun b => ifB b _ _) (ifB_true ?_)
    walk_at "w"
    refine ⟨show 0 ≤ sizeLine by decide, ?_⟩
    exact q
  | .br x y, m, ho, hl, hm, l, Q, q => by
    obtain ⟨m, rfl⟩ : ∃ m', m = m' + 1 := ⟨m - 1, by omega⟩
    have hm' : 3 * (1 + max x.dp y.dp) + 1 ≤ m + 1 := hm
    have e1 : (FA.br x y).tx = 91 :: (x.tx ++ (44 :: 32 :: (y.tx ++ [93]))) := rfl
    rw [e1, List.length_cons, List.length_append, List.length_cons, List.length_cons, List.length_append, List.length_singleton] at hl
    refine ⟨rfl, ?_⟩
    walk_at "w"
    refine ⟨_, rfl, ?_⟩
    walk_at "w"
    refine ⟨show 2 ≤ sizeLine by decide, ?_⟩
    walk_at "w"
    refine ⟨lit_ok _ (by decide +kernel), (okN_two (okN_str (by decide +kernel)) (okN_str (by decide +kernel))).ok, ?_⟩
    walk_at "w"
    refine ifB_by (fun h => absurd h (by decide +kernel)) (fun _ => ?_)
    walk_at "w"
    refine ⟨?_⟩
    walk_at "w"
    refine ⟨_, rfl, ?_⟩
    refine wq false (by decide +kernel) (by decide +kernel) (by decide +kernel) (P := fun b => ifB b _ _) (ifB_false ?_)
    refine ⟨?_⟩
    walk_at "w"
    rw [show DL.cutD [D.str (Str.ofString "bracket"), D.tup [D.str (Str.ofString "items"), D.tup x.toDs], D.tup [D.str (Str.ofString "items"), D.tup y.toDs]] (some 1) none = [x.toD, y.toD] from rfl]
    refine ⟨?_⟩
    walk_at "w"
    refine ⟨_, rfl, ?_⟩
    refine wq false (by decide +kernel) (by decide +kernel) (by decide +kernel) (P := fun b => ifB b _ _) (ifB_false ?_)
    walk_at "w"
    refine ⟨_, rfl, ?_⟩
    refine wq false (by decide +kernel) (by decide +kernel) (by decide +kernel) (P := fun b => ifB b _ _) (ifB_false ?_)
    walk_at "w"
    have lx := x.lv_len ho.1
    have ly := y.lv_len ho.2
    refine lv_rest (ps := [(x.toD, x.lv), (y.toD, y.lv)]) rfl (by simp only [List.map_cons, List.map_nil, List.flatten_cons, List.flatten_nil, List.append_nil, List.length_append]; omega) (fun p hp => ?_) ?_
    · rcases List.mem_cons.mp hp with e | e
      · subst e
        exact fun q => x.lf ho.1 (by omega) (by omega) q
      · rw [List.mem_singleton.mp e]
        exact fun q => y.lf ho.2 (by omega) (by omega) q
    · simp only [List.map_cons, List.map_nil, List.flatten_cons, List.flatten_nil, List.append_nil]
      exact q
  | .par x, m, ho, hl, hm, l, Q, q => x.lf ho (by have : (40 :: (x.tx ++ [41])).length ≤ 100000 := hl; rw [List.length_cons, List.length_append] at this; omega) (by have : 3 * (1 + x.dp) + 1 ≤ m := hm; omega) q
theorem FI.lf : ∀ (i : FI) {m : Nat}, i.ok → i.tx.length ≤ 100000 → 3 * i.dp + 2 ≤ m → ∀ {l : LH} {Q : DK}, Q (.lst (i.lv.map FA.toD)) l → callD (D_leaves_of m) [i.toD] l Q
  | .pl a, m, ho, hl, hm, l, Q, q => a.lf ho hl (by have : 3 * a.dp + 2 ≤ m := hm; omega) q
  | .pw a n, m, ho, hl, hm, l, Q, q => by
    obtain ⟨m, rfl⟩ : ∃ m', m = m' + 1 := ⟨m - 1, by omega⟩
    have hm' : 3 * a.dp + 2 ≤ m + 1 := hm
    have hl' : (a.tx ++ 94 :: numT n).length ≤ 100000 := hl
    rw [List.length_append] at hl'
    refine ⟨rfl, ?_⟩
    walk_at "w"
    refine ⟨_, rfl, ?_⟩
    walk_at "w"
    refine ⟨show 2 ≤ sizeLine by decide, ?_⟩
    walk_at "w"
    refine ⟨lit_ok _ (by decide +kernel), (okN_two (okN_str (by decide +kernel)) (okN_str (by decide +kernel))).ok, ?_⟩
    walk_at "w"
    refine ifB_by (fun h => absurd h (by decide +kernel)) (fun _ => ?_)
    walk_at "w"
    refine ⟨?_⟩
    walk_at "w"
    refine ⟨_, rfl, ?_⟩
    refine wq false (by decide +kernel) (by decide +kernel) (by decide +kernel) (P := fun b => ifB b _ _) (ifB_false ?_)
    refine ⟨?_⟩
    walk_at "w"
    refine ⟨?_⟩
    walk_at "w"
    refine ⟨_, rfl, ?_⟩
    refine wq false (by decide +kernel) (by decide +kernel) (by decide +kernel) (P := fun b => ifB b _ _) (ifB_false ?_)
    walk_at "w"
    refine ⟨_, rfl, ?_⟩
    refine wq true (by decide +kernel) (by decide +kernel) (by decide +kernel) (P := fun b => ifB b _ _) (ifB_true ?_)
    walk_at "w"
    refine ⟨_, rfl, ?_⟩
    walk_at "w"
    refine ⟨show 1 ≤ sizeLine by decide, ?_⟩
    walk_at "w"
    have la := a.lv_len ho.1
    refine lv_rest (ps := [(a.toD, a.lv)]) rfl (by simp only [List.map_cons, List.map_nil, List.flatten_cons, List.flatten_nil, List.append_nil]; omega) (fun p hp => ?_) ?_
    · rw [List.mem_singleton.mp hp]
      exact fun q => a.lf ho.1 (by omega) (by omega) q
    · simp only [List.map_cons, List.map_nil, List.flatten_cons, List.flatten_nil, List.append_nil]
      exact q
theorem FE.lf : ∀ (x : FE) {m : Nat}, x.ok → x.tx.length ≤ 100000 → 3 * x.dp + 3 ≤ m → ∀ {l : LH} {Q : DK}, Q (.lst (x.lv.map FA.toD)) l → callD (D_leaves_of m) [x.toD] l Q
  | x, m, ho, hl, hm, l, Q, q => by
    obtain ⟨m, rfl⟩ : ∃ m', m = m' + 1 := ⟨m - 1, by omega⟩
    refine ⟨rfl, ?_⟩
    walk_at "w"
    refine ⟨_, rfl, ?_⟩
    walk_at "w"
    refine ⟨show 2 ≤ sizeLine by decide, ?_⟩
    walk_at "w"
    refine ⟨lit_ok _ (by decide +kernel), (okN_two (okN_str (by decide +kernel)) (okN_str (by decide +kernel))).ok, ?_⟩
    walk_at "w"
    refine ifB_by (fun h => absurd h (by decide +kernel)) (fun _ => ?_)
    walk_at "w"
    refine ⟨?_⟩
    walk_at "w"
    refine ⟨_, rfl, ?_⟩
    refine wq false (by decide +kernel) (by decide +kernel) (by decide +kernel) (P := fun b => ifB b _ _) (ifB_false ?_)
    refine ⟨?_⟩
    walk_at "w"
    refine ⟨?_⟩
    walk_at "w"
    refine ⟨_, rfl, ?_⟩
    refine wq true (by decide +kernel) (by decide +kernel) (by decide +kernel) (P := fun b => ifB b _ _) (ifB_true ?_)
    walk_at "w"
    refine ⟨_, rfl, ?_⟩
    walk_at "w"
    have lx := x.lv_len ho
    refine lv_rest (lp_1 x) (by rw [lp_2]; omega) (x.lpf ho hl (by omega)) ?_
    rw [lp_2]
    exact q
theorem FE.lpf : ∀ (x : FE) {m : Nat}, x.ok → x.tx.length ≤ 100000 → 3 * x.dp + 2 ≤ m → ∀ p ∈ x.lp, ∀ {l : LH} {Q : DK}, Q (.lst (p.2.map FA.toD)) l → callD (D_leaves_of m) [p.1] l Q
  | .one i, m, ho, hl, hm, p, hp, l, Q, q => by
    have e : p = (i.toD, i.lv) := List.mem_singleton.mp hp
    subst e
    exact i.lf ho hl hm q
  | .cons i r, m, ho, hl, hm, p, hp, l, Q, q => by
    have e0 : (FE.cons i r).tx = i.tx ++ 32 :: r.tx := rfl
    rw [e0, List.length_append, List.length_cons] at hl
    have hm' : 3 * max i.dp r.dp + 2 ≤ m := hm
    rcases List.mem_cons.mp hp with e | e
    · subst e
      exact i.lf ho.1 (by omega) (by omega) q
    · exact r.lpf ho.2 (by omega) (by omega) p e q
end

end Law

namespace Law
open PySem PySem.Spec PyProof.Rows L2 DL
local macro_rules | `(tactic| walk_at "w") => `(tactic| conv => whnf)
local macro_rules | `(tactic| walk_at "s") => `(tactic| (refine ⟨?_⟩; conv => whnf))
local macro_rules | `(tactic| walk_at "z") => `(tactic| (refine small ?_; simp only [List.length_map, List.length_append, List.length_reverse, List.length_cons, List.length_nil]; omega))
local macro_rules | `(tactic| walk_at "q") => `(tactic| (refine ⟨(okN_tints _).ok, (okN_tints _).ok, ?_⟩; rw [eqD_tints]))
/-! names and numbers that are drawn -/
def sgD (w : List Nat) : List D := w.map fun c => D.str (Sx [c])
def NmOk (w : List Nat) : Prop := 2 ≤ w.length ∧ w.length ≤ 8 ∧ ∀ c ∈ w, isSmall c = true
theorem ay : ("abcdefghijklmnopqrstuvwxy" : Str).cps.toList = (List.range 25).map (97 + ·) := rfl
theorem ay_at {r : Nat} (h : r < 25) : atI ("abcdefghijklmnopqrstuvwxy" : Str).cps.toList (r : Nat) = some (97 + r) := atI_nat (by rw [ay, List.getElem?_map, List.getElem?_range h]; rfl)
theorem sub_uL {l : LH} {y : Addr} {o : DO} (h : l y = none) : DL.Sub l (uL l y o) := fun z o' e => by
  have ne : z ≠ y := fun q => by rw [q, h] at e; cases e
  exact (uL_ne ne).trans e
theorem names_comp {a b : Addr} {e1 e4 e5 e6 e7 e8 : Option D} : ∀ (ds : List D) {e9 : Option D} {k : Nat} {l : LH} {Q : List D → LH → Prop}, Box l a k → k + ds.length < 2 ^ 30 →
    (∀ (w : List Nat) l', w.length = ds.length → (∀ c ∈ w, isSmall c = true) → Box l' a (k + ds.length) → Oth l l' a → Q (sgD w) l') → compL (gName 9) tYes (nE C__law_names_1) [9] ds [some (.ref a), e1, some (.str "abcdefghijklmnopqrstuvwxy"), some (.ref b), e4, e5, e6, e7, e8, e9] l Q
  | [], _, k, l, Q, hb, _, q => q [] l rfl (fun _ h => by cases h) hb Oth.refl
  | d :: ds, e9, k, l, Q, hb, hk, q => by
    rw [List.length_cons] at hk
    walk_at "w"
    refine ifB_true ?_
    refine ⟨?_⟩
    walk_at "w"
    refine c_take hb (by decide) (by decide) (by omega) fun r l1 r0 r1 hb1 o1 => ?_
    walk_at "w"
    obtain ⟨r, rfl⟩ := Int.eq_ofNat_of_zero_le r0
    have r2 : r < 25 := by omega
    refine ⟨small (by decide), 97 + r, ay_at r2, ?_⟩
    refine names_comp ds hb1 (by omega) fun w l2 w1 w2 hb2 o2 => ?_
    have := q ((97 + r) :: w) l2 (by rw [List.length_cons, List.length_cons, w1]) (fun c hc => by
      rcases List.mem_cons.mp hc with z | z
      · rw [z]; exact isSmall_iff.mpr (by omega)
      · exact w2 c z) (by rw [List.length_cons]; rw [show k + (ds.length + 1) = k + 1 + ds.length by omega]; exact hb2) (o1.trans o2)
    exact this
theorem joinL_nil : ∀ ys : List (List Nat), TL.joinL [] ys = ys.flatten
  | [] => rfl
  | [y] => by rw [TL.joinL.eq_2]; simp
  | y :: z :: zs => by
    rw [TL.joinL.eq_3, joinL_nil (z :: zs), List.flatten_cons]
    rfl
theorem sum_le {α : Type} {f : α → Nat} {b : Nat} : ∀ (xs : List α), (∀ x ∈ xs, f x ≤ b) → (xs.map f).sum ≤ b * xs.length
  | [], _ => Nat.zero_le _
  | x :: xs, h => by
    have := sum_le xs fun y hy => h y (List.mem_cons_of_mem _ hy)
    have := h x List.mem_cons_self
    rw [List.map_cons, List.sum_cons, List.length_cons, Nat.mul_add]
    omega
theorem flat_one : ∀ w : List Nat, (w.map fun c => [c]).flatten = w
  | [] => rfl
  | c :: w => by rw [List.map_cons, List.flatten_cons, flat_one w]; rfl
theorem sgD_eq (w : List Nat) : sgD w = (w.map fun c => [c]).map fun w => D.str (Sx w) := by unfold sgD; rw [List.map_map]; rfl
theorem sgD_app (u v : List Nat) : sgD u ++ sgD v = sgD (u ++ v) := by unfold sgD; rw [List.map_append]
theorem sg_len (w : List Nat) : (sgD w).length = w.length := by unfold sgD; rw [List.length_map]
theorem sgJ0 (w : List Nat) : txts (sgD w) = some ((w.map fun c => [c]).map Sx) := by rw [sgD_eq]; exact txts_S _
theorem sgJ1 {w : List Nat} (hl : w.length ≤ 100000) : (List.map (fun x => x.length) ((w.map fun c => [c]).map Sx)).sum + ((w.map fun c => [c]).map Sx).length * (Str.ofString "").length ≤ 16777216 := by
  have := sum_le (f := List.length) (b := 1) (w.map fun c => [c]) (fun x hx => by obtain ⟨c, _, rfl⟩ := List.mem_map.mp hx; exact Nat.le_refl 1)
  rw [List.length_map] at this
  rw [List.map_map, show (fun x => Str.length x) ∘ Sx = List.length from funext fun w => Sx_len w, List.length_map, show (Str.ofString "").length = 0 from rfl]
  omega
theorem sgJ2 (w : List Nat) : Txt.join (Str.ofString "") ((w.map fun c => [c]).map Sx) = Sx w := by rw [show (Str.ofString "") = Sx [] from rfl, txJ, joinL_nil, flat_one]
def nmD (ns : List (List Nat)) : List D := ns.map fun w => D.str (Sx w)
theorem cut_to (w : List Nat) (j : Nat) : DL.cutD (sgD w) none (some (j : Int)) = sgD (w.take j) := by rw [cutD_to]; unfold sgD; rw [List.map_take]
theorem cut_from (w : List Nat) (j : Nat) : DL.cutD (sgD w) (some (j : Int)) none = sgD (w.drop j) := by rw [cutD_from]; unfold sgD; rw [List.map_drop]
/-- names that are told one by one: two letters of their own at a place -/
def Mk (at_ : Nat) (ns : List (List Nat)) : Prop := ∀ i w, ns[i]? = some w → ∃ r : List Nat, w = r.take at_ ++ [97 + (3 * (i / 25) + 1) % 25, 97 + (7 * i + 3) % 25] ++ r.drop at_
theorem mk_inj {p q r s u v : List Nat} {x y x2 y2 : Nat} (e : p ++ [x, y] ++ q = r ++ [x2, y2] ++ s) (h : p.length = r.length) : x = x2 ∧ y = y2 := by
  rw [List.append_assoc, List.append_assoc] at e
  have e2 := (List.append_inj e h).2
  simp only [List.cons_append, List.nil_append, List.cons.injEq] at e2
  exact ⟨e2.1, e2.2.1⟩
theorem mk_fin : ∀ i < 50, ∀ j < 50, (3 * (i / 25) + 1) % 25 = (3 * (j / 25) + 1) % 25 → (7 * i + 3) % 25 = (7 * j + 3) % 25 → i = j := by decide +kernel
theorem Mk.nodup {at_ : Nat} {ns : List (List Nat)} (h : Mk at_ ns) (hl : ns.length ≤ 50) : ns.Nodup := by
  rw [List.nodup_iff_pairwise_ne, List.pairwise_iff_getElem]
  intro i j hi hj ij e
  obtain ⟨r, hr⟩ := h i _ (List.getElem?_eq_getElem hi)
  obtain ⟨s, hs⟩ := h j _ (List.getElem?_eq_getElem hj)
  have e2 := hr.symm.trans (e.trans hs)
  have le := congrArg List.length e2
  simp only [List.length_append, List.length_take, List.length_drop, List.length_cons, List.length_nil] at le
  obtain ⟨e3, e4⟩ := mk_inj (u := []) (v := []) e2 (by rw [List.length_take, List.length_take]; omega)
  have := mk_fin i (by omega) j (by omega) (Nat.add_left_cancel e3) (Nat.add_left_cancel e4)
  omega
theorem Mk.nz {at_ : Nat} {ns : List (List Nat)} (h : Mk at_ ns) : [122, 122] ∉ ns := fun hm => by
  obtain ⟨i, hi, e⟩ := List.getElem_of_mem hm
  obtain ⟨r, hr⟩ := h i _ (List.getElem?_eq_getElem hi)
  rw [e] at hr
  have hl := congrArg List.length hr
  simp only [List.length_append, List.length_take, List.length_drop, List.length_cons, List.length_nil] at hl
  have r0 : r = [] := List.length_eq_zero_iff.mp (by omega)
  rw [r0, List.take_nil, List.drop_nil, List.nil_append, List.append_nil] at hr
  have := (List.cons.inj hr).1
  omega
theorem Mk.put {at_ : Nat} {ns : List (List Nat)} (h : Mk at_ ns) (r : List Nat) {x y : Nat} (hx : x = (3 * (ns.length / 25) + 1) % 25) (hy : y = (7 * ns.length + 3) % 25) : Mk at_ (ns ++ [r.take at_ ++ [97 + x, 97 + y] ++ r.drop at_]) := fun i w e => by
  by_cases hi : i < ns.length
  · rw [List.getElem?_append_left hi] at e
    exact h i w e
  · rw [List.getElem?_append_right (by omega)] at e
    have i0 : i - ns.length = 0 := by
      by_cases z : i - ns.length = 0
      · exact z
      · rw [List.getElem?_singleton, if_neg z] at e; cases e
    rw [i0] at e
    obtain rfl : i = ns.length := by omega
    exact ⟨r, by rw [← hx, ← hy]; injection e with e; exact e.symm⟩
theorem names_loop {a b : Addr} {e1 : Option D} {at_ : Nat} {al : Bool} {E : DEnds} (ne : b ≠ a) (h7 : at_ < 7) : ∀ (m j : Nat) {rest : List Nat} {ns : List (List Nat)} {k : Nat} {l : LH} {e7 e8 e9 : Option D}, j + m ≤ 50 → Box l a k → k + 7 * m < 2 ^ 28 → rest.length ≤ 6 → (∀ c ∈ rest, isSmall c = true) → l b = some (.lst (nmD ns)) → (∀ w ∈ ns, NmOk w) → ns.length ≤ 50 - m → ns.length = j → Mk at_ ns →
    (∀ ns' k' l' e5 e7 e8 e9, Mk at_ ns' → ns'.length = ns.length + m → (∀ w ∈ ns', NmOk w) → Box l' a k' → k ≤ k' → k' ≤ k + 7 * m → l' b = some (.lst (nmD ns')) → (∀ x, x ≠ a → x ≠ b → l' x = l x) → E.nx [some (.ref a), e1, some (.str "abcdefghijklmnopqrstuvwxy"), some (.ref b), some (.int (at_ : Nat)), e5, some (.bl al), e7, e8, e9] l') →
    forL (gName 7) (nS B__law_names_1) (rgD (j : Int) m) E [some (.ref a), e1, some (.str "abcdefghijklmnopqrstuvwxy"), some (.ref b), some (.int (at_ : Nat)), some (.lst (sgD rest)), some (.bl al), e7, e8, e9] l
  | 0, j, rest, ns, k, l, e7, e8, e9, hj, hb, hk, r1, r2, hs, hn, hl, hj2, hM, h => h ns k l _ _ _ _ hM rfl hn hb (Nat.le_refl _) (Nat.le_refl _) hs (fun _ _ _ => rfl)
  | m + 1, j, rest, ns, k, l, e7, e8, e9, hj, hb, hk, r1, r2, hs, hn, hl, hj2, hM, h => by
    rw [rgD_succ]
    refine ⟨?_⟩
    have go : ∀ {rest : List Nat} {k2 : Nat} {l2 : LH} {e8 e9 : Option D}, Box l2 a k2 → k ≤ k2 → k2 ≤ k + 7 → rest.length ≤ 6 → (∀ c ∈ rest, isSmall c = true) → l2 b = some (.lst (nmD ns)) → (∀ x, x ≠ a → x ≠ b → l2 x = l x) →
        sSeq (sSet 8 (dLst (aCons (dIx (dVar 2) (dMod (dAdd (dMul (dC (.int 3)) (dDiv (dVar 7) (dC (.int 25)))) (dC (.int 1))) (dC (.int 25)))) (aCons (dIx (dVar 2) (dMod (dAdd (dMul (dC (.int 7)) (dVar 7)) (dC (.int 3))) (dC (.int 25)))) aNil))))
          (sExpr (dMt kAppend (dVar 3) (aCons (dJoin (dC (.str "")) (dAdd (dAdd (dSl (dVar 5) oNo (oSm (dVar 4))) (dVar 8)) (dSl (dVar 5) (oSm (dVar 4)) oNo))) aNil))) ⟨fun env l => forL (gName 7) (nS B__law_names_1) (rgD ((j : Int) + 1) m) E env l, E.rt, fun env l => E.nx env l, fun env l => forL (gName 7) (nS B__law_names_1) (rgD ((j : Int) + 1) m) E env l⟩
          [some (.ref a), e1, some (.str "abcdefghijklmnopqrstuvwxy"), some (.ref b), some (.int (at_ : Nat)), some (.lst (sgD rest)), some (.bl al), some (.int (j : Nat)), e8, e9] l2 := by
      intro rest k2 l2 e8 e9 hb2 k21 k22 r1 r2 hs2 fr
      have q0 : 0 ≤ (j : Int) / 25 := by omega
      have q1 : (j : Int) / 25 ≤ 10 := by omega
      walk_at "w"
      refine ⟨by decide, ?_⟩
      walk_at "w"
      refine ⟨mulR (by omega) (by omega), ?_⟩
      walk_at "w"
      refine ⟨by decide, ?_⟩
      obtain ⟨x, hx⟩ := Int.eq_ofNat_of_zero_le (Int.emod_nonneg (3 * ((j : Int) / 25) + 1) (show (25 : Int) ≠ 0 by decide))
      have x2 : x < 25 := by have := Int.emod_lt_of_pos (3 * ((j : Int) / 25) + 1) (show (0 : Int) < 25 by decide); omega
      rw [hx]
      walk_at "w"
      refine ⟨small (by decide), 97 + x, ay_at x2, ?_⟩
      walk_at "w"
      refine ⟨mulR (by omega) (by omega), ?_⟩
      walk_at "w"
      refine ⟨by decide, ?_⟩
      obtain ⟨y, hy⟩ := Int.eq_ofNat_of_zero_le (Int.emod_nonneg (7 * (j : Int) + 3) (show (25 : Int) ≠ 0 by decide))
      have y2 : y < 25 := by have := Int.emod_lt_of_pos (7 * (j : Int) + 3) (show (0 : Int) < 25 by decide); omega
      rw [hy]
      walk_at "w"
      refine ⟨small (by decide), 97 + y, ay_at y2, ?_⟩
      walk_at "w"
      refine ⟨show 2 ≤ sizeLine by decide, ?_⟩
      walk_at "w"
      refine ⟨_, hs2, ?_⟩
      walk_at "w"
      rw [cut_to, show [D.str ⟨#[97 + x]⟩, D.str ⟨#[97 + y]⟩] = sgD [97 + x, 97 + y] from rfl]
      have rl : (rest.take at_ ++ [97 + x, 97 + y] ++ rest.drop at_).length = rest.length + 2 := by
        rw [List.length_append, List.length_append, List.length_take, List.length_drop, List.length_cons, List.length_singleton]
        omega
      have rs : ∀ c ∈ rest.take at_ ++ [97 + x, 97 + y] ++ rest.drop at_, isSmall c = true := by
        intro c hc
        rcases List.mem_append.mp hc with hc | hc
        · rcases List.mem_append.mp hc with hc | hc
          · exact r2 c (List.mem_of_mem_take hc)
          · rcases List.mem_cons.mp hc with z | hc
            · rw [z]; exact isSmall_iff.mpr (by omega)
            · rw [List.mem_singleton.mp hc]; exact isSmall_iff.mpr (by omega)
        · exact r2 c (List.mem_of_mem_drop hc)
      refine ⟨by rw [sg_len, sg_len, List.length_take, List.length_cons, List.length_singleton]; exact small (by omega), ?_⟩
      rw [sgD_app]
      walk_at "w"
      rw [cut_from]
      refine ⟨by rw [sg_len, sg_len, List.length_drop, List.length_append, List.length_take, List.length_cons, List.length_singleton]; exact small (by omega), ?_⟩
      rw [sgD_app]
      walk_at "w"
      refine ⟨_, sgJ0 _, sgJ1 (by omega), ?_⟩
      rw [sgJ2]
      walk_at "w"
      refine ⟨_, hs2, ?_⟩
      refine ⟨Nat.lt_of_le_of_lt (show (nmD ns).length ≤ 50 by unfold nmD; rw [List.length_map]; omega) (by decide), ?_⟩
      have ea : nmD ns ++ [D.str (Sx (rest.take at_ ++ [97 + x, 97 + y] ++ rest.drop at_))] = nmD (ns ++ [rest.take at_ ++ [97 + x, 97 + y] ++ rest.drop at_]) := by unfold nmD; rw [List.map_append]; rfl
      rw [ea]
      have hb3 : Box (uL l2 b (.lst (nmD (ns ++ [rest.take at_ ++ [97 + x, 97 + y] ++ rest.drop at_])))) a k2 := by
        obtain ⟨o, ho, r⟩ := hb2
        exact ⟨o, by rw [uL_ne (Ne.symm ne)]; exact ho, r⟩
      refine names_loop ne h7 m (j + 1) (by omega) hb3 (by omega) r1 r2 uL_same (fun w hw => ?_) (by rw [List.length_append, List.length_singleton]; omega) (by rw [List.length_append, List.length_singleton]; omega) (hM.put rest (by rw [hj2]; omega) (by rw [hj2]; omega)) (fun ns' k' l' e5 e7 e8 e9 z0 z1 z2 z3 z4 z5 z6 z7 => ?_)
      · rcases List.mem_append.mp hw with z | z
        · exact hn w z
        · rw [List.mem_singleton.mp z]
          exact ⟨by omega, by omega, rs⟩
      · rw [List.length_append, List.length_singleton] at z1
        exact h ns' k' l' e5 e7 e8 e9 z0 (by omega) z2 z3 (by omega) (by omega) z6 (fun x x1 x2 => (z7 x x1 x2).trans ((uL_ne x2).trans (fr x x1 x2)))
    walk_at "w"
    cases al with
    | true =>
      refine ifB_false ?_
      exact go hb (Nat.le_refl _) (by omega) r1 r2 hs (fun _ _ _ => rfl)
    | false =>
      refine ifB_true ?_
      walk_at "w"
      refine c_take hb (by decide) (by decide) (by omega) fun r l1 r0 r1' hb1 o1 => ?_
      walk_at "w"
      refine ⟨⟨by omega, by omega⟩, by rw [rgD_len]; exact small (by omega), ?_⟩
      refine names_comp _ hb1 (by rw [rgD_len]; omega) fun w l2 w1 w2 hb2 o2 => ?_
      rw [rgD_len] at w1 hb2
      exact go hb2 (by omega) (by omega) (by omega) w2 ((o2 b ne).trans ((o1 b ne).trans hs)) (fun x x1 _ => (o2 x x1).trans (o1 x x1))
theorem c_names {a : Addr} {n : Nat} (h50 : n ≤ 50) {k : Nat} {l : LH} {Q : DK} (hb : Box l a k) (hk : k + 400 < 2 ^ 27) (q : ∀ (ns : List (List Nat)) k' l', ns.Nodup → [122, 122] ∉ ns → ns.length = n → (∀ w ∈ ns, NmOk w) → Box l' a k' → k ≤ k' → k' ≤ k + 400 → Oth l l' a → Q (.lst (nmD ns)) l') : callD D__law_names [.ref a, .int (n : Nat)] l Q := by
  refine ⟨rfl, ?_⟩
  walk_at "w"
  refine ⟨show 0 ≤ sizeLine by decide, ?_⟩
  intro b nb
  have ne : b ≠ a := fun z => by
    obtain ⟨o, ho, _⟩ := hb
    rw [z, ho] at nb
    cases nb
  have hb0 : Box (uL l b (.lst [])) a k := by
    obtain ⟨o, ho, r⟩ := hb
    exact ⟨o, by rw [uL_ne (Ne.symm ne)]; exact ho, r⟩
  have hs0 : uL l b (.lst []) b = some (.lst (nmD [])) := uL_same
  have fr0 : ∀ x, x ≠ a → x ≠ b → uL l b (.lst []) x = l x := fun x _ x2 => uL_ne x2
  generalize uL l b (.lst []) = l0 at hb0 hs0 fr0
  walk_at "w"
  refine ⟨show 2 ≤ sizeLine by decide, ?_⟩
  walk_at "w"
  refine ⟨rfl, ?_⟩
  walk_at "w"
  refine ⟨?_⟩
  walk_at "w"
  refine c_take hb0 (by decide) (by decide) (by omega) fun r l1 r0 r1 hb1 o1 => ?_
  obtain ⟨r, rfl⟩ := Int.eq_ofNat_of_zero_le r0
  walk_at "w"
  refine c_take hb1 (by decide) (by decide) (by omega) fun s l2 s0 s1 hb2 o2 => ?_
  walk_at "w"
  refine ⟨⟨by omega, by omega⟩, by rw [rgD_len]; exact small (by omega), ?_⟩
  refine names_comp _ hb2 (by rw [rgD_len]; omega) fun w l3 w1 w2 hb3 o3 => ?_
  rw [rgD_len] at w1 hb3
  walk_at "w"
  refine ⟨?_⟩
  walk_at "w"
  refine c_take hb3 (by decide) (by decide) (by omega) fun t l4 t0 t1 hb4 o4 => ?_
  walk_at "w"
  refine ⟨(okN_int _).ok, (okN_int _).ok, ?_⟩
  generalize eqD (.int t) (.int 0) = al
  walk_at "w"
  refine ⟨?_⟩
  walk_at "w"
  refine ⟨⟨by omega, by omega⟩, ?_⟩
  rw [Int.toNat_natCast]
  refine names_loop (ns := []) (at_ := r) ne (by omega) n 0 (by omega) hb4 (by omega) (by omega) w2 ((o4 b ne).trans ((o3 b ne).trans ((o2 b ne).trans ((o1 b ne).trans hs0)))) (fun w hw => by cases hw) (by simp) rfl (fun i w e => by simp at e) (fun ns' k' l' e5 e7 e8 e9 z0 z1 z2 z3 z4 z5 z6 z7 => ?_)
  refine ⟨?_⟩
  walk_at "w"
  refine ⟨_, z6, ?_⟩
  rw [List.length_nil, Nat.zero_add] at z1
  refine q ns' k' _ (z0.nodup (by omega)) z0.nz z1 z2 ?_ (by omega) (by omega) (fun x xa => ?_)
  · obtain ⟨o, ho, r⟩ := z3
    exact ⟨o, by rw [show dL l' b a = l' a from if_neg (Ne.symm ne)]; exact ho, r⟩
  · by_cases xb : x = b
    · rw [xb, nb]
      exact if_pos rfl
    · rw [show dL l' b x = l' x from if_neg xb, z7 x xa xb, o4 x xa, o3 x xa, o2 x xa, o1 x xa]
      exact fr0 x xa xb

end Law

namespace Law
open PySem PySem.Spec PyProof.Rows L2 DL
local macro_rules | `(tactic| walk_at "w") => `(tactic| conv => whnf)
local macro_rules | `(tactic| walk_at "s") => `(tactic| (refine ⟨?_⟩; conv => whnf))
local macro_rules | `(tactic| walk_at "z") => `(tactic| (refine small ?_; simp only [List.length_map, List.length_append, List.length_reverse, List.length_cons, List.length_nil]; omega))
local macro_rules | `(tactic| walk_at "q") => `(tactic| (refine ⟨(okN_tints _).ok, (okN_tints _).ok, ?_⟩; rw [eqD_tints]))
theorem Sx_of (z : Str) : z = Sx z.cps.toList := by
  cases z with
  | mk a => show (⟨a⟩ : Str) = ⟨a.toList.toArray⟩; rw [Array.toArray_toList]
/-! alike, kind by kind; lists that may be written, too -/
inductive Sm (l : LH) : Nat → D → D → Prop where
  | int (n : Nat) (i : Int) : Sm l (n + 1) (.int i) (.int i)
  | str (n : Nat) (w : List Nat) : Sg w → Sm l (n + 1) (.str (Sx w)) (.str (Sx w))
  | non (n : Nat) : Sm l (n + 1) .non .non
  | tup (n : Nat) (ds es : List D) : ds.length ≤ 100000 → ds.length = es.length → (∀ p ∈ ds.zip es, Sm l n p.1 p.2) → Sm l (n + 1) (.tup ds) (.tup es)
  | lst (n : Nat) (ds es : List D) : ds.length ≤ 100000 → ds.length = es.length → (∀ p ∈ ds.zip es, Sm l n p.1 p.2) → Sm l (n + 1) (.lst ds) (.lst es)
  | rl (n : Nat) (ds es : List D) (a : Addr) : l a = some (.lst ds) → ds.length ≤ 100000 → ds.length = es.length → (∀ p ∈ ds.zip es, Sm l n p.1 p.2) → Sm l (n + 1) (.ref a) (.lst es)
  | rr (n : Nat) (ds es : List D) (a b : Addr) : l a = some (.lst ds) → l b = some (.lst es) → ds.length ≤ 100000 → ds.length = es.length → (∀ p ∈ ds.zip es, Sm l n p.1 p.2) → Sm l (n + 1) (.ref a) (.ref b)
  | lr (n : Nat) (ds es : List D) (b : Addr) : l b = some (.lst es) → ds.length ≤ 100000 → ds.length = es.length → (∀ p ∈ ds.zip es, Sm l n p.1 p.2) → Sm l (n + 1) (.lst ds) (.ref b)
theorem all_true (n : Nat) : (List.replicate n true).all id = true := List.all_eq_true.mpr fun b hb => by rw [(List.mem_replicate.mp hb).2]; rfl
theorem zipD_zip : ∀ ds es : List D, zipD ds es = (ds.zip es).map fun p => .tup [p.1, p.2]
  | [], es => by cases es <;> rfl
  | d :: ds, [] => rfl
  | d :: ds, e :: es => by show D.tup [d, e] :: zipD ds es = _; rw [zipD_zip ds es]; rfl
theorem same_compV {m : Nat} {hold : LH → Prop} {l : LH} (hl : hold l) {e0 e1 : Option D} : ∀ (ps : List (D × D)) {e2 e3 : Option D} {Q : List D → LH → Prop}, (∀ p ∈ ps, ∀ {Q : DK}, Q (.bl true) l → callD (D__law_same m) [p.1, p.2] l Q) → Q ((List.replicate ps.length true).map D.bl) l →
    compV hold (gTup 2 (gCons (gName 2) (gCons (gName 3) gNil))) tYes (nE (C__law_same_1 (D__law_same m))) [2, 3] (ps.map fun p => .tup [p.1, p.2]) [e0, e1, e2, e3] l Q
  | [], e2, e3, Q, _, q => ⟨hl, q⟩
  | d :: ds, e2, e3, Q, hd, q => by
    rw [List.map_cons]
    walk_at "w"
    refine ⟨hl, ?_⟩
    walk_at "w"
    refine ⟨rfl, ?_⟩
    walk_at "w"
    refine ifB_true ?_
    refine ⟨?_⟩
    walk_at "w"
    refine hd d List.mem_cons_self ?_
    exact same_compV hl ds (fun x hx => hd x (List.mem_cons_of_mem _ hx)) q
theorem c_sm {l : LH} : ∀ (n : Nat) {d e : D} {m : Nat}, Sm l n d e → n ≤ m → ∀ {Q : DK}, Q (.bl true) l → callD (D__law_same m) [d, e] l Q
  | 0, d, e, m, h, _, _, _ => by cases h
  | n + 1, d, e, m, h, hm, Q, q => by
    obtain ⟨m, rfl⟩ : ∃ m', m = m' + 1 := ⟨m - 1, by omega⟩
    cases h with
    | int n i =>
      refine ⟨rfl, ?_⟩
      walk_at "w"
      show ifB false _ _
      refine ifB_false ?_
      walk_at "w"
      refine ⟨?_⟩
      walk_at "w"
      show ifB false _ _
      refine ifB_false ?_
      walk_at "w"
      show ifB false _ _
      refine ifB_false ?_
      walk_at "w"
      refine ⟨?_⟩
      walk_at "w"
      refine ⟨(okN_bl _).ok, (okN_bl _).ok, ?_⟩
      rw [eqD_refl (okN_bl _)]
      walk_at "w"
      refine ⟨(okN_int _).ok, (okN_int _).ok, ?_⟩
      rw [eqD_refl (okN_int _)]
      exact q
    | non n =>
      refine ⟨rfl, ?_⟩
      walk_at "w"
      show ifB false _ _
      refine ifB_false ?_
      walk_at "w"
      refine ⟨?_⟩
      walk_at "w"
      show ifB true _ _
      refine ifB_true ?_
      refine ifB_true ?_
      walk_at "w"
      refine ⟨(okN_bl _).ok, (okN_bl _).ok, ?_⟩
      rw [eqD_refl (okN_bl _)]
      walk_at "w"
      refine ⟨okN_non.ok, okN_non.ok, ?_⟩
      rw [eqD_refl okN_non]
      exact q
    | str n w sg =>
      refine ⟨rfl, ?_⟩
      walk_at "w"
      show ifB false _ _
      refine ifB_false ?_
      walk_at "w"
      refine ⟨?_⟩
      walk_at "w"
      show ifB false _ _
      refine ifB_false ?_
      walk_at "w"
      show ifB true _ _
      refine ifB_true ?_
      walk_at "w"
      refine ⟨(okN_bl _).ok, (okN_bl _).ok, ?_⟩
      rw [eqD_refl (okN_bl _)]
      walk_at "w"
      refine ⟨(okS sg).ok, (okS sg).ok, ?_⟩
      rw [eqD_refl (okS sg)]
      exact q
    | tup n ds es hl le hd =>
      refine ⟨rfl, ?_⟩
      walk_at "w"
      show ifB true _ _
      refine ifB_true ?_
      walk_at "w"
      refine ⟨(okN_bl _).ok, (okN_bl _).ok, ?_⟩
      rw [eqD_refl (okN_bl _)]
      refine ifB_false ?_
      walk_at "w"
      refine ⟨(okN_bl _).ok, (okN_bl _).ok, ?_⟩
      rw [eqD_refl (okN_bl _)]
      refine ifB_false ?_
      walk_at "w"
      refine ⟨(okN_int _).ok, (okN_int _).ok, ?_⟩
      rw [← le, eqD_refl (okN_int _)]
      walk_at "w"
      rw [zipD_zip]
      refine ⟨by rw [List.length_map, List.length_zip]; exact small (by omega), ?_⟩
      refine same_compV ⟨trivial, trivial⟩ _ (fun x hx => fun q => c_sm n (hd x hx) (by omega) q) ?_
      walk_at "w"
      refine ⟨_, rfl, ?_⟩
      rw [all_true]
      exact q
    | lst n ds es hl le hd =>
      refine ⟨rfl, ?_⟩
      walk_at "w"
      show ifB true _ _
      refine ifB_true ?_
      walk_at "w"
      refine ⟨(okN_bl _).ok, (okN_bl _).ok, ?_⟩
      rw [eqD_refl (okN_bl _)]
      refine ifB_false ?_
      walk_at "w"
      refine ⟨(okN_bl _).ok, (okN_bl _).ok, ?_⟩
      rw [eqD_refl (okN_bl _)]
      refine ifB_false ?_
      walk_at "w"
      refine ⟨(okN_int _).ok, (okN_int _).ok, ?_⟩
      rw [← le, eqD_refl (okN_int _)]
      walk_at "w"
      rw [zipD_zip]
      refine ⟨by rw [List.length_map, List.length_zip]; exact small (by omega), ?_⟩
      refine same_compV ⟨trivial, trivial⟩ _ (fun x hx => fun q => c_sm n (hd x hx) (by omega) q) ?_
      walk_at "w"
      refine ⟨_, rfl, ?_⟩
      rw [all_true]
      exact q
    | rl n ds es a hb hl le hd =>
      refine ⟨rfl, ?_⟩
      walk_at "w"
      show ifB true _ _
      refine ifB_true ?_
      walk_at "w"
      refine ⟨_, hb, ?_⟩
      walk_at "w"
      refine ⟨(okN_bl _).ok, (okN_bl _).ok, ?_⟩
      rw [eqD_refl (okN_bl _)]
      refine ifB_false ?_
      walk_at "w"
      refine ⟨_, hb, ?_⟩
      walk_at "w"
      refine ⟨(okN_bl _).ok, (okN_bl _).ok, ?_⟩
      rw [eqD_refl (okN_bl _)]
      refine ifB_false ?_
      walk_at "w"
      refine ⟨_, hb, ?_⟩
      walk_at "w"
      refine ⟨(okN_int _).ok, (okN_int _).ok, ?_⟩
      rw [← le, eqD_refl (okN_int _)]
      walk_at "w"
      refine ⟨_, hb, ?_⟩
      walk_at "w"
      rw [zipD_zip]
      refine ⟨by rw [List.length_map, List.length_zip]; exact small (by omega), ?_⟩
      refine same_compV ⟨hb, trivial⟩ _ (fun x hx => fun q => c_sm n (hd x hx) (by omega) q) ?_
      walk_at "w"
      refine ⟨_, rfl, ?_⟩
      rw [all_true]
      exact q
    | rr n ds es a b hb hb2 hl le hd =>
      refine ⟨rfl, ?_⟩
      walk_at "w"
      refine ⟨_, hb2, ?_⟩
      refine ifB_true ?_
      walk_at "w"
      refine ⟨_, hb, ?_⟩
      walk_at "w"
      refine ⟨_, hb2, ?_⟩
      walk_at "w"
      refine ⟨(okN_bl _).ok, (okN_bl _).ok, ?_⟩
      rw [eqD_refl (okN_bl _)]
      refine ifB_false ?_
      walk_at "w"
      refine ⟨_, hb, ?_⟩
      walk_at "w"
      refine ⟨_, hb2, ?_⟩
      walk_at "w"
      refine ⟨(okN_bl _).ok, (okN_bl _).ok, ?_⟩
      rw [eqD_refl (okN_bl _)]
      refine ifB_false ?_
      walk_at "w"
      refine ⟨_, hb, ?_⟩
      walk_at "w"
      refine ⟨_, hb2, ?_⟩
      walk_at "w"
      refine ⟨(okN_int _).ok, (okN_int _).ok, ?_⟩
      rw [← le, eqD_refl (okN_int _)]
      walk_at "w"
      refine ⟨_, hb, ?_⟩
      walk_at "w"
      refine ⟨_, hb2, ?_⟩
      walk_at "w"
      rw [zipD_zip]
      refine ⟨by rw [List.length_map, List.length_zip]; exact small (by omega), ?_⟩
      refine same_compV ⟨hb, hb2⟩ _ (fun x hx => fun q => c_sm n (hd x hx) (by omega) q) ?_
      walk_at "w"
      refine ⟨_, rfl, ?_⟩
      rw [all_true]
      exact q
    | lr n ds es b hb2 hl le hd =>
      refine ⟨rfl, ?_⟩
      walk_at "w"
      refine ⟨_, hb2, ?_⟩
      refine ifB_true ?_
      walk_at "w"
      refine ⟨_, hb2, ?_⟩
      walk_at "w"
      refine ⟨(okN_bl _).ok, (okN_bl _).ok, ?_⟩
      rw [eqD_refl (okN_bl _)]
      refine ifB_false ?_
      walk_at "w"
      refine ⟨_, hb2, ?_⟩
      walk_at "w"
      refine ⟨(okN_bl _).ok, (okN_bl _).ok, ?_⟩
      rw [eqD_refl (okN_bl _)]
      refine ifB_false ?_
      walk_at "w"
      refine ⟨_, hb2, ?_⟩
      walk_at "w"
      refine ⟨(okN_int _).ok, (okN_int _).ok, ?_⟩
      rw [← le, eqD_refl (okN_int _)]
      walk_at "w"
      refine ⟨_, hb2, ?_⟩
      walk_at "w"
      rw [zipD_zip]
      refine ⟨by rw [List.length_map, List.length_zip]; exact small (by omega), ?_⟩
      refine same_compV ⟨trivial, hb2⟩ _ (fun x hx => fun q => c_sm n (hd x hx) (by omega) q) ?_
      walk_at "w"
      refine ⟨_, rfl, ?_⟩
      rw [all_true]
      exact q
theorem zip_self_mem {α : Type} {ds : List α} : ∀ {p : α × α}, p ∈ ds.zip ds → p.1 = p.2 ∧ p.1 ∈ ds := by
  intro p h
  obtain ⟨i, hi, e⟩ := List.getElem_of_mem h
  rw [List.getElem_zip] at e
  rw [← e]
  exact ⟨rfl, List.getElem_mem _⟩
/-- plain data is alike to itself -/
inductive Pl : Nat → D → Prop where
  | int (n : Nat) (i : Int) : Pl (n + 1) (.int i)
  | str (n : Nat) (w : List Nat) : Sg w → Pl (n + 1) (.str (Sx w))
  | non (n : Nat) : Pl (n + 1) .non
  | tup (n : Nat) (ds : List D) : ds.length ≤ 100000 → (∀ d ∈ ds, Pl n d) → Pl (n + 1) (.tup ds)
  | lst (n : Nat) (ds : List D) : ds.length ≤ 100000 → (∀ d ∈ ds, Pl n d) → Pl (n + 1) (.lst ds)
theorem Pl.sm {l : LH} : ∀ {n : Nat} {d : D}, Pl n d → Sm l n d d
  | _, _, .int n i => .int n i
  | _, _, .str n w h => .str n w h
  | _, _, .non n => .non n
  | _, _, .tup n ds hl hd => .tup n ds ds hl rfl fun p hp => by
    obtain ⟨e, m⟩ := zip_self_mem hp
    rw [← e]
    exact (hd _ m).sm
  | _, _, .lst n ds hl hd => .lst n ds ds hl rfl fun p hp => by
    obtain ⟨e, m⟩ := zip_self_mem hp
    rw [← e]
    exact (hd _ m).sm
theorem c_same (n : Nat) {d : D} {m : Nat} (h : Pl n d) (hm : n ≤ m) {l : LH} {Q : DK} (q : Q (.bl true) l) : callD (D__law_same m) [d, d] l Q := c_sm n h.sm hm q
/-! the names of a tree, once each and in order -/
def strD (w : List Nat) : D := .str (Sx w)
theorem nin_comp {d0 : D} : ∀ (ls : List FA) {l : LH} {Q : List D → LH → Prop}, Q ((nmsL ls).map strD) l → compL (gName 1) (dTV (dEq (dIx (dVar 1) (dC (.int 0))) (dC (.str "name")))) (nE C_names_in_1) [1] (ls.map FA.toD) (List.map some [d0] ++ List.replicate 1 none) l Q
  | [], l, Q, q => q
  | a :: ls, l, Q, q => by
    rw [List.map_cons]
    cases a with
    | nam w =>
      walk_at "w"
      refine ⟨_, rfl, ?_⟩
      refine wq true (by decide +kernel) (by decide +kernel) (by decide +kernel) (P := fun b => ifB b _ _) (ifB_true ?_)
      refine ⟨?_⟩
      walk_at "w"
      refine ⟨_, rfl, ?_⟩
      exact nin_comp ls q
    | lt c =>
      walk_at "w"
      refine ⟨_, rfl, ?_⟩
      refine wq false (by decide +kernel) (by decide +kernel) (by decide +kernel) (P := fun b => ifB b _ _) (ifB_false ?_)
      exact nin_comp ls q
    | non =>
      walk_at "w"
      refine ⟨_, rfl, ?_⟩
      refine wq false (by decide +kernel) (by decide +kernel) (by decide +kernel) (P := fun b => ifB b _ _) (ifB_false ?_)
      exact nin_comp ls q
    | br x y =>
      walk_at "w"
      refine ⟨_, rfl, ?_⟩
      refine wq false (by decide +kernel) (by decide +kernel) (by decide +kernel) (P := fun b => ifB b _ _) (ifB_false ?_)
      exact nin_comp ls q
    | par x =>
      walk_at "w"
      refine ⟨_, rfl, ?_⟩
      refine wq false (by decide +kernel) (by decide +kernel) (by decide +kernel) (P := fun b => ifB b _ _) (ifB_false ?_)
      exact nin_comp ls q
theorem txts_nm (ws : List (List Nat)) : txts (ws.map strD) = some (ws.map Sx) := by
  have := txts_map (ws.map Sx)
  rw [List.map_map] at this
  exact this
theorem met_few {ns ws : List (List Nat)} (h : ∀ w ∈ ws, w ∈ ns) : (SetT.met (ws.map Sx)).length ≤ ns.length := by
  have nd := SetT.met_nodup (ws.map Sx)
  have sb : ∀ x ∈ SetT.met (ws.map Sx), x ∈ ns.map Sx := fun x hx => by
    obtain ⟨w, hw, rfl⟩ := List.mem_map.mp ((SetT.met_mem _ _).mp hx)
    exact List.mem_map.mpr ⟨w, h w hw, rfl⟩
  have gg : ∀ (us vs : List Str), us.Nodup → (∀ x ∈ us, x ∈ vs) → us.length ≤ vs.length := by
    intro us
    induction us with
    | nil => intro vs _ _; exact Nat.zero_le _
    | cons u us ih =>
      intro vs nd hs
      obtain ⟨nu, nd⟩ := List.nodup_cons.mp nd
      have hu := hs u List.mem_cons_self
      have := ih (vs.erase u) nd fun x hx => (List.mem_erase_of_ne fun z => nu (by rw [← z]; exact hx)).mpr (hs x (List.mem_cons_of_mem _ hx))
      rw [List.length_erase_of_mem hu] at this
      have hp : 0 < vs.length := List.length_pos_of_mem hu
      rw [List.length_cons]
      omega
  have := gg _ _ nd sb
  rwa [List.length_map] at this
def NmS (ws : List (List Nat)) (ss : List Str) : Prop := ss.Perm (SetT.met (ws.map Sx)) ∧ PyProof.Rows.sortedS ss = true
theorem srt_pw : ∀ {ss : List Str}, PyProof.Rows.sortedS ss = true → ss.Pairwise (fun a b => a.cps.toList ≤ b.cps.toList)
  | [], _ => .nil
  | [x], _ => List.pairwise_singleton _ _
  | x :: y :: r, h => by
    have h' : (!PySem.Spec.ltCps y.cps.toList x.cps.toList && PyProof.Rows.risingS y r) = true := h
    rw [Bool.and_eq_true, PyProof.Rows.ltCps_eq] at h'
    obtain ⟨h1, h2⟩ := h'
    have xy : x.cps.toList ≤ y.cps.toList := by
      have : ¬ y.cps.toList < x.cps.toList := by simpa using h1
      exact this
    have ih := srt_pw (ss := y :: r) h2
    refine List.pairwise_cons.mpr ⟨fun z hz => ?_, ih⟩
    rcases List.mem_cons.mp hz with e | e
    · rw [e]; exact xy
    · exact List.le_trans xy ((List.pairwise_cons.mp ih).1 z e)
theorem c_names_in {x : FE} (xo : x.ok) (xl : x.tx.length ≤ 1000) (xd : x.dp ≤ 20) {ns : List (List Nat)} (hn : ns.length < 64) (xn : ∀ w ∈ nmsL x.lv, w ∈ ns) {l : LH} {Q : DK} (q : ∀ ss, NmS (nmsL x.lv) ss → Q (.lst (ss.map D.str)) l) : callD D_names_in [x.toD] l Q := by
  refine ⟨rfl, ?_⟩
  walk_at "w"
  refine x.lf xo (by omega) (by omega) ?_
  walk_at "w"
  have ll := x.lv_len xo
  refine ⟨by rw [List.length_map]; exact small (by omega), ?_⟩
  refine nin_comp x.lv ?_
  walk_at "w"
  have nl := nmsL_len x.lv
  have mf := met_few xn
  refine ⟨_, txts_nm _, by rw [List.length_map]; omega, by omega, fun ss h1 h2 => ?_⟩
  exact q ss ⟨h1, h2⟩

end Law

namespace Law
open PySem PySem.Spec PyProof.Rows L2 DL
local macro_rules | `(tactic| walk_at "w") => `(tactic| conv => whnf)
local macro_rules | `(tactic| walk_at "s") => `(tactic| (refine ⟨?_⟩; conv => whnf))
local macro_rules | `(tactic| walk_at "z") => `(tactic| (refine small ?_; simp only [List.length_map, List.length_append, List.length_reverse, List.length_cons, List.length_nil]; omega))
local macro_rules | `(tactic| walk_at "q") => `(tactic| (refine ⟨(okN_tints _).ok, (okN_tints _).ok, ?_⟩; rw [eqD_tints]))
/-! a book: its formulas by names, in the order of its dict -/
abbrev BE := List Nat × FE
def bNm (es : List BE) : List (List Nat) := es.map fun e => e.1
def bKs (es : List BE) : List Key := es.map fun e => .inr (Sx e.1)
def bVs (f : FE → D) (es : List BE) : List D := es.map fun e => f e.2
def bGet (w : List Nat) : List BE → Option FE
  | [] => none
  | e :: es => if e.1 = w then some e.2 else bGet w es
def bPut (w : List Nat) (x : FE) (es : List BE) : List BE := if w ∈ bNm es then es.map (fun e => if e.1 = w then (w, x) else e) else es ++ [(w, x)]
def bDel (w : List Nat) (es : List BE) : List BE := es.filter fun e => decide (e.1 ≠ w)
theorem kS_inj {a b : List Nat} : (Sum.inr (Sx a) : Key) = .inr (Sx b) ↔ a = b := ⟨fun h => Sx_inj.mp (by injection h), fun h => by rw [h]⟩
theorem bKs_mem {es : List BE} {w : List Nat} : (Sum.inr (Sx w) : Key) ∈ bKs es ↔ w ∈ bNm es := by
  unfold bKs bNm
  rw [List.mem_map, List.mem_map]
  exact ⟨fun ⟨e, h, k⟩ => ⟨e, h, kS_inj.mp k⟩, fun ⟨e, h, k⟩ => ⟨e, h, kS_inj.mpr k⟩⟩
theorem bGet_some {w : List Nat} : ∀ {es : List BE}, (bGet w es).isSome = decide (w ∈ bNm es)
  | [] => rfl
  | e :: es => by
    unfold bGet
    by_cases h : e.1 = w
    · rw [if_pos h, decide_eq_true (by rw [← h]; exact List.mem_cons_self)]; rfl
    · rw [if_neg h, bGet_some]
      refine decide_eq_decide.mpr ⟨fun z => List.mem_cons_of_mem _ z, fun z => ?_⟩
      exact (List.mem_cons.mp (show w ∈ e.1 :: bNm es from z)).resolve_left (Ne.symm h)
theorem bGet_mem {w : List Nat} {x : FE} : ∀ {es : List BE}, bGet w es = some x → (w, x) ∈ es
  | [], h => by cases h
  | e :: es, h => by
    unfold bGet at h
    split at h
    · rename_i k
      cases h
      rw [← k]
      exact List.mem_cons_self
    · exact List.mem_cons_of_mem _ (bGet_mem h)
theorem getA_b (f : FE → D) (w : List Nat) : ∀ es : List BE, getA (bKs es) (bVs f es) (.inr (Sx w)) = (bGet w es).map f
  | [] => rfl
  | e :: es => by
    show (if (Sum.inr (Sx e.1) : Key) = .inr (Sx w) then some (f e.2) else getA (bKs es) (bVs f es) (.inr (Sx w))) = _
    unfold bGet
    by_cases h : e.1 = w
    · rw [if_pos (kS_inj.mpr h), if_pos h]; rfl
    · rw [if_neg (fun z => h (kS_inj.mp z)), if_neg h, getA_b]
theorem rep_b (f : FE → D) (w : List Nat) (x : FE) : ∀ es : List BE, repA (bKs es) (bVs f es) (.inr (Sx w)) (f x) = bVs f (es.map fun e => if e.1 = w then (w, x) else e)
  | [] => rfl
  | e :: es => by
    show (if (Sum.inr (Sx e.1) : Key) = .inr (Sx w) then f x else f e.2) :: repA (bKs es) (bVs f es) (.inr (Sx w)) (f x) = f (if e.1 = w then (w, x) else e).2 :: bVs f (es.map fun e => if e.1 = w then (w, x) else e)
    rw [rep_b f w x es]
    by_cases h : e.1 = w
    · rw [if_pos (kS_inj.mpr h), if_pos h]
    · rw [if_neg (fun z => h (kS_inj.mp z)), if_neg h]
theorem put_nm (w : List Nat) (x : FE) (es : List BE) : (es.map fun e => if e.1 = w then (w, x) else e).map (fun e => e.1) = bNm es := by
  rw [List.map_map]
  refine List.map_congr_left fun e _ => ?_
  show (if e.1 = w then (w, x) else e).1 = e.1
  split
  · rename_i h; exact h.symm
  · rfl
theorem bKs_nm (es : List BE) : bKs es = (bNm es).map fun w => .inr (Sx w) := by unfold bKs bNm; rw [List.map_map]; rfl
theorem putK_b (w : List Nat) (x : FE) (es : List BE) : putKs (bKs es) (.inr (Sx w)) = bKs (bPut w x es) := by
  unfold putKs bPut
  by_cases h : w ∈ bNm es
  · rw [if_pos (bKs_mem.mpr h), if_pos h, bKs_nm, bKs_nm]
    congr 1
    exact (put_nm w x es).symm
  · rw [if_neg (fun z => h (bKs_mem.mp z)), if_neg h]
    unfold bKs
    rw [List.map_append]
    rfl
theorem putD_b (f : FE → D) (w : List Nat) (x : FE) (es : List BE) : putDs (bKs es) (bVs f es) (.inr (Sx w)) (f x) = bVs f (bPut w x es) := by
  unfold putDs bPut
  by_cases h : w ∈ bNm es
  · rw [if_pos (bKs_mem.mpr h), if_pos h, rep_b]
  · rw [if_neg (fun z => h (bKs_mem.mp z)), if_neg h]
    unfold bVs
    rw [List.map_append]
    rfl
theorem delK_b (w : List Nat) : ∀ es : List BE, delKs (bKs es) (.inr (Sx w)) = bKs (bDel w es)
  | [] => rfl
  | e :: es => by
    show (if (Sum.inr (Sx e.1) : Key) = .inr (Sx w) then delKs (bKs es) (.inr (Sx w)) else .inr (Sx e.1) :: delKs (bKs es) (.inr (Sx w))) = _
    unfold bDel
    rw [List.filter_cons, delK_b w es]
    by_cases h : e.1 = w
    · rw [if_pos (kS_inj.mpr h), if_neg (by simp [h])]; rfl
    · rw [if_neg (fun z => h (kS_inj.mp z)), if_pos (by simp [h])]; rfl
theorem delD_b (f : FE → D) (w : List Nat) : ∀ es : List BE, delDs (bKs es) (bVs f es) (.inr (Sx w)) = bVs f (bDel w es)
  | [] => rfl
  | e :: es => by
    show (if (Sum.inr (Sx e.1) : Key) = .inr (Sx w) then delDs (bKs es) (bVs f es) (.inr (Sx w)) else f e.2 :: delDs (bKs es) (bVs f es) (.inr (Sx w))) = _
    unfold bDel
    rw [List.filter_cons, delD_b f w es]
    by_cases h : e.1 = w
    · rw [if_pos (kS_inj.mpr h), if_neg (by simp [h])]; rfl
    · rw [if_neg (fun z => h (kS_inj.mp z)), if_pos (by simp [h])]; rfl
theorem bPut_nm (w : List Nat) (x : FE) (es : List BE) : bNm (bPut w x es) = if w ∈ bNm es then bNm es else bNm es ++ [w] := by
  unfold bPut
  by_cases h : w ∈ bNm es
  · rw [if_pos h, if_pos h]; exact put_nm w x es
  · rw [if_neg h, if_neg h]; unfold bNm; rw [List.map_append]; rfl
theorem bDel_nm (w : List Nat) : ∀ es : List BE, bNm (bDel w es) = (bNm es).filter fun v => decide (v ≠ w)
  | [] => rfl
  | e :: es => by
    show bNm (List.filter _ (e :: es)) = List.filter _ (e.1 :: bNm es)
    rw [List.filter_cons, List.filter_cons]
    by_cases h : e.1 = w
    · rw [if_neg (by simp [h]), if_neg (by simp [h])]; exact bDel_nm w es
    · rw [if_pos (by simp [h]), if_pos (by simp [h])]; exact congrArg (e.1 :: ·) (bDel_nm w es)
theorem bPut_mem {w : List Nat} {x : FE} {es : List BE} {e : BE} (h : e ∈ bPut w x es) : e = (w, x) ∨ e ∈ es := by
  unfold bPut at h
  split at h
  · obtain ⟨a, ha, k⟩ := List.mem_map.mp h
    split at k
    · exact .inl k.symm
    · exact .inr (by rw [← k]; exact ha)
  · rcases List.mem_append.mp h with h | h
    · exact .inr h
    · exact .inl (List.mem_singleton.mp h)
theorem bDel_mem {w : List Nat} {es : List BE} {e : BE} (h : e ∈ bDel w es) : e ∈ es := (List.mem_filter.mp h).1
/-- what may stand in a book -/
structure EOk (e : BE) : Prop where
  nm : NmOk e.1
  ok : e.2.ok
  ln : e.2.tx.length ≤ 1000
  dp : e.2.dp ≤ 20
  few : (nmsL e.2.lv).length < 64
structure EsOk (es : List BE) : Prop where
  all : ∀ e ∈ es, EOk e
  nd : (bNm es).Nodup
  len : es.length ≤ 50
theorem EsOk.put {es : List BE} (h : EsOk es) {w : List Nat} {x : FE} (e : EOk (w, x)) (hl : es.length < 50) : EsOk (bPut w x es) where
  all := fun a ha => (bPut_mem ha).elim (fun z => by rw [z]; exact e) (h.all a)
  nd := by
    rw [bPut_nm]
    split
    · exact h.nd
    · rename_i hn
      refine List.nodup_append.mpr ⟨h.nd, List.pairwise_singleton _ _, fun a ha b hb => ?_⟩
      rw [List.mem_singleton.mp hb]
      exact fun z => hn (by rw [← z]; exact ha)
  len := by
    have := congrArg List.length (bPut_nm w x es)
    have e1 : (bNm (bPut w x es)).length = (bPut w x es).length := List.length_map ..
    have e2 : (bNm es).length = es.length := List.length_map ..
    split at this
    · omega
    · rw [List.length_append, List.length_singleton] at this; omega
theorem EsOk.del {es : List BE} (h : EsOk es) (w : List Nat) : EsOk (bDel w es) where
  all := fun a ha => h.all a (bDel_mem ha)
  nd := by rw [bDel_nm]; exact h.nd.filter _
  len := Nat.le_trans (List.length_filter_le _ _) h.len
structure BkAt (l : LH) (k g fd : Addr) (es : List BE) : Prop where
  k : l k = some (.ins cl_Book [.ref g, .ref fd])
  f : l fd = some (.dK (bKs es) (bVs FE.toD es))
theorem BkAt.sub {l l' : LH} {k g fd : Addr} {es : List BE} (h : BkAt l k g fd es) (s : DL.Sub l l') : BkAt l' k g fd es := ⟨s _ _ h.k, s _ _ h.f⟩
theorem nm_sg {w : List Nat} (h : NmOk w) : Sg w := fun c hc => by
  have := isSmall_iff.mp (h.2.2 c hc)
  omega
/-! names, sorted -/
def sortN (ws : List (List Nat)) : List (List Nat) := ((SetT.met (ws.map Sx)).map fun z => z.cps.toList).mergeSort fun a b => decide (a ≤ b)
theorem sortN_perm (ws : List (List Nat)) : (sortN ws).Perm ((SetT.met (ws.map Sx)).map fun z => z.cps.toList) := List.mergeSort_perm _ _
theorem Sx_tl (a : List Nat) : (Sx a).cps.toList = a := by simp
theorem sortN_mem {ws : List (List Nat)} {w : List Nat} : w ∈ sortN ws ↔ w ∈ ws := by
  rw [(sortN_perm ws).mem_iff, List.mem_map]
  constructor
  · rintro ⟨z, hz, e⟩
    rw [SetT.met_mem] at hz
    obtain ⟨u, hu, k⟩ := List.mem_map.mp hz
    rw [← e, ← k, Sx_tl]
    exact hu
  · intro h
    exact ⟨Sx w, (SetT.met_mem _ _).mpr (List.mem_map.mpr ⟨w, h, rfl⟩), Sx_tl w⟩
theorem sortN_len (ws : List (List Nat)) : (sortN ws).length ≤ ws.length := by
  rw [(sortN_perm ws).length_eq, List.length_map]
  exact Nat.le_trans (SetT.met_len _) (by rw [List.length_map]; exact Nat.le_refl _)
theorem sortN_pw (ws : List (List Nat)) : (sortN ws).Pairwise fun a b => a ≤ b := by
  have := List.pairwise_mergeSort (le := fun a b : List Nat => decide (a ≤ b)) (fun a b c h1 h2 => decide_eq_true (List.le_trans (of_decide_eq_true h1) (of_decide_eq_true h2))) (fun a b => by
    rw [Bool.or_eq_true, decide_eq_true_iff, decide_eq_true_iff]
    exact List.le_total a b) ((SetT.met (ws.map Sx)).map fun z => z.cps.toList)
  exact this.imp fun h => of_decide_eq_true h
theorem nmS_sort {ws : List (List Nat)} {ss : List Str} (h : NmS ws ss) : ss = (sortN ws).map Sx := by
  have e : ss.map (fun z => z.cps.toList) = sortN ws := by
    refine List.Perm.eq_of_pairwise (le := fun a b : List Nat => a ≤ b) (fun a b _ _ h1 h2 => List.le_antisymm h1 h2) ?_ (sortN_pw ws) ((h.1.map _).trans (sortN_perm ws).symm)
    exact List.pairwise_map.mpr (srt_pw h.2)
  rw [← e, List.map_map]
  conv => lhs; rw [← List.map_id ss]
  exact List.map_congr_left fun z _ => Sx_of z
theorem nmS_strD {ws : List (List Nat)} {ss : List Str} (h : NmS ws ss) : ss.map D.str = (sortN ws).map strD := by
  rw [nmS_sort h, List.map_map]; rfl
/-- the names that a name's own formula needs -/
def own (es : List BE) (w : List Nat) : List (List Nat) := match bGet w es with
  | some x => sortN (nmsL x.lv)
  | none => []
theorem own_len {es : List BE} (h : EsOk es) (w : List Nat) : (own es w).length ≤ 63 := by
  unfold own
  split
  · rename_i x e
    have := (h.all _ (bGet_mem e)).few
    exact Nat.le_trans (sortN_len _) (by show (nmsL x.lv).length ≤ 63; have : (nmsL x.lv).length < 64 := this; omega)
  · exact Nat.zero_le _
theorem c_own_needs {l : LH} {k g fd : Addr} {es : List BE} (B : BkAt l k g fd es) (E : EsOk es) (w : List Nat) {Q : DK} (q : Q (.lst ((own es w).map strD)) l) : callD D_Book_own_needs [.ref k, .str (Sx w)] l Q := by
  have sm := bGet_some (w := w) (es := es)
  refine ⟨rfl, ?_⟩
  walk_at "w"
  refine ⟨_, B.k, rfl, ?_⟩
  walk_at "w"
  refine ⟨_, B.f, _, rfl, ?_⟩
  dsimp only
  rw [getA_b]
  cases e : bGet w es with
  | none =>
    refine ifB_true ?_
    walk_at "w"
    refine ⟨Nat.le_of_ble_eq_true rfl, ?_⟩
    rw [show own es w = [] by unfold own; rw [e]] at q
    exact q
  | some x =>
    refine ifB_false ?_
    walk_at "s"
    refine ⟨_, B.k, rfl, ?_⟩
    walk_at "w"
    refine ⟨_, B.f, _, rfl, ?_⟩
    dsimp only
    rw [getA_b, e]
    walk_at "w"
    have O := E.all _ (bGet_mem e)
    refine c_names_in O.ok O.ln O.dp O.few (fun _ h => h) fun ss hs => ?_
    rw [nmS_strD hs]
    rw [show own es w = sortN (nmsL x.lv) by unfold own; rw [e]] at q
    exact q
/-! what is refused by a name that is not there, dropped, told -/
theorem c_look_there {wd : D → LH → Prop} {l : LH} {k g fd : Addr} {es : List BE} (B : BkAt l k g fd es) {w : List Nat} {Q : DK} (h1 : w ∈ bNm es → Q .non l) (h2 : w ∉ bNm es → wd (.exc1 8 (.str (Sx w))) l) : callD (D_Book_look_there wd) [.ref k, .str (Sx w)] l Q := by
  have sm := bGet_some (w := w) (es := es)
  refine ⟨rfl, ?_⟩
  walk_at "w"
  refine ⟨_, B.k, rfl, ?_⟩
  walk_at "w"
  refine ⟨_, B.f, _, rfl, ?_⟩
  dsimp only
  rw [getA_b, Option.isSome_map, sm]
  by_cases h : w ∈ bNm es
  · rw [decide_eq_true h]
    refine ifB_false ?_
    exact h1 h
  · rw [decide_eq_false h]
    refine ifB_true ?_
    exact h2 h
theorem c_drop {wd : D → LH → Prop} {l : LH} {k g fd : Addr} {es : List BE} (B : BkAt l k g fd es) (kf : k ≠ fd) {w : List Nat} {Q : DK} (h1 : w ∈ bNm es → ∀ l', BkAt l' k g fd (bDel w es) → (∀ z, z ≠ fd → l' z = l z) → Q .non l') (h2 : w ∉ bNm es → wd (.exc1 8 (.str (Sx w))) l) : callD (D_Book_drop wd) [.ref k, .str (Sx w)] l Q := by
  have sm := bGet_some (w := w) (es := es)
  refine ⟨rfl, ?_⟩
  walk_at "w"
  refine ⟨_, B.k, rfl, ?_⟩
  walk_at "w"
  refine c_look_there B (fun h => ?_) h2
  rw [decide_eq_true h] at sm
  obtain ⟨x, hx⟩ := Option.isSome_iff_exists.mp sm
  walk_at "w"
  walk_at "s"
  refine ⟨_, B.k, rfl, ?_⟩
  walk_at "w"
  refine ⟨_, B.f, ?_⟩
  walk_at "w"
  refine ⟨_, B.f, _, rfl, _, by rw [getA_b, hx]; rfl, ?_⟩
  walk_at "w"
  refine h1 h _ ⟨(uL_ne kf).trans B.k, ?_⟩ (fun z hz => uL_ne hz)
  rw [delK_b, delD_b]
  exact uL_same
/-! the text of a name -/
theorem c_text_of {wd : D → LH → Prop} {l : LH} {k g fd : Addr} {es : List BE} (B : BkAt l k g fd es) (E : EsOk es) {w : List Nat} {Q : DK} (h1 : ∀ x, bGet w es = some x → Q (.str (Sx x.tx)) l) (h2 : w ∉ bNm es → wd (.exc1 8 (.str (Sx w))) l) : callD (D_Book_text_of wd) [.ref k, .str (Sx w)] l Q := by
  have sm := bGet_some (w := w) (es := es)
  refine ⟨rfl, ?_⟩
  walk_at "w"
  refine ⟨_, B.k, rfl, ?_⟩
  walk_at "w"
  refine c_look_there B (fun h => ?_) h2
  rw [decide_eq_true h] at sm
  obtain ⟨x, hx⟩ := Option.isSome_iff_exists.mp sm
  have O := E.all _ (bGet_mem hx)
  have o3 : x.tx.length ≤ 1000 := O.ln
  have o4 : x.dp ≤ 20 := O.dp
  walk_at "w"
  walk_at "s"
  refine ⟨_, B.k, rfl, ?_⟩
  walk_at "w"
  refine ⟨_, B.f, _, rfl, ?_⟩
  dsimp only
  rw [getA_b, hx]
  walk_at "w"
  exact x.tw O.ok (by omega) (by omega) (h1 x hx)

end Law

namespace Law
open PySem PySem.Spec PyProof.Rows L2 DL
local macro_rules | `(tactic| walk_at "w") => `(tactic| conv => whnf)
local macro_rules | `(tactic| walk_at "s") => `(tactic| (refine ⟨?_⟩; conv => whnf))
local macro_rules | `(tactic| walk_at "z") => `(tactic| (refine small ?_; simp only [List.length_map, List.length_append, List.length_reverse, List.length_cons, List.length_nil]; omega))
local macro_rules | `(tactic| walk_at "q") => `(tactic| (refine ⟨(okN_tints _).ok, (okN_tints _).ok, ?_⟩; rw [eqD_tints]))
/-! the shortest ring by which a name would need itself -/
abbrev RP := List (List Nat) × List Nat
def rpD (p : RP) : D := .lst ((p.1 ++ [p.2]).map strD)
inductive RR where
  | hit (p : RP)
  | on (lg : List RP) (met : List (List Nat))
def lgr (own : List Nat → List (List Nat)) (p : RP) : List RP := (own p.2).map fun o => (p.1 ++ [p.2], o)
def rnd (own : List Nat → List (List Nat)) (nm : List Nat) : List RP → List (List Nat) → List RP → RR
  | [], met, lg => .on lg met
  | p :: ps, met, lg => if p.2 = nm then .hit p else if p.2 ∈ met then rnd own nm ps met lg else rnd own nm ps (met ++ [p.2]) (lg ++ lgr own p)
def bfs (own : List Nat → List (List Nat)) (nm : List Nat) : Nat → List RP → List (List Nat) → Option RP
  | 0, _, _ => none
  | _ + 1, [], _ => none
  | m + 1, p :: ps, met => match rnd own nm (p :: ps) met [] with
    | .hit p => some p
    | .on lg met' => bfs own nm m lg met'
theorem nodup_len {α : Type} [DecidableEq α] : ∀ {xs U : List α}, xs.Nodup → (∀ x ∈ xs, x ∈ U) → xs.length ≤ U.length
  | [], _, _, _ => Nat.zero_le _
  | x :: xs, U, h, s => by
    have h' := List.nodup_cons.mp h
    have hx := s x List.mem_cons_self
    have := nodup_len (xs := xs) (U := U.erase x) h'.2 fun y hy => (List.mem_erase_of_ne (fun e => h'.1 (by rw [← e]; exact hy))).mpr (s y (List.mem_cons_of_mem _ hy))
    rw [List.length_erase_of_mem hx] at this
    have := List.length_pos_of_mem hx
    rw [List.length_cons]
    omega
theorem rnd_on {own : List Nat → List (List Nat)} {nm : List Nat} {U : List (List Nat)} (hU : ∀ w, ∀ o ∈ own w, o ∈ U) (h63 : ∀ w, (own w).length ≤ 63) {n : Nat} : ∀ (ps : List RP) {met : List (List Nat)} {lg : List RP} {lg' : List RP} {met' : List (List Nat)}, rnd own nm ps met lg = .on lg' met' → (∀ p ∈ ps, p.2 ∈ U ∧ p.1.length ≤ n) → met.Nodup → (∀ w ∈ met, w ∈ U) → (∀ p ∈ lg, p.2 ∈ U ∧ p.1.length ≤ n + 1) →
    met'.Nodup ∧ (∀ w ∈ met', w ∈ U) ∧ (∀ p ∈ lg', p.2 ∈ U ∧ p.1.length ≤ n + 1) ∧ met.length ≤ met'.length ∧ (met'.length = met.length → lg' = lg) ∧ (lg.length ≤ 63 * met.length → lg'.length ≤ 63 * met'.length)
  | [], met, lg, lg', met', h, hp, hm, hmU, hl => by
    cases h
    exact ⟨hm, hmU, hl, Nat.le_refl _, fun _ => rfl, id⟩
  | p :: ps, met, lg, lg', met', h, hp, hm, hmU, hl => by
    unfold rnd at h
    split at h
    · cases h
    have hp' := fun q hq => hp q (List.mem_cons_of_mem _ hq)
    obtain ⟨p1, p2⟩ := hp p List.mem_cons_self
    split at h
    · exact rnd_on hU h63 ps h hp' hm hmU hl
    · rename_i nmet
      obtain ⟨r1, r2, r3, r4, r5, r6⟩ := rnd_on hU h63 ps h hp' (List.nodup_append.mpr ⟨hm, List.pairwise_singleton _ _, fun a ha b hb => by rw [List.mem_singleton.mp hb]; exact fun z => nmet (by rw [← z]; exact ha)⟩) (fun w hw => (List.mem_append.mp hw).elim (hmU w) fun z => by rw [List.mem_singleton.mp z]; exact p1) (fun q hq => (List.mem_append.mp hq).elim (hl q) fun z => by
        unfold lgr at z
        obtain ⟨o, ho, rfl⟩ := List.mem_map.mp z
        refine ⟨hU _ o ho, ?_⟩
        show (p.1 ++ [p.2]).length ≤ n + 1
        rw [List.length_append, List.length_singleton]
        omega)
      rw [List.length_append, List.length_singleton] at r4 r5
      have o63 := h63 p.2
      have lgl : (lgr own p).length ≤ 63 := by unfold lgr; rw [List.length_map]; exact o63
      exact ⟨r1, r2, r3, by omega, fun e => by omega, fun hl => r6 (by rw [List.length_append, List.length_append, List.length_singleton]; omega)⟩
def mtK (met : List (List Nat)) : List Key := met.map fun w => .inr (Sx w)
def mtV (met : List (List Nat)) : List D := met.map fun _ => .bl true
theorem getA_mt (w : List Nat) : ∀ met : List (List Nat), (getA (mtK met) (mtV met) (.inr (Sx w))).isSome = decide (w ∈ met)
  | [] => rfl
  | v :: met => by
    show (if (Sum.inr (Sx v) : Key) = .inr (Sx w) then some (D.bl true) else getA (mtK met) (mtV met) (.inr (Sx w))).isSome = _
    by_cases h : v = w
    · rw [if_pos (kS_inj.mpr h), decide_eq_true (by rw [h]; exact List.mem_cons_self)]; rfl
    · rw [if_neg (fun z => h (kS_inj.mp z)), getA_mt w met]
      refine decide_eq_decide.mpr ⟨fun z => List.mem_cons_of_mem _ z, fun z => (List.mem_cons.mp z).resolve_left (Ne.symm h)⟩
theorem mtK_mem {w : List Nat} {met : List (List Nat)} : (Sum.inr (Sx w) : Key) ∈ mtK met ↔ w ∈ met := by
  unfold mtK
  rw [List.mem_map]
  exact ⟨fun ⟨e, h, k⟩ => by rw [← kS_inj.mp k]; exact h, fun h => ⟨w, h, rfl⟩⟩
theorem mt_put {w : List Nat} {met : List (List Nat)} (h : w ∉ met) : putKs (mtK met) (.inr (Sx w)) = mtK (met ++ [w]) ∧ putDs (mtK met) (mtV met) (.inr (Sx w)) (.bl true) = mtV (met ++ [w]) := by
  unfold putKs putDs
  rw [if_neg (fun z => h (mtK_mem.mp z)), if_neg (fun z => h (mtK_mem.mp z))]
  unfold mtK mtV
  rw [List.map_append, List.map_append]
  exact ⟨rfl, rfl⟩
theorem rp_last (p : RP) : atI ((p.1 ++ [p.2]).map strD) (-1) = some (.str (Sx p.2)) := by
  rw [List.map_append]
  exact atI_last _ _
theorem lgr_comp {e0 e1 e2 e3 e4 e5 : Option D} {p : RP} (hp : p.1.length ≤ 5000) : ∀ (ws : List (List Nat)) {e7 : Option D} {l : LH} {Q : List D → LH → Prop}, Q (ws.map fun o => rpD (p.1 ++ [p.2], o)) l → compL (gName 7) tYes (nE C_Book_ring_by_2) [7] (ws.map strD) [e0, e1, e2, e3, e4, e5, some (rpD p), e7] l Q
  | [], e7, l, Q, q => q
  | w :: ws, e7, l, Q, q => by
    rw [List.map_cons]
    walk_at "w"
    refine ifB_true ?_
    walk_at "s"
    refine ⟨Nat.le_of_ble_eq_true rfl, ?_⟩
    walk_at "w"
    refine ⟨by refine small ?_; rw [List.length_map, List.length_append, List.length_singleton, List.length_singleton]; omega, ?_⟩
    refine lgr_comp hp ws ?_
    have e : D.lst ((p.1 ++ [p.2]).map strD ++ [strD w]) = rpD (p.1 ++ [p.2], w) := by
      unfold rpD
      show _ = D.lst ((p.1 ++ [p.2] ++ [w]).map strD)
      rw [List.map_append (l₁ := p.1 ++ [p.2])]
      rfl
    rw [e]
    exact q
theorem ring_loop {bk g fd : Addr} {es : List BE} {l0 : LH} (B : BkAt l0 bk g fd es) (E : EsOk es) {nm : List Nat} (sgn : Sg nm) {U : List (List Nat)} (hU : ∀ w, ∀ o ∈ own es w, o ∈ U) (sgU : ∀ w ∈ U, Sg w) (Ul : U.length ≤ 1500) {mt lb : Addr} (nm0 : l0 mt = none) (nb0 : l0 lb = none) (ne : mt ≠ lb) {e2 e3 : Option D} {E' : DEnds} {n : Nat} (hn : n ≤ 5000) : ∀ (ps : List RP) {met : List (List Nat)} {lg : List RP} {l : LH} {e6 e7 : Option D}, (∀ p ∈ ps, p.2 ∈ U ∧ p.1.length ≤ n) → met.Nodup → (∀ w ∈ met, w ∈ U) → lg.length ≤ 63 * met.length → DL.Sub l0 l → l mt = some (.dK (mtK met) (mtV met)) → l lb = some (.lst (lg.map rpD)) →
    (∀ p l', rnd (own es) nm ps met lg = .hit p → DL.Sub l0 l' → E'.rt (rpD p) l') →
    (∀ lg' met' l' e6 e7, rnd (own es) nm ps met lg = .on lg' met' → DL.Sub l0 l' → l' mt = some (.dK (mtK met') (mtV met')) → l' lb = some (.lst (lg'.map rpD)) → E'.nx [some (.ref bk), some (.str (Sx nm)), e2, e3, some (.ref mt), some (.ref lb), e6, e7] l') →
    forL (gName 6) (nS B_Book_ring_by_1) (ps.map rpD) E' [some (.ref bk), some (.str (Sx nm)), e2, e3, some (.ref mt), some (.ref lb), e6, e7] l
  | [], met, lg, l, e6, e7, hp, hm, hmU, hl, s, m1, b1, h1, h2 => h2 lg met l e6 e7 rfl s m1 b1
  | p :: ps, met, lg, l, e6, e7, hp, hm, hmU, hl, s, m1, b1, h1, h2 => by
    have ml := nodup_len hm hmU
    obtain ⟨p1, p2⟩ := hp p List.mem_cons_self
    have hp' := fun q hq => hp q (List.mem_cons_of_mem _ hq)
    rw [List.map_cons]
    refine ⟨?_⟩
    walk_at "w"
    refine ⟨_, rp_last p, ?_⟩
    refine ⟨(okS (sgU _ p1)).ok, (okS sgn).ok, ?_⟩
    rw [eqD_S]
    by_cases hit : p.2 = nm
    · rw [decide_eq_true hit]
      refine ifB_true ?_
      walk_at "w"
      exact h1 p l (by unfold rnd; rw [if_pos hit]) s
    · rw [decide_eq_false hit]
      refine ifB_false ?_
      walk_at "w"
      refine ⟨_, rp_last p, ?_⟩
      refine ⟨_, m1, _, rfl, ?_⟩
      dsimp only
      rw [getA_mt]
      by_cases hmem : p.2 ∈ met
      · rw [decide_eq_true hmem]
        refine ifB_false ?_
        have er : rnd (own es) nm (p :: ps) met lg = rnd (own es) nm ps met lg := by
          conv => lhs; unfold rnd
          rw [if_neg hit, if_pos hmem]
        rw [er] at h1 h2
        exact ring_loop B E sgn hU sgU Ul nm0 nb0 ne hn ps hp' hm hmU hl s m1 b1 h1 h2
      · rw [decide_eq_false hmem]
        refine ifB_true ?_
        have er : rnd (own es) nm (p :: ps) met lg = rnd (own es) nm ps (met ++ [p.2]) (lg ++ lgr (own es) p) := by
          conv => lhs; unfold rnd
          rw [if_neg hit, if_neg hmem]
        rw [er] at h1 h2
        walk_at "w"
        refine ⟨_, rp_last p, ?_⟩
        refine ⟨_, m1, _, rfl, small (by unfold mtK; rw [List.length_map]; omega), ?_⟩
        rw [(mt_put hmem).1, (mt_put hmem).2]
        have s1 : DL.Sub l0 (uL l mt (.dK (mtK (met ++ [p.2])) (mtV (met ++ [p.2])))) := fun a o h => by
          rw [uL_ne (fun e => by rw [e, nm0] at h; cases h)]
          exact s a o h
        have m2 : uL l mt (.dK (mtK (met ++ [p.2])) (mtV (met ++ [p.2]))) mt = some (.dK (mtK (met ++ [p.2])) (mtV (met ++ [p.2]))) := uL_same
        have b2 : uL l mt (.dK (mtK (met ++ [p.2])) (mtV (met ++ [p.2]))) lb = some (.lst (lg.map rpD)) := (uL_ne (Ne.symm ne)).trans b1
        generalize uL l mt (.dK (mtK (met ++ [p.2])) (mtV (met ++ [p.2]))) = l1 at s1 m2 b2
        have ol := own_len E p.2
        walk_at "w"
        have B1 := B.sub s1
        refine ⟨_, b2, ?_⟩
        walk_at "w"
        refine ⟨_, B1.k, rfl, ?_⟩
        walk_at "w"
        refine ⟨_, rp_last p, ?_⟩
        refine c_own_needs B1 E p.2 ?_
        walk_at "w"
        refine ⟨by refine small ?_; rw [List.length_map]; omega, ?_⟩
        refine lgr_comp (by omega) _ ?_
        walk_at "w"
        refine ⟨_, b2, ?_⟩
        have lgl : (lgr (own es) p).length ≤ 63 := by unfold lgr; rw [List.length_map]; exact ol
        have ea : lg.map rpD ++ (own es p.2).map (fun o => rpD (p.1 ++ [p.2], o)) = (lg ++ lgr (own es) p).map rpD := by
          rw [List.map_append]
          unfold lgr
          rw [List.map_map]
          rfl
        refine ⟨by refine small ?_; rw [List.length_map, List.length_map]; omega, ?_⟩
        rw [ea]
        have nd' : (met ++ [p.2]).Nodup := List.nodup_append.mpr ⟨hm, List.pairwise_singleton _ _, fun a ha b hb => by rw [List.mem_singleton.mp hb]; exact fun z => hmem (by rw [← z]; exact ha)⟩
        refine ring_loop B E sgn hU sgU Ul nm0 nb0 ne hn ps hp' nd' (fun w hw => (List.mem_append.mp hw).elim (hmU w) fun z => by rw [List.mem_singleton.mp z]; exact p1) (by rw [List.length_append, List.length_append, List.length_singleton]; omega) (fun a o h => ?_) ((uL_ne ne).trans m2) uL_same h1 h2
        rw [uL_ne (fun e => by rw [e, nb0] at h; cases h)]
        exact s1 a o h
theorem start_comp {e0 e2 e3 e4 e5 e6 : Option D} {nm : List Nat} : ∀ (ws : List (List Nat)) {e7 : Option D} {l : LH} {Q : List D → LH → Prop}, Q ((ws.map fun o => (([nm], o) : RP)).map rpD) l → compL (gName 7) tYes (nE C_Book_ring_by_1) [7] (ws.map strD) [e0, some (.str (Sx nm)), e2, e3, e4, e5, e6, e7] l Q
  | [], e7, l, Q, q => q
  | w :: ws, e7, l, Q, q => by
    rw [List.map_cons]
    walk_at "w"
    refine ifB_true ?_
    walk_at "s"
    refine ⟨Nat.le_of_ble_eq_true rfl, ?_⟩
    refine start_comp ws ?_
    exact q
def ringR (es : List BE) (nm : List Nat) (x : FE) (U : List (List Nat)) : Option RP := bfs (own es) nm (2 * U.length + 1) ((sortN (nmsL x.lv)).map fun o => ([nm], o)) []
theorem c_ring_by {bk g fd : Addr} {es : List BE} {l : LH} (B : BkAt l bk g fd es) (E : EsOk es) {nm : List Nat} (sgn : Sg nm) {x : FE} (xe : EOk (nm, x)) {U : List (List Nat)} (hU : ∀ w, ∀ o ∈ own es w, o ∈ U) (hx : ∀ o ∈ nmsL x.lv, o ∈ U) (sgU : ∀ w ∈ U, Sg w) (Ul : U.length ≤ 1500) {Q : DK}
    (q : ∀ l', DL.Sub l l' → Q (match ringR es nm x U with | none => .non | some p => rpD p) l') : callD D_Book_ring_by [.ref bk, .str (Sx nm), x.toD] l Q := by
  have h63 : ∀ w, (own es w).length ≤ 63 := own_len E
  generalize hR : ringR es nm x U = R at q
  unfold ringR at hR
  refine ⟨rfl, ?_⟩
  walk_at "w"
  refine c_names_in xe.ok xe.ln xe.dp xe.few (fun _ h => h) fun ss hs => ?_
  rw [nmS_strD hs]
  have fl : (sortN (nmsL x.lv)).length ≤ 63 := by
    have h1 := sortN_len (nmsL x.lv)
    have h2 : (nmsL x.lv).length < 64 := xe.few
    omega
  walk_at "w"
  refine ⟨by refine small ?_; rw [List.length_map]; have fl' : (sortN (nmsL (nm, x).2.lv)).length ≤ 63 := fl; omega, ?_⟩
  refine start_comp _ ?_
  generalize hst : ((sortN (nmsL x.lv)).map fun o => (([nm], o) : RP)) = st at hR ⊢
  have st1 : ∀ p ∈ st, p.2 ∈ U ∧ p.1.length ≤ 1 := fun p hp => by
    rw [← hst] at hp
    obtain ⟨o, ho, rfl⟩ := List.mem_map.mp hp
    exact ⟨hx o (sortN_mem.mp ho), Nat.le_refl _⟩
  have st2 : st.length ≤ 63 := by rw [← hst, List.length_map]; exact fl
  walk_at "s"
  intro mt nmt
  have s0 : DL.Sub l (uL l mt (.dK [] [])) := fun a o h => by rw [uL_ne (fun e => by rw [e, nmt] at h; cases h)]; exact h
  have m0 : uL l mt (.dK [] []) mt = some (.dK (mtK []) (mtV [])) := uL_same
  generalize uL l mt (.dK [] []) = l1 at s0 m0
  walk_at "w"
  walk_at "s"
  refine ⟨fun m env l' => ∃ ps met e5 e6 e7, env = [some (.ref bk), some (.str (Sx nm)), some x.toD, some (.lst (ps.map rpD)), some (.ref mt), e5, e6, e7] ∧ DL.Sub l l' ∧ l' mt = some (.dK (mtK met) (mtV met)) ∧ met.Nodup ∧ (∀ w ∈ met, w ∈ U) ∧ (∀ p ∈ ps, p.2 ∈ U ∧ p.1.length + m ≤ 2 * U.length + 2) ∧ ps.length ≤ 100000 ∧ bfs (own es) nm m ps met = R ∧ 2 * (U.length - met.length) + (if ps = [] then 0 else 1) ≤ m,
    ⟨2 * U.length + 1, st, [], _, _, _, rfl, s0, m0, List.nodup_nil, fun w hw => (by cases hw), fun p hp => ⟨(st1 p hp).1, by have := (st1 p hp).2; omega⟩, by omega, hR, by rw [List.length_nil]; split <;> omega⟩, ?_⟩
  rintro m env l2 ⟨ps, met, e5, e6, e7, rfl, s2, m2, nd, mU, pU, pl, bR, bm⟩
  have ml := nodup_len nd mU
  cases ps with
  | nil =>
    walk_at "w"
    refine ifB_false ?_
    walk_at "w"
    walk_at "s"
    have : R = none := by rw [← bR]; cases m <;> rfl
    rw [this] at q
    exact q l2 s2
  | cons p ps =>
    obtain ⟨m, rfl⟩ : ∃ m', m = m' + 1 := ⟨m - 1, by rw [if_neg (by simp)] at bm; omega⟩
    rw [if_neg (by simp)] at bm
    walk_at "w"
    rw [decide_eq_true (by rw [List.length_map, List.length_cons]; omega)]
    refine ifB_true ⟨?_⟩
    walk_at "w"
    refine ⟨Nat.le_of_ble_eq_true rfl, ?_⟩
    intro lb nlb
    have ne : mt ≠ lb := fun e => by rw [← e, m2] at nlb; cases nlb
    have nb0 : l lb = none := by
      cases h : l lb with
      | none => rfl
      | some o => have := s2 lb o h; rw [nlb] at this; cases this
    have s3 : DL.Sub l (uL l2 lb (.lst [])) := fun a o h => by rw [uL_ne (fun e => by rw [e, nb0] at h; cases h)]; exact s2 a o h
    walk_at "w"
    refine ring_loop (n := 2 * U.length + 1 - m) (e6 := e6) (e7 := e7) (met := met) (lg := []) B E sgn hU sgU Ul nmt nb0 ne (by omega) (p :: ps) (fun z hz => ⟨(pU z hz).1, by have := (pU z hz).2; omega⟩) nd mU (Nat.zero_le _) s3 ((uL_ne ne).trans m2) uL_same (fun z l' e s' => ?_) (fun lg' met' l' e6 e7 e s' m' b' => ?_)
    · have : R = some z := by
        rw [← bR]
        unfold bfs
        rw [e]
      rw [this] at q
      exact q l' s'
    · obtain ⟨r1, r2, r3, r4, r5, r6⟩ := rnd_on hU h63 (n := 2 * U.length + 1 - m) (p :: ps) e (fun z hz => ⟨(pU z hz).1, by have := (pU z hz).2; omega⟩) nd mU (fun z hz => by cases hz)
      have ml' := nodup_len r1 r2
      walk_at "w"
      refine ⟨_, b', ?_⟩
      refine ⟨m, Nat.lt_succ_self m, lg', met', _, _, _, rfl, fun a o h => ?_, ?_, r1, r2, fun z hz => ⟨(r3 z hz).1, ?_⟩, ?_, ?_, ?_⟩
      · show dL l' lb a = some o
        have na : a ≠ lb := fun z => by rw [z, nb0] at h; cases h
        unfold dL
        rw [if_neg na]
        exact s' a o h
      · show dL l' lb mt = _
        unfold dL
        rw [if_neg ne]
        exact m'
      · have := (r3 z hz).2
        have pm := (pU p List.mem_cons_self).2
        omega
      · have := r6 (Nat.zero_le _)
        omega
      · rw [← bR]
        conv => rhs; unfold bfs
        rw [e]
      · by_cases z : lg' = []
        · rw [if_pos z]; omega
        · rw [if_neg z]
          have : met'.length ≠ met.length := fun k => z (r5 k)
          omega

end Law

namespace Law
open PySem PySem.Spec PyProof.Rows L2 DL
local macro_rules | `(tactic| walk_at "w") => `(tactic| conv => whnf)
local macro_rules | `(tactic| walk_at "s") => `(tactic| (refine ⟨?_⟩; conv => whnf))
local macro_rules | `(tactic| walk_at "z") => `(tactic| (refine small ?_; simp only [List.length_map, List.length_append, List.length_reverse, List.length_cons, List.length_nil]; omega))
local macro_rules | `(tactic| walk_at "q") => `(tactic| (refine ⟨(okN_tints _).ok, (okN_tints _).ok, ?_⟩; rw [eqD_tints]))
/-! signs of a text -/
mutual
theorem FA.lo : ∀ a : FA, a.ok → ∀ c ∈ a.tx, c < 128
  | .lt c, h, x, hx => by
    have : x = c := List.mem_singleton.mp hx
    have := isLet_iff.mp h
    omega
  | .nam w, h, x, hx => by have := isSmall_iff.mp (h.2.2 x hx); omega
  | .non, h, x, hx => by have : x = 49 := List.mem_singleton.mp hx; omega
  | .br x y, h, c, hc => by
    rcases List.mem_cons.mp (show c ∈ 91 :: (x.tx ++ (44 :: 32 :: (y.tx ++ [93]))) from hc) with z | z
    · omega
    rcases List.mem_append.mp z with z | z
    · exact x.lo h.1 c z
    rcases List.mem_cons.mp z with z | z
    · omega
    rcases List.mem_cons.mp z with z | z
    · omega
    rcases List.mem_append.mp z with z | z
    · exact y.lo h.2 c z
    · have : c = 93 := List.mem_singleton.mp z; omega
  | .par x, h, c, hc => by
    rcases List.mem_cons.mp (show c ∈ 40 :: (x.tx ++ [41]) from hc) with z | z
    · omega
    rcases List.mem_append.mp z with z | z
    · exact x.lo h c z
    · have : c = 41 := List.mem_singleton.mp z; omega
theorem FI.lo : ∀ i : FI, i.ok → ∀ c ∈ i.tx, c < 128
  | .pl a, h, c, hc => a.lo h c hc
  | .pw a n, h, c, hc => by
    rcases List.mem_append.mp (show c ∈ a.tx ++ 94 :: numT n from hc) with z | z
    · exact a.lo h.1 c z
    rcases List.mem_cons.mp z with z | z
    · omega
    unfold numT at z
    split at z
    · rcases List.mem_cons.mp z with z | z
      · omega
      · have := TL.numL_digits n.natAbs c z; omega
    · have := TL.numL_digits n.natAbs c z; omega
theorem FE.lo : ∀ x : FE, x.ok → ∀ c ∈ x.tx, c < 128
  | .one i, h, c, hc => i.lo h c hc
  | .cons i x, h, c, hc => by
    rcases List.mem_append.mp (show c ∈ i.tx ++ 32 :: x.tx from hc) with z | z
    · exact i.lo h.1 c z
    rcases List.mem_cons.mp z with z | z
    · omega
    · exact x.lo h.2 c z
end
/-! letters looked for -/
def farL (a : Nat) : FA → Bool
  | .lt c => decide (a < c - 96)
  | _ => false
def IsLf : FA → Prop
  | .lt _ => True
  | .nam _ => True
  | _ => False
mutual
theorem FA.lvlf : ∀ x : FA, ∀ y ∈ x.lv, IsLf y
  | .lt c, y, h => by rw [List.mem_singleton.mp h]; trivial
  | .nam w, y, h => by rw [List.mem_singleton.mp h]; trivial
  | .non, y, h => by cases h
  | .br x z, y, h => (List.mem_append.mp h).elim (x.lvlf y) (z.lvlf y)
  | .par x, y, h => x.lvlf y h
theorem FI.lvlf : ∀ x : FI, ∀ y ∈ x.lv, IsLf y
  | .pl a, y, h => a.lvlf y h
  | .pw a _, y, h => a.lvlf y h
theorem FE.lvlf : ∀ x : FE, ∀ y ∈ x.lv, IsLf y
  | .one i, y, h => i.lvlf y h
  | .cons i r, y, h => (List.mem_append.mp h).elim (i.lvlf y) (r.lvlf y)
end
mutual
theorem FA.lvok : ∀ x : FA, x.ok → ∀ y ∈ x.lv, y.ok
  | .lt c, h, y, hy => by rw [List.mem_singleton.mp hy]; exact h
  | .nam w, h, y, hy => by rw [List.mem_singleton.mp hy]; exact h
  | .non, _, y, hy => by cases hy
  | .br x z, h, y, hy => (List.mem_append.mp hy).elim (x.lvok h.1 y) (z.lvok h.2 y)
  | .par x, h, y, hy => x.lvok h y hy
theorem FI.lvok : ∀ x : FI, x.ok → ∀ y ∈ x.lv, y.ok
  | .pl a, h, y, hy => a.lvok h y hy
  | .pw a _, h, y, hy => a.lvok h.1 y hy
theorem FE.lvok : ∀ x : FE, x.ok → ∀ y ∈ x.lv, y.ok
  | .one i, h, y, hy => i.lvok h y hy
  | .cons i r, h, y, hy => (List.mem_append.mp hy).elim (i.lvok h.1 y) (r.lvok h.2 y)
end
/-- a ground of so many letters -/
def GL (l : LH) (g : Addr) (a : Nat) : Prop := ∃ x y z u, l g = some (.ins cl_Ground [.int (a : Nat), x, y, z, u])
section
variable {wd : D → LH → Prop}
theorem lookl_loop {a : Nat} {g : Addr} {l : LH} (G : GL l g a) {e1 : Option D} {E : DEnds} : ∀ (lv : List FA) {e2 : Option D}, (∀ y ∈ lv, IsLf y) → (lv.find? (farL a) = none → ∀ e2, E.nx [some (.ref g), e1, e2] l) → (∀ ch, lv.find? (farL a) = some (.lt ch) → wd (.exc1 7 (.int ((ch - 96 : Nat) : Int))) l) →
    forL (gName 2) (nS (B_look_letters_1 fun _ => wd)) (lv.map FA.toD) E [some (.ref g), e1, e2] l
  | [], e2, _, h, _ => h rfl e2
  | y :: lv, e2, hy, h, h2 => by
    obtain ⟨g1, g2, g3, g4, G1⟩ := G
    refine ⟨?_⟩
    have t := hy y List.mem_cons_self
    cases y with
    | lt ch =>
      walk_at "w"
      refine ⟨_, rfl, ?_⟩
      refine wq true (by decide +kernel) (by decide +kernel) (by decide +kernel) (P := fun b => ifB b _ _) (ifB_true ?_)
      walk_at "w"
      refine ⟨_, rfl, ?_⟩
      refine ⟨_, G1, rfl, ?_⟩
      refine ⟨rfl, ?_⟩
      walk_at "w"
      refine ⟨_, G1, rfl, ?_⟩
      walk_at "w"
      by_cases hc : a < ch - 96
      · refine ifB_by (fun _ => ?_) (fun z => absurd z (by rw [decide_eq_true (by omega)]; decide))
        walk_at "w"
        refine ⟨_, rfl, ?_⟩
        exact h2 ch (by rw [List.find?_cons, show farL a (.lt ch) = true from decide_eq_true hc])
      · refine ifB_by (fun z => absurd (of_decide_eq_true z) (by omega)) (fun _ => ?_)
        have e : (FA.lt ch :: lv).find? (farL a) = lv.find? (farL a) := by rw [List.find?_cons, show farL a (.lt ch) = false from decide_eq_false hc]
        rw [e] at h h2
        exact lookl_loop ⟨g1, g2, g3, g4, G1⟩ lv (fun z hz => hy z (List.mem_cons_of_mem _ hz)) h h2
    | nam w =>
      walk_at "w"
      refine ⟨_, rfl, ?_⟩
      refine wq false (by decide +kernel) (by decide +kernel) (by decide +kernel) (P := fun b => ifB b _ _) (ifB_false ?_)
      refine ifB_false ?_
      exact lookl_loop ⟨g1, g2, g3, g4, G1⟩ lv (fun z hz => hy z (List.mem_cons_of_mem _ hz)) h h2
    | non => exact t.elim
    | br x z => exact t.elim
    | par x => exact t.elim
theorem c_look_letters {a : Nat} {g : Addr} {l : LH} (G : GL l g a) {x : FE} (xo : x.ok) (xl : x.tx.length ≤ 100000) (xd : x.dp ≤ 20) {Q : DK} (h : x.lv.find? (farL a) = none → Q .non l) (h2 : ∀ ch, x.lv.find? (farL a) = some (.lt ch) → wd (.exc1 7 (.int ((ch - 96 : Nat) : Int))) l) : callD (D_look_letters wd) [.ref g, x.toD] l Q := by
  refine ⟨rfl, ?_⟩
  walk_at "w"
  refine x.lf xo xl (by omega) ?_
  exact lookl_loop G x.lv x.lvlf (fun e _ => h e) h2
end
/-! is it a name, of any text -/
def isNm (w : List Nat) : Bool := decide (2 ≤ w.length) && (decide (w.length ≤ 8) && w.all isSmall)
theorem isNm_ok {w : List Nat} (h : NmOk w) : isNm w = true := by
  unfold isNm
  rw [decide_eq_true h.1, decide_eq_true h.2.1, List.all_eq_true.mpr h.2.2]
  rfl
theorem c_is_nm {w : List Nat} (wl : w.length ≤ 1000) {l : LH} {Q : DK} (q : Q (.bl (isNm w)) l) : callD D_is_name [.str (Sx w)] l Q := by
  unfold isNm at q
  refine ⟨rfl, ?_⟩
  walk_at "w"
  refine ⟨by rw [Sx_len]; exact small (by omega), ?_⟩
  walk_at "w"
  rw [Sx_len]
  by_cases h : 2 ≤ w.length
  · rw [decide_eq_true h] at q
    rw [decide_eq_true (show (2 : Int) ≤ (w.length : Nat) by omega)]
    walk_at "w"
    by_cases h8 : w.length ≤ 8
    · rw [decide_eq_true h8] at q
      rw [decide_eq_true (show ((w.length : Nat) : Int) ≤ 8 by omega)]
      walk_at "w"
      rw [signs_map]
      refine ⟨by rw [List.length_map]; exact small (by omega), ?_⟩
      refine comp_byS (v := fun c => D.bl (isSmall c)) w (fun c hc K1 K2 k1 => ?_) ?_
      · refine ifB_true ⟨?_⟩
        walk_at "w"
        refine ⟨c, rfl, ?_⟩
        rw [small_mem c]
        exact k1
      · walk_at "w"
        refine ⟨w.map isSmall, by rw [List.map_map]; rfl, ?_⟩
        rw [show (w.map isSmall).all id = w.all isSmall by rw [List.all_map]; rfl]
        exact q
    · rw [decide_eq_false h8] at q
      rw [decide_eq_false (show ¬ ((w.length : Nat) : Int) ≤ 8 by omega)]
      exact q
  · rw [decide_eq_false h] at q
    rw [decide_eq_false (show ¬ (2 : Int) ≤ (w.length : Nat) by omega)]
    exact q
/-! let -/
section
variable {wd : D → LH → Prop} {l : LH} {k g fd : Addr} {es : List BE} {w cs : List Nat} {Q : DK}
theorem c_let_x (B : BkAt l k g fd es) (E : EsOk es) (kf : k ≠ fd) (el : es.length < 50) {a : Nat} (G : GL l g a) (gf : g ≠ fd) {x : FE} (xe : EOk (w, x)) {U : List (List Nat)} (hU : ∀ v, ∀ o ∈ own es v, o ∈ U) (hx : ∀ o ∈ nmsL x.lv, o ∈ U) (sgU : ∀ v ∈ U, Sg v) (Ul : U.length ≤ 1500)
    (hF : ∀ ch l', x.lv.find? (farL a) = some (.lt ch) → DL.Sub l l' → wd (.exc1 7 (.int ((ch - 96 : Nat) : Int))) l')
    (hR : x.lv.find? (farL a) = none → ∀ p l', ringR es w x U = some p → DL.Sub l l' → wd (.exc1 11 (rpD p)) l')
    (hQ : x.lv.find? (farL a) = none → ringR es w x U = none → ∀ l', BkAt l' k g fd (bPut w x es) → (∀ z u, z ≠ fd → l z = some u → l' z = some u) → Q .non l') : callD (D_Book_let wd) [.ref k, .str (Sx w), .str (Sx x.tx)] l Q := by
  have o1 : NmOk w := xe.nm
  have o2 : x.ok := xe.ok
  have o3 : x.tx.length ≤ 1000 := xe.ln
  have o4 : x.dp ≤ 20 := xe.dp
  have sg : Sg x.tx := fun c hc => by have := x.lo o2 c hc; omega
  refine ⟨rfl, ?_⟩
  walk_at "w"
  refine c_is_nm (by have := o1.2.1; omega) ?_
  rw [isNm_ok o1]
  walk_at "w"
  refine ifB_false ?_
  walk_at "w"
  walk_at "s"
  have pt := pTree_cpl x o2 o4
  refine c_read_tree (by omega) sg (fun dd l1 e s1 => ?_) (fun r l1 e _ => by rw [pt] at e; cases e)
  obtain rfl : x.toD = dd := by rw [pt] at e; injection e
  walk_at "w"
  walk_at "s"
  refine ⟨_, s1 _ _ B.k, rfl, ?_⟩
  walk_at "w"
  have G1 : GL l1 g a := by obtain ⟨g1, g2, g3, g4, h⟩ := G; exact ⟨g1, g2, g3, g4, s1 _ _ h⟩
  refine c_look_letters G1 o2 (by omega) o4 (fun e1 => ?_) (fun ch e1 => hF ch l1 e1 s1)
  walk_at "w"
  walk_at "s"
  have B1 := B.sub s1
  refine ⟨_, B1.k, rfl, ?_⟩
  walk_at "w"
  refine c_ring_by B1 E (nm_sg o1) xe hU hx sgU Ul fun l2 s2 => ?_
  have s12 := s1.trans s2
  cases e2 : ringR es w x U with
  | some p =>
    walk_at "w"
    walk_at "s"
    refine ifB_true ?_
    exact hR e1 p l2 e2 s12
  | none =>
    walk_at "w"
    walk_at "s"
    refine ifB_false ?_
    walk_at "w"
    walk_at "s"
    have B2 := B.sub s12
    refine ⟨_, B2.k, rfl, ?_⟩
    walk_at "w"
    refine ⟨_, B2.f, _, rfl, small (by unfold bKs; rw [List.length_map]; omega), ?_⟩
    refine hQ e1 e2 _ ⟨(uL_ne kf).trans B2.k, ?_⟩ (fun z u hz h => (uL_ne hz).trans (s12 z u h))
    rw [putK_b, putD_b]
    exact uL_same
end

end Law

namespace Law
open PySem PySem.Spec PyProof.Rows L2 DL
local macro_rules | `(tactic| walk_at "w") => `(tactic| conv => whnf)
local macro_rules | `(tactic| walk_at "s") => `(tactic| (refine ⟨?_⟩; conv => whnf))
local macro_rules | `(tactic| walk_at "z") => `(tactic| (refine small ?_; simp only [List.length_map, List.length_append, List.length_reverse, List.length_cons, List.length_nil]; omega))
local macro_rules | `(tactic| walk_at "q") => `(tactic| (refine ⟨(okN_tints _).ok, (okN_tints _).ok, ?_⟩; rw [eqD_tints]))
theorem Box.of_same {l l' : LH} {b : Addr} {k : Nat} (h : l' b = l b) : Box l b k → Box l' b k
  | ⟨o, e, q⟩ => ⟨o, h.trans e, q⟩
theorem Box.lst {l : LH} {b : Addr} {k : Nat} : Box l b k → ∃ ds, l b = some (.lst ds)
  | ⟨_, e, _, _, _, q, _⟩ => ⟨_, e.trans (congrArg some q)⟩
/-! a drawn formula of letters and names -/
theorem numT_len {n : Int} (h : n.natAbs < 10 ^ 9) : (numT n).length ≤ 10 := by
  have := TL.numL_len (n := n.natAbs) (k := 9) (by decide) h
  unfold numT
  split
  · rw [List.length_cons]; omega
  · omega
def isT (is : List FI) : Nat := (is.map fun i => i.tx.length + 1).sum
theorem ofL_toDs : ∀ (i : FI) (js : List FI), (ofL i js).toDs = (i :: js).map FI.toD
  | i, [] => rfl
  | i, j :: js => by
    show i.toD :: (ofL j js).toDs = _
    rw [ofL_toDs j js]
    rfl
theorem ofL_txl : ∀ (i : FI) (js : List FI), (ofL i js).tx.length + 1 = isT (i :: js)
  | i, [] => by unfold isT; simp [ofL, FE.tx]
  | i, j :: js => by
    have ih := ofL_txl j js
    show (i.tx ++ 32 :: (ofL j js).tx).length + 1 = _
    unfold isT at ih ⊢
    rw [List.map_cons, List.sum_cons, ← ih, List.length_append, List.length_cons]
    omega
theorem ofL_all {P : FI → Prop} {Q' : FE → Prop} (h1 : ∀ i, P i → Q' (.one i)) (h2 : ∀ i x, P i → Q' x → Q' (.cons i x)) : ∀ (i : FI) (js : List FI), (∀ x ∈ i :: js, P x) → Q' (ofL i js)
  | i, [], h => h1 i (h i List.mem_cons_self)
  | i, j :: js, h => h2 i _ (h i List.mem_cons_self) (ofL_all h1 h2 j js fun x hx => h x (List.mem_cons_of_mem _ hx))
theorem ofL_nms : ∀ (i : FI) (js : List FI), (nmsL (ofL i js).lv).length = ((i :: js).map fun z => (nmsL z.lv).length).sum
  | i, [] => by simp [ofL, FE.lv]
  | i, j :: js => by
    show (nmsL (i.lv ++ (ofL j js).lv)).length = _
    rw [nmsL_app, List.length_append, ofL_nms j js]
    rfl
/-- letters and names of a formula -/
def LvP (A : Nat) (ns : List (List Nat)) : FA → Prop
  | .lt c => 97 ≤ c ∧ c - 96 ≤ A
  | .nam w => w ∈ ns
  | _ => True
structure FmI (A : Nat) (ns : List (List Nat)) (i : FI) : Prop where
  ok : i.ok
  dp : i.dp ≤ 1
  ln : i.tx.length ≤ 30
  lv : ∀ y ∈ i.lv, LvP A ns y
  few : (nmsL i.lv).length ≤ 1
structure FmE (A : Nat) (ns : List (List Nat)) (x : FE) : Prop where
  ok : x.ok
  dp : x.dp ≤ 1
  ln : x.tx.length ≤ 100
  lv : ∀ y ∈ x.lv, LvP A ns y
  few : (nmsL x.lv).length ≤ 3
theorem let_of {A r : Nat} (A4 : A ≤ 4) (hr : r < A) : ∃ c, D.tup [.str "letter", .int (1 + (r : Int))] = (FA.lt c).toD ∧ (FA.lt c).ok ∧ LvP A [] (.lt c) := by
  refine ⟨97 + r, ?_, isLet_iff.mpr (by omega), ⟨by omega, by omega⟩⟩
  show _ = D.tup [.str "letter", .int ((97 + r - 96 : Nat) : Int)]
  rw [show ((97 + r - 96 : Nat) : Int) = 1 + (r : Int) by omega]
theorem fm_let {A : Nat} {ns : List (List Nat)} {c : Nat} (o : (FA.lt c).ok) (h : LvP A [] (.lt c)) : FmI A ns (.pl (.lt c)) := ⟨o, Nat.zero_le _, by show ([c] : List Nat).length ≤ 30; simp, fun y hy => by rw [List.mem_singleton.mp hy]; exact h, by show (nmsL [FA.lt c]).length ≤ 1; simp [nmsL]⟩
theorem fm_nam {A : Nat} {ns : List (List Nat)} {w : List Nat} (o : NmOk w) (h : w ∈ ns) : FmI A ns (.pl (.nam w)) := ⟨o, Nat.zero_le _, by show w.length ≤ 30; have := o.2.1; omega, fun y hy => by rw [List.mem_singleton.mp hy]; exact h, by show (nmsL [FA.nam w]).length ≤ 1; simp [nmsL]⟩
theorem fm_br {A : Nat} {ns : List (List Nat)} {w : List Nat} {c : Nat} (o : NmOk w) (h : w ∈ ns) (o2 : (FA.lt c).ok) (h2 : LvP A [] (.lt c)) : FmI A ns (.pl (.br (.one (.pl (.nam w))) (.one (.pl (.lt c))))) := ⟨⟨o, o2⟩, Nat.le_refl _, by
  show (91 :: (w ++ (44 :: 32 :: ([c] ++ [93])))).length ≤ 30
  have := o.2.1
  simp
  omega, fun y hy => by
  rcases List.mem_cons.mp (show y ∈ [FA.nam w, FA.lt c] from hy) with e | e
  · rw [e]; exact h
  · rw [List.mem_singleton.mp e]; exact h2, by show (nmsL [FA.nam w, FA.lt c]).length ≤ 1; simp [nmsL]⟩
theorem fm_par {A : Nat} {ns : List (List Nat)} {w : List Nat} (o : NmOk w) (h : w ∈ ns) : FmI A ns (.pl (.par (.cons (.pl (.nam w)) (.one (.pl .non))))) := ⟨⟨o, trivial⟩, Nat.le_refl _, by
  show (40 :: ((w ++ 32 :: [49]) ++ [41])).length ≤ 30
  have := o.2.1
  simp
  omega, fun y hy => by
  rw [List.mem_singleton.mp (show y ∈ [FA.nam w] from hy)]
  exact h, by show (nmsL [FA.nam w]).length ≤ 1; simp [nmsL]⟩
theorem fm_pw {A : Nat} {ns : List (List Nat)} {x : FA} (h : FmI A ns (.pl x)) (h16 : x.tx.length ≤ 14) {n : Int} (hn : n.natAbs < 10 ^ 9) : FmI A ns (.pw x n) := ⟨⟨h.ok, hn⟩, h.dp, by
  show (x.tx ++ 94 :: numT n).length ≤ 30
  have := numT_len hn
  rw [List.length_append, List.length_cons]
  omega, h.lv, h.few⟩
theorem fm_loop {A : Nat} (A1 : 1 ≤ A) (A4 : A ≤ 4) {a t : Addr} (na : t ≠ a) {ns : List (List Nat)} (hn : ∀ w ∈ ns, NmOk w) (n1 : 1 ≤ ns.length) (n50 : ns.length ≤ 60) {E : DEnds} : ∀ (n : Nat) {j : Int} {is : List FI} {k : Nat} {l : LH} {e4 e5 e6 : Option D}, Box l a k → k + 6 * n < 2 ^ 28 → l t = some (.lst (is.map FI.toD)) → (∀ i ∈ is, FmI A ns i) → is.length + n ≤ 3 →
    (∀ (is' : List FI) k' l' e4 e5 e6, is'.length = is.length + n → (∀ i ∈ is', FmI A ns i) → Box l' a k' → k ≤ k' → k' ≤ k + 6 * n → l' t = some (.lst (is'.map FI.toD)) → (∀ y, y ≠ a → y ≠ t → l' y = l y) → E.nx [some (.ref a), some (.int (A : Nat)), some (.lst (nmD ns)), some (.ref t), e4, e5, e6] l') →
    forL (gName 4) (nS B__law_formula_1) (rgD j n) E [some (.ref a), some (.int (A : Nat)), some (.lst (nmD ns)), some (.ref t), e4, e5, e6] l
  | 0, j, is, k, l, e4, e5, e6, hb, hk, ht, hi, hl, h => h is k l _ _ _ rfl hi hb (Nat.le_refl _) (Nat.le_refl _) ht (fun _ _ _ => rfl)
  | n + 1, j, is, k, l, e4, e5, e6, hb, hk, ht, hi, hl, h => by
    rw [rgD_succ]
    have nl : (nmD ns).length = ns.length := by unfold nmD; rw [List.length_map]
    have app : ∀ (i : FI) k3 l3 e4 e5, FmI A ns i → Box l3 a k3 → k ≤ k3 → k3 ≤ k + 6 → l3 t = some (.lst (is.map FI.toD)) → (∀ y, y ≠ a → y ≠ t → l3 y = l y) →
        sExpr (dMt kAppend (dVar 3) (aCons (dVar 6) aNil)) ⟨fun env l => forL (gName 4) (nS B__law_formula_1) (rgD (j + 1) n) E env l, E.rt, fun env l => E.nx env l, fun env l => forL (gName 4) (nS B__law_formula_1) (rgD (j + 1) n) E env l⟩ [some (.ref a), some (.int (A : Nat)), some (.lst (nmD ns)), some (.ref t), e4, e5, some i.toD] l3 := by
      intro i k3 l3 e4 e5 fi hb3 k31 k32 ht3 fr
      walk_at "w"
      refine ⟨_, ht3, ?_⟩
      walk_at "w"
      refine ⟨_, ht3, ?_⟩
      refine ⟨Nat.lt_of_le_of_lt (show (is.map FI.toD).length ≤ 3 by rw [List.length_map]; omega) (by decide), ?_⟩
      have ea : is.map FI.toD ++ [i.toD] = (is ++ [i]).map FI.toD := by rw [List.map_append]; rfl
      rw [ea]
      have hb4 : Box (uL l3 t (.lst ((is ++ [i]).map FI.toD))) a k3 := Box.of_same (uL_ne (Ne.symm na)) hb3
      refine fm_loop A1 A4 na hn n1 n50 n hb4 (by omega) uL_same (fun x hx => ?_) (by rw [List.length_append, List.length_singleton]; omega) (fun is' k' l' e4 e5 e6 z1 z2 z3 z4 z5 z6 z7 => ?_)
      · rcases List.mem_append.mp hx with z | z
        · exact hi x z
        · rw [List.mem_singleton.mp z]; exact fi
      · rw [List.length_append, List.length_singleton] at z1
        exact h is' k' l' _ _ _ (by omega) z2 z3 (by omega) (by omega) z6 fun y y1 y2 => (z7 y y1 y2).trans ((uL_ne y2).trans (fr y y1 y2))
    have pow : ∀ (x : FA) k3 l3 e4 e5, FmI A ns (.pl x) → x.tx.length ≤ 14 → Box l3 a k3 → k ≤ k3 → k3 ≤ k + 4 → l3 t = some (.lst (is.map FI.toD)) → (∀ y, y ≠ a → y ≠ t → l3 y = l y) →
        sSeq (sIf (dTV (dEq (dDef D__law_take (aCons (dVar 0) (aCons (dC (.int 3)) aNil))) (dC (.int 0)))) (sSet 6 (dTup (aCons (dC (.str "power")) (aCons (dVar 6) (aCons (dSub (dDef D__law_take (aCons (dVar 0) (aCons (dC (.int 5)) aNil))) (dC (.int 2))) aNil))))) sNext) (sExpr (dMt kAppend (dVar 3) (aCons (dVar 6) aNil))) ⟨fun env l => forL (gName 4) (nS B__law_formula_1) (rgD (j + 1) n) E env l, E.rt, fun env l => E.nx env l, fun env l => forL (gName 4) (nS B__law_formula_1) (rgD (j + 1) n) E env l⟩ [some (.ref a), some (.int (A : Nat)), some (.lst (nmD ns)), some (.ref t), e4, e5, some x.toD] l3 := by
      intro x k3 l3 e4 e5 fi xl hb3 k31 k32 ht3 fr
      walk_at "w"
      refine c_take (n := 3) hb3 (by decide) (by decide) (by omega) fun r l4 r0 r1 hb4 o4 => ?_
      walk_at "w"
      refine ⟨(okN_int _).ok, (okN_int _).ok, ?_⟩
      have ht4 := (o4 t na).trans ht3
      have fr4 : ∀ y, y ≠ a → y ≠ t → l4 y = l y := fun y y1 y2 => (o4 y y1).trans (fr y y1 y2)
      refine ifB_by (fun _ => ?_) (fun _ => ?_)
      · walk_at "w"
        refine c_take hb4 (by decide) (by decide) (by omega) fun s l5 s0 s1 hb5 o5 => ?_
        walk_at "w"
        refine ⟨Nat.le_of_ble_eq_true rfl, ?_⟩
        exact app (.pw x (s - 2)) _ l5 _ _ (fm_pw fi xl (by omega)) hb5 (by omega) (by omega) ((o5 t na).trans ht4) (fun y y1 y2 => (o5 y y1).trans (fr4 y y1 y2))
      · exact app (.pl x) _ l4 _ _ fi hb4 (by omega) (by omega) ht4 fr4
    refine ⟨?_⟩
    walk_at "w"
    refine c_take hb (by decide) (by decide) (by omega) fun how l1 h0 h1 hb1 o1 => ?_
    obtain ⟨how, rfl⟩ := Int.eq_ofNat_of_zero_le h0
    walk_at "w"
    rw [nl]
    refine c_take hb1 (by omega) (by omega) (by omega) fun r l2 r0 r1 hb2 o2 => ?_
    obtain ⟨r, rfl⟩ := Int.eq_ofNat_of_zero_le r0
    have r2 : r < ns.length := by omega
    walk_at "w"
    refine ⟨.str (Sx ns[r]), atI_nat (by unfold nmD; rw [List.getElem?_map, List.getElem?_eq_getElem r2]; rfl), ?_⟩
    walk_at "w"
    refine ⟨Nat.le_of_ble_eq_true rfl, ?_⟩
    have nk := hn _ (List.getElem_mem r2)
    have nm := List.getElem_mem r2
    generalize ns[r] = w at nk nm
    have ht2 := (o2 t na).trans ((o1 t na).trans ht)
    have fr2 : ∀ y, y ≠ a → y ≠ t → l2 y = l y := fun y y1 y2 => (o2 y y1).trans (o1 y y1)
    walk_at "w"
    by_cases c2 : how < 2
    · rw [decide_eq_true (show ((how : Nat) : Int) < 2 by omega)]
      refine ifB_true ?_
      walk_at "w"
      refine c_take hb2 (by omega) (by omega) (by omega) fun s l3 s0 s1 hb3 o3 => ?_
      obtain ⟨s, rfl⟩ := Int.eq_ofNat_of_zero_le s0
      walk_at "w"
      refine ⟨Nat.le_of_ble_eq_true rfl, ?_⟩
      obtain ⟨c, ec, oc, hc⟩ := let_of A4 (show s < A by omega)
      rw [ec]
      exact pow (.lt c) _ l3 _ _ (fm_let oc hc) (by show ([c] : List Nat).length ≤ 14; simp) hb3 (by omega) (by omega) ((o3 t na).trans ht2) (fun y y1 y2 => (o3 y y1).trans (fr2 y y1 y2))
    · rw [decide_eq_false (show ¬ ((how : Nat) : Int) < 2 by omega)]
      refine ifB_false ?_
      walk_at "w"
      refine ⟨(okN_int _).ok, (okN_int _).ok, ?_⟩
      refine ifB_by (fun _ => ?_) (fun _ => ?_)
      · walk_at "w"
        repeat (refine ⟨Nat.le_of_ble_eq_true rfl, ?_⟩; try walk_at "w")
        refine c_take hb2 (by omega) (by omega) (by omega) fun s l3 s0 s1 hb3 o3 => ?_
        obtain ⟨s, rfl⟩ := Int.eq_ofNat_of_zero_le s0
        walk_at "w"
        repeat (refine ⟨Nat.le_of_ble_eq_true rfl, ?_⟩; try walk_at "w")
        obtain ⟨c, ec, oc, hc⟩ := let_of A4 (show s < A by omega)
        rw [ec]
        exact pow (.br (.one (.pl (.nam w))) (.one (.pl (.lt c)))) _ l3 _ _ (fm_br nk nm oc hc) (by
          show (91 :: (w ++ (44 :: 32 :: ([c] ++ [93])))).length ≤ 14
          have := nk.2.1
          simp
          omega) hb3 (by omega) (by omega) ((o3 t na).trans ht2) (fun y y1 y2 => (o3 y y1).trans (fr2 y y1 y2))
      · walk_at "w"
        refine ⟨(okN_int _).ok, (okN_int _).ok, ?_⟩
        refine ifB_by (fun _ => ?_) (fun _ => ?_)
        · walk_at "w"
          repeat (refine ⟨Nat.le_of_ble_eq_true rfl, ?_⟩; try walk_at "w")
          exact pow (.par (.cons (.pl (.nam w)) (.one (.pl .non)))) _ l2 _ _ (fm_par nk nm) (by
            show (40 :: ((w ++ 32 :: [49]) ++ [41])).length ≤ 14
            have := nk.2.1
            simp
            omega) hb2 (by omega) (by omega) ht2 fr2
        · exact pow (.nam w) _ l2 _ _ (fm_nam nk nm) (by show w.length ≤ 14; have := nk.2.1; omega) hb2 (by omega) (by omega) ht2 fr2
theorem c_formula {A : Nat} (A1 : 1 ≤ A) (A4 : A ≤ 4) {a : Addr} {ns : List (List Nat)} (hn : ∀ w ∈ ns, NmOk w) (n1 : 1 ≤ ns.length) (n50 : ns.length ≤ 60) {k : Nat} {l : LH} {Q : DK} (hb : Box l a k) (hk : k + 30 < 2 ^ 28)
    (q : ∀ (x : FE) k' l', FmE A ns x → Box l' a k' → k ≤ k' → k' ≤ k + 20 → (∀ y o, y ≠ a → l y = some o → l' y = some o) → Q x.toD l') : callD D__law_formula [.ref a, .int (A : Nat), .lst (nmD ns)] l Q := by
  refine ⟨rfl, ?_⟩
  walk_at "w"
  refine ⟨show 0 ≤ sizeLine by decide, ?_⟩
  intro t nt
  have na : t ≠ a := fun z => by
    obtain ⟨o, ho⟩ := Box.lst hb
    rw [z, ho] at nt
    cases nt
  have hb0 := Box.sub (sub_uL (o := .lst []) nt) hb
  have ht0 : uL l t (.lst []) t = some (.lst (([] : List FI).map FI.toD)) := uL_same
  have f0 : ∀ y, y ≠ t → uL l t (.lst []) y = l y := fun y hy => uL_ne hy
  generalize uL l t (.lst []) = l0 at hb0 ht0 f0
  walk_at "w"
  refine ⟨?_⟩
  walk_at "w"
  refine c_take hb0 (by decide) (by decide) (by omega) fun r l1 r0 r1 hb1 o1 => ?_
  obtain ⟨r, rfl⟩ := Int.eq_ofNat_of_zero_le r0
  walk_at "w"
  refine ⟨⟨by omega, by omega⟩, ?_⟩
  rw [show Int.toNat (1 + (r : Int)) = 1 + r by omega]
  refine fm_loop A1 A4 na hn n1 n50 (1 + r) (is := []) hb1 (by omega) ((o1 t na).trans ht0) (fun i hi => by cases hi) (by rw [List.length_nil]; omega) (fun is k' l' e4 e5 e6 z1 z2 z3 z4 z5 z6 z7 => ?_)
  rw [List.length_nil] at z1
  refine ⟨?_⟩
  walk_at "w"
  refine ⟨_, z6, ?_⟩
  walk_at "w"
  refine ⟨Nat.le_of_ble_eq_true rfl, ?_⟩
  have sl : isT is ≤ 31 * 3 := by
    have := sum_le (f := fun i : FI => i.tx.length + 1) (b := 31) is (fun i hi => by have := (z2 i hi).ln; omega)
    unfold isT
    omega
  have sn : (is.map fun z => (nmsL z.lv).length).sum ≤ 3 := by
    have := sum_le (f := fun z : FI => (nmsL z.lv).length) (b := 1) is (fun i hi => (z2 i hi).few)
    omega
  cases is with
  | nil => rw [List.length_nil] at z1; omega
  | cons i js =>
    have := q (ofL i js) k' l' ⟨ofL_all (P := fun i => i.ok) (Q' := fun x => x.ok) (fun _ h => h) (fun _ _ h h' => ⟨h, h'⟩) i js fun x hx => (z2 x hx).ok,
      ofL_all (P := fun i => i.dp ≤ 1) (Q' := fun x => x.dp ≤ 1) (fun _ h => h) (fun i x h h' => by show max i.dp x.dp ≤ 1; omega) i js fun x hx => (z2 x hx).dp,
      by have := ofL_txl i js; omega,
      ofL_all (P := fun i => ∀ y ∈ i.lv, LvP A ns y) (Q' := fun x => ∀ y ∈ x.lv, LvP A ns y) (fun _ h => h) (fun i x h h' z hz => (List.mem_append.mp hz).elim (h z) (h' z)) i js fun x hx => (z2 x hx).lv, by rw [ofL_nms]; exact sn⟩ z3 (by omega) (by omega) (fun y o hy h => by
        have yt : y ≠ t := fun e => by rw [e, nt] at h; cases h
        rw [z7 y hy yt, o1 y hy, f0 y yt]; exact h)
    unfold FE.toD at this
    rw [ofL_toDs] at this
    exact this

end Law

namespace Law
open PySem PySem.Spec PyProof.Rows L2 DL
local macro_rules | `(tactic| walk_at "w") => `(tactic| conv => whnf)
local macro_rules | `(tactic| walk_at "s") => `(tactic| (refine ⟨?_⟩; conv => whnf))
local macro_rules | `(tactic| walk_at "z") => `(tactic| (refine small ?_; simp only [List.length_map, List.length_append, List.length_reverse, List.length_cons, List.length_nil]; omega))
local macro_rules | `(tactic| walk_at "q") => `(tactic| (refine ⟨(okN_tints _).ok, (okN_tints _).ok, ?_⟩; rw [eqD_tints]))
/-! trees are plain data -/
mutual
theorem FA.tx_pos : ∀ a : FA, a.ok → 1 ≤ a.tx.length
  | .lt c, _ => Nat.le_refl _
  | .nam w, h => by show 1 ≤ w.length; have := h.1; omega
  | .non, _ => Nat.le_refl _
  | .br x y, _ => by show 1 ≤ (91 :: (x.tx ++ (44 :: 32 :: (y.tx ++ [93])))).length; rw [List.length_cons]; omega
  | .par x, _ => by show 1 ≤ (40 :: (x.tx ++ [41])).length; rw [List.length_cons]; omega
theorem FI.tx_pos : ∀ i : FI, i.ok → 1 ≤ i.tx.length
  | .pl a, h => a.tx_pos h
  | .pw a n, h => by show 1 ≤ (a.tx ++ 94 :: numT n).length; rw [List.length_append, List.length_cons]; omega
end
theorem parts_le : ∀ x : FE, x.ok → x.parts.length ≤ x.tx.length
  | .one i, h => i.tx_pos h
  | .cons i r, h => by
    have := i.tx_pos h.1
    have := parts_le r h.2
    show r.parts.length + 1 ≤ (i.tx ++ 32 :: r.tx).length
    rw [List.length_append, List.length_cons]
    omega
mutual
theorem FA.pl : ∀ (a : FA) {n : Nat}, a.ok → a.tx.length ≤ 100000 → 4 * a.dp + 2 ≤ n → Pl n a.toD
  | .lt c, n, ho, hl, hn => by
    obtain ⟨n, rfl⟩ : ∃ n', n = n' + 2 := ⟨n - 2, by omega⟩
    refine .tup _ _ (by simp) fun d hd => ?_
    rcases List.mem_cons.mp hd with e | e
    · rw [e]; exact .str _ [108, 101, 116, 116, 101, 114] (by decide +kernel : ∀ c ∈ [108, 101, 116, 116, 101, 114], c < 1114112)
    · rw [List.mem_singleton.mp e]; exact .int _ _
  | .nam w, n, ho, hl, hn => by
    obtain ⟨n, rfl⟩ : ∃ n', n = n' + 2 := ⟨n - 2, by omega⟩
    refine .tup _ _ (by simp) fun d hd => ?_
    rcases List.mem_cons.mp hd with e | e
    · rw [e]; exact .str _ [110, 97, 109, 101] (by decide +kernel : ∀ c ∈ [110, 97, 109, 101], c < 1114112)
    · rw [List.mem_singleton.mp e]; exact .str _ w fun c hc => by have := isSmall_iff.mp (ho.2.2 c hc); omega
  | .non, n, ho, hl, hn => by
    obtain ⟨n, rfl⟩ : ∃ n', n = n' + 2 := ⟨n - 2, by omega⟩
    refine .tup _ _ (by simp) fun d hd => ?_
    rw [List.mem_singleton.mp hd]
    exact .str _ [110, 111, 110, 101] (by decide +kernel : ∀ c ∈ [110, 111, 110, 101], c < 1114112)
  | .br x y, n, ho, hl, hn => by
    obtain ⟨n, rfl⟩ : ∃ n', n = n' + 2 := ⟨n - 2, by omega⟩
    have hn' : 4 * (1 + max x.dp y.dp) + 2 ≤ n + 2 := hn
    have e1 : (FA.br x y).tx = 91 :: (x.tx ++ (44 :: 32 :: (y.tx ++ [93]))) := rfl
    rw [e1, List.length_cons, List.length_append, List.length_cons, List.length_cons, List.length_append, List.length_singleton] at hl
    refine .tup _ _ (by simp) fun d hd => ?_
    rcases List.mem_cons.mp hd with e | e
    · rw [e]; exact .str _ [98, 114, 97, 99, 107, 101, 116] (by decide +kernel : ∀ c ∈ [98, 114, 97, 99, 107, 101, 116], c < 1114112)
    rcases List.mem_cons.mp e with e | e
    · rw [e]; exact x.pl ho.1 (by omega) (by omega)
    · rw [List.mem_singleton.mp e]; exact y.pl ho.2 (by omega) (by omega)
  | .par x, n, ho, hl, hn => x.pl ho (by have : (40 :: (x.tx ++ [41])).length ≤ 100000 := hl; rw [List.length_cons, List.length_append] at this; omega) (by have : 4 * (1 + x.dp) + 2 ≤ n := hn; omega)
theorem FI.pl' : ∀ (i : FI) {n : Nat}, i.ok → i.tx.length ≤ 100000 → 4 * i.dp + 3 ≤ n → Pl n i.toD
  | .pl a, n, ho, hl, hn => a.pl ho hl (by have : 4 * a.dp + 3 ≤ n := hn; omega)
  | .pw a k, n, ho, hl, hn => by
    have hn' : 4 * a.dp + 3 ≤ n := hn
    obtain ⟨n, rfl⟩ : ∃ n', n = n' + 2 := ⟨n - 2, by omega⟩
    have hl' : (a.tx ++ 94 :: numT k).length ≤ 100000 := hl
    rw [List.length_append] at hl'
    refine .tup _ _ (by simp) fun d hd => ?_
    rcases List.mem_cons.mp hd with e | e
    · rw [e]; exact .str _ [112, 111, 119, 101, 114] (by decide +kernel : ∀ c ∈ [112, 111, 119, 101, 114], c < 1114112)
    rcases List.mem_cons.mp e with e | e
    · rw [e]; exact a.pl ho.1 (by omega) (by omega)
    · rw [List.mem_singleton.mp e]; exact .int _ _
theorem FE.pl : ∀ (x : FE) {n : Nat}, x.ok → x.tx.length ≤ 100000 → 4 * x.dp + 5 ≤ n → Pl n x.toD
  | x, n, ho, hl, hn => by
    obtain ⟨n, rfl⟩ : ∃ n', n = n' + 2 := ⟨n - 2, by omega⟩
    have hp := parts_len x
    refine .tup _ _ (by simp) fun d hd => ?_
    rcases List.mem_cons.mp hd with e | e
    · rw [e]; exact .str _ [105, 116, 101, 109, 115] (by decide +kernel : ∀ c ∈ [105, 116, 101, 109, 115], c < 1114112)
    · rw [List.mem_singleton.mp e]
      refine .tup _ _ ?_ (x.pls ho hl (by omega))
      rw [toDs_len]
      have : x.parts.length ≤ x.tx.length := ?_
      · omega
      · exact parts_le x ho
theorem FE.pls : ∀ (x : FE) {n : Nat}, x.ok → x.tx.length ≤ 100000 → 4 * x.dp + 3 ≤ n → ∀ d ∈ x.toDs, Pl n d
  | .one i, n, ho, hl, hn, d, hd => by
    rw [List.mem_singleton.mp hd]
    exact i.pl' ho hl hn
  | .cons i r, n, ho, hl, hn, d, hd => by
    have e0 : (FE.cons i r).tx = i.tx ++ 32 :: r.tx := rfl
    rw [e0, List.length_append, List.length_cons] at hl
    have hn' : 4 * max i.dp r.dp + 3 ≤ n := hn
    rcases List.mem_cons.mp hd with e | e
    · rw [e]; exact i.pl' ho.1 (by omega) (by omega)
    · exact r.pls ho.2 (by omega) (by omega) d e
end
/-! all that can be reached, depth first -/
inductive Rch (own : List Nat → List (List Nat)) (w : List Nat) : List Nat → Prop where
  | one {v : List Nat} : v ∈ own w → Rch own w v
  | step {u v : List Nat} : Rch own w u → v ∈ own u → Rch own w v
structure DfI (own : List Nat → List (List Nat)) (w : List Nat) (U st f : List (List Nat)) : Prop where
  nd : f.Nodup
  fU : ∀ v ∈ f, v ∈ U
  sU : ∀ v ∈ st, v ∈ U
  fr : ∀ v ∈ f, Rch own w v
  sr : ∀ v ∈ st, Rch own w v
  b0 : ∀ v ∈ own w, v ∈ f ∨ v ∈ st
  b1 : ∀ u ∈ f, ∀ v ∈ own u, v ∈ f ∨ v ∈ st
theorem DfI.skip {own : List Nat → List (List Nat)} {w v : List Nat} {U st f : List (List Nat)} (I : DfI own w U (v :: st) f) (hv : v ∈ f) : DfI own w U st f :=
  ⟨I.nd, I.fU, fun u h => I.sU u (List.mem_cons_of_mem _ h), I.fr, fun u h => I.sr u (List.mem_cons_of_mem _ h), fun u h => (I.b0 u h).elim .inl fun z => (List.mem_cons.mp z).elim (fun e => .inl (by rw [e]; exact hv)) .inr, fun u hu y h => (I.b1 u hu y h).elim .inl fun z => (List.mem_cons.mp z).elim (fun e => .inl (by rw [e]; exact hv)) .inr⟩
theorem DfI.more {own : List Nat → List (List Nat)} {w v : List Nat} {U st f : List (List Nat)} (hU : ∀ v, ∀ o ∈ own v, o ∈ U) (I : DfI own w U (v :: st) f) (hv : v ∉ f) : DfI own w U ((own v).reverse ++ st) (f ++ [v]) := by
  have rv := I.sr v List.mem_cons_self
  have move : ∀ u, u ∈ f ∨ u ∈ v :: st → u ∈ f ++ [v] ∨ u ∈ (own v).reverse ++ st := fun u h => by
    rcases h with h | h
    · exact .inl (List.mem_append_left _ h)
    · rcases List.mem_cons.mp h with e | h
      · exact .inl (List.mem_append_right _ (by rw [e]; exact List.mem_singleton.mpr rfl))
      · exact .inr (List.mem_append_right _ h)
  refine ⟨List.nodup_append.mpr ⟨I.nd, List.pairwise_singleton _ _, fun a ha b hb => by rw [List.mem_singleton.mp hb]; exact fun z => hv (by rw [← z]; exact ha)⟩, fun u h => ?_, fun u h => ?_, fun u h => ?_, fun u h => ?_, fun u h => move u (I.b0 u h), fun u hu y h => ?_⟩
  · rcases List.mem_append.mp h with h | h
    · exact I.fU u h
    · rw [List.mem_singleton.mp h]; exact I.sU v List.mem_cons_self
  · rcases List.mem_append.mp h with h | h
    · exact hU v u (List.mem_reverse.mp h)
    · exact I.sU u (List.mem_cons_of_mem _ h)
  · rcases List.mem_append.mp h with h | h
    · exact I.fr u h
    · rw [List.mem_singleton.mp h]; exact rv
  · rcases List.mem_append.mp h with h | h
    · exact .step rv (List.mem_reverse.mp h)
    · exact I.sr u (List.mem_cons_of_mem _ h)
  · rcases List.mem_append.mp hu with hu | hu
    · exact move y (I.b1 u hu y h)
    · rw [List.mem_singleton.mp hu] at h
      exact .inr (List.mem_append_left _ (List.mem_reverse.mpr h))
theorem DfI.done {own : List Nat → List (List Nat)} {w : List Nat} {U f : List (List Nat)} (I : DfI own w U [] f) : ∀ v, v ∈ f ↔ Rch own w v := fun v => by
  refine ⟨I.fr v, fun h => ?_⟩
  induction h with
  | one h => exact (I.b0 _ h).resolve_right (fun z => by cases z)
  | step _ h ih => exact (I.b1 _ ih _ h).resolve_right (fun z => by cases z)
theorem sortN_ext {a b : List (List Nat)} (h : ∀ v, v ∈ a ↔ v ∈ b) : sortN a = sortN b := by
  have nd : ∀ c : List (List Nat), (sortN c).Nodup := fun c => by
    rw [(sortN_perm c).nodup_iff]
    refine List.pairwise_map.mpr ?_
    exact (SetT.met_nodup (c.map Sx)).imp fun {x y} hne e => hne (by rw [Sx_of x, Sx_of y, e])
  have perm : (sortN a).Perm (sortN b) := by
    have : ∀ {xs ys : List (List Nat)}, xs.Nodup → ys.Nodup → (∀ v, v ∈ xs ↔ v ∈ ys) → xs.Perm ys := by
      intro xs
      induction xs with
      | nil =>
        intro ys _ _ h
        cases ys with
        | nil => exact .nil
        | cons y ys => exact absurd ((h y).mpr List.mem_cons_self) (fun z => by cases z)
      | cons x xs ih =>
        intro ys nx ny h
        have nx' := List.nodup_cons.mp nx
        have hx := (h x).mp List.mem_cons_self
        have ne := ny.erase x
        refine .trans (.cons x (ih nx'.2 ne fun v => ?_)) (List.perm_cons_erase hx).symm
        constructor
        · intro hv
          have vx : v ≠ x := fun e => nx'.1 (by rw [← e]; exact hv)
          exact (List.mem_erase_of_ne vx).mpr ((h v).mp (List.mem_cons_of_mem _ hv))
        · intro hv
          have vy := List.mem_of_mem_erase hv
          have vx : v ≠ x := fun e => by
            rw [e] at hv
            exact (List.Nodup.not_mem_erase ny) hv
          exact (List.mem_cons.mp ((h v).mpr vy)).resolve_left vx
    exact this (nd a) (nd b) fun v => by rw [sortN_mem, sortN_mem, h v]
  exact List.Perm.eq_of_pairwise (le := fun a b : List Nat => a ≤ b) (fun a b _ _ h1 h2 => List.le_antisymm h1 h2) (sortN_pw a) (sortN_pw b) perm
/-- what is sorted of names that are once each -/
theorem sort_of {f : List (List Nat)} (nd : f.Nodup) {ss : List Str} (p : ss.Perm (f.map Sx)) (so : PyProof.Rows.sortedS ss = true) : ss = (sortN f).map Sx := by
  have pm : (f.map Sx).Perm (SetT.met (f.map Sx)) := by
    have nf : (f.map Sx).Nodup := List.pairwise_map.mpr (nd.imp fun hne e => hne (Sx_inj.mp e))
    have : ∀ {xs ys : List Str}, xs.Nodup → ys.Nodup → (∀ v, v ∈ xs ↔ v ∈ ys) → xs.Perm ys := by
      intro xs
      induction xs with
      | nil =>
        intro ys _ _ h
        cases ys with
        | nil => exact .nil
        | cons y ys => exact absurd ((h y).mpr List.mem_cons_self) (fun z => by cases z)
      | cons x xs ih =>
        intro ys nx ny h
        have nx' := List.nodup_cons.mp nx
        have hx := (h x).mp List.mem_cons_self
        have ne := ny.erase x
        refine .trans (.cons x (ih nx'.2 ne fun v => ?_)) (List.perm_cons_erase hx).symm
        constructor
        · intro hv
          have vx : v ≠ x := fun e => nx'.1 (by rw [← e]; exact hv)
          exact (List.mem_erase_of_ne vx).mpr ((h v).mp (List.mem_cons_of_mem _ hv))
        · intro hv
          have vy := List.mem_of_mem_erase hv
          have vx : v ≠ x := fun e => by
            rw [e] at hv
            exact (List.Nodup.not_mem_erase ny) hv
          exact (List.mem_cons.mp ((h v).mpr vy)).resolve_left vx
    exact this nf (SetT.met_nodup _) fun v => (SetT.met_mem _ v).symm
  exact nmS_sort ⟨p.trans pm, so⟩
theorem sort_strD {f : List (List Nat)} (nd : f.Nodup) {ss : List Str} (p : ss.Perm (f.map Sx)) (so : PyProof.Rows.sortedS ss = true) : ss.map D.str = (sortN f).map strD := by
  rw [sort_of nd p so, List.map_map]; rfl

end Law

namespace Law
open PySem PySem.Spec PyProof.Rows L2 DL
local macro_rules | `(tactic| walk_at "w") => `(tactic| conv => whnf)
local macro_rules | `(tactic| walk_at "s") => `(tactic| (refine ⟨?_⟩; conv => whnf))
local macro_rules | `(tactic| walk_at "z") => `(tactic| (refine small ?_; simp only [List.length_map, List.length_append, List.length_reverse, List.length_cons, List.length_nil]; omega))
local macro_rules | `(tactic| walk_at "q") => `(tactic| (refine ⟨(okN_tints _).ok, (okN_tints _).ok, ?_⟩; rw [eqD_tints]))
theorem nmsL_mem {lv : List FA} {v : List Nat} : v ∈ nmsL lv ↔ FA.nam v ∈ lv := by
  unfold nmsL
  rw [List.mem_filterMap]
  constructor
  · rintro ⟨a, h, e⟩
    cases a with
    | nam w => cases e; exact h
    | _ => cases e
  · intro h
    exact ⟨_, h, rfl⟩
/-! _law_word -/
theorem FA.tupD (a : FA) : ∃ ds, a.toD = .tup ds := by cases a <;> exact ⟨_, rfl⟩
theorem part_two {x y : FE} {l : LH} {Q : DK} (q : Q (.lst [x.toD, y.toD]) l) : callD D__law_parts [(FA.br x y).toD] l Q := by
  refine ⟨rfl, ?_⟩
  walk_at "w"
  refine ⟨_, rfl, ?_⟩
  refine wq false (by decide +kernel) (by decide +kernel) (by decide +kernel) (P := fun b => ifB b _ _) (ifB_false ?_)
  refine ⟨?_⟩
  walk_at "w"
  refine ⟨show 2 ≤ sizeLine by decide, ?_⟩
  show compL _ _ _ _ [x.toD, y.toD] _ _ _
  walk_at "w"
  refine ifB_true ⟨?_⟩
  walk_at "w"
  refine ifB_true ⟨?_⟩
  walk_at "w"
  exact q
theorem part_one {a : FA} {n : Int} {l : LH} {Q : DK} (q : Q (.lst [a.toD]) l) : callD D__law_parts [(FI.pw a n).toD] l Q := by
  obtain ⟨ds, e⟩ := a.tupD
  have e2 : (FI.pw a n).toD = .tup [.str "power", .tup ds, .int n] := by show D.tup [.str "power", a.toD, .int n] = _; rw [e]
  rw [e2]
  rw [e] at q
  refine ⟨rfl, ?_⟩
  walk_at "w"
  refine ⟨_, rfl, ?_⟩
  refine wq false (by decide +kernel) (by decide +kernel) (by decide +kernel) (P := fun b => ifB b _ _) (ifB_false ?_)
  refine ⟨?_⟩
  walk_at "w"
  refine ⟨show 2 ≤ sizeLine by decide, ?_⟩
  show compL _ _ _ _ [.tup ds, .int n] _ _ _
  walk_at "w"
  refine ifB_true ⟨?_⟩
  walk_at "w"
  refine ifB_false ?_
  exact q
theorem part_non {l : LH} {Q : DK} (q : Q (.lst []) l) : callD D__law_parts [FA.non.toD] l Q := by
  refine ⟨rfl, ?_⟩
  walk_at "w"
  refine ⟨_, rfl, ?_⟩
  refine wq false (by decide +kernel) (by decide +kernel) (by decide +kernel) (P := fun b => ifB b _ _) (ifB_false ?_)
  refine ⟨?_⟩
  walk_at "w"
  exact ⟨show 0 ≤ sizeLine by decide, q⟩
theorem part_all {x : FE} {l : LH} {Q : DK} (q : Q (.lst x.toDs) l) : callD D__law_parts [x.toD] l Q := by
  refine ⟨rfl, ?_⟩
  walk_at "w"
  refine ⟨_, rfl, ?_⟩
  refine wq true (by decide +kernel) (by decide +kernel) (by decide +kernel) (P := fun b => ifB b _ _) (ifB_true ?_)
  walk_at "w"
  refine ⟨_, rfl, ?_⟩
  walk_at "w"
  exact q
/-! the law's own names of a formula -/
inductive TT where
  | ofE (x : FE)
  | ofI (x : FI)
  | ofA (x : FA)
def TT.toD : TT → D
  | .ofE x => x.toD
  | .ofI x => x.toD
  | .ofA x => x.toD
def TT.lv : TT → List FA
  | .ofE x => x.lv
  | .ofI x => x.lv
  | .ofA x => x.lv
def FE.items : FE → List FI
  | .one i => [i]
  | .cons i r => i :: r.items
def FA.pt : FA → List TT
  | .br x y => [.ofE x, .ofE y]
  | .par x => x.items.map .ofI
  | _ => []
def TT.pt : TT → List TT
  | .ofE x => x.items.map .ofI
  | .ofI (.pl a) => a.pt
  | .ofI (.pw a _) => [.ofA a]
  | .ofA a => a.pt
def FA.hd : FA → Option (List Nat)
  | .nam w => some w
  | _ => none
def TT.hd : TT → Option (List Nat)
  | .ofA a => a.hd
  | .ofI (.pl a) => a.hd
  | _ => none
mutual
def FA.sz : FA → Nat
  | .br x y => x.sz + y.sz + 1
  | .par x => x.sz
  | _ => 1
def FI.sz : FI → Nat
  | .pl a => a.sz
  | .pw a _ => a.sz + 1
def FE.sz : FE → Nat
  | .one i => i.sz + 1
  | .cons i r => i.sz + r.sz
end
def TT.sz : TT → Nat
  | .ofE x => x.sz
  | .ofI x => x.sz
  | .ofA x => x.sz
def TTs (ts : List TT) : Nat := (ts.map TT.sz).sum
theorem TTs_app (u v : List TT) : TTs (u ++ v) = TTs u + TTs v := by unfold TTs; rw [List.map_append, List.sum_append]
theorem items_sz : ∀ x : FE, TTs (x.items.map .ofI) + 1 = x.sz
  | .one i => by show (i.sz + 0) + 1 = i.sz + 1; omega
  | .cons i r => by
    have := items_sz r
    show (i.sz + TTs (r.items.map .ofI)) + 1 = i.sz + r.sz
    omega
theorem FA.pt_sz : ∀ a : FA, TTs a.pt < a.sz
  | .lt _ => by show 0 < 1; decide
  | .nam _ => by show 0 < 1; decide
  | .non => by show 0 < 1; decide
  | .br x y => by show x.sz + (y.sz + 0) < x.sz + y.sz + 1; omega
  | .par x => by
    have := items_sz x
    show TTs (x.items.map .ofI) < x.sz
    omega
theorem TT.pt_sz : ∀ t : TT, TTs t.pt < t.sz
  | .ofE x => by
    have := items_sz x
    show TTs (x.items.map .ofI) < x.sz
    omega
  | .ofI (.pl a) => a.pt_sz
  | .ofI (.pw a _) => by show a.sz + 0 < a.sz + 1; omega
  | .ofA a => a.pt_sz
mutual
theorem FA.sz_le : ∀ a : FA, a.ok → a.sz ≤ 2 * a.tx.length
  | .lt _, _ => by show 1 ≤ 2 * 1; decide
  | .nam w, h => by show 1 ≤ 2 * w.length; have := h.1; omega
  | .non, _ => by show 1 ≤ 2 * 1; decide
  | .br x y, h => by
    have h1 := x.sz_le h.1
    have h2 := y.sz_le h.2
    show x.sz + y.sz + 1 ≤ 2 * (91 :: (x.tx ++ (44 :: 32 :: (y.tx ++ [93])))).length
    simp only [List.length_cons, List.length_append, List.length_nil]
    omega
  | .par x, h => by
    have h1 := x.sz_le h
    show x.sz ≤ 2 * (40 :: (x.tx ++ [41])).length
    simp only [List.length_cons, List.length_append, List.length_nil]
    omega
theorem FI.sz_le : ∀ i : FI, i.ok → i.sz ≤ 2 * i.tx.length
  | .pl a, h => a.sz_le h
  | .pw a n, h => by
    have := a.sz_le h.1
    show a.sz + 1 ≤ 2 * (a.tx ++ 94 :: numT n).length
    simp only [List.length_cons, List.length_append]
    omega
theorem FE.sz_le : ∀ x : FE, x.ok → x.sz ≤ 2 * x.tx.length + 1
  | .one i, h => by
    have := i.sz_le h
    show i.sz + 1 ≤ 2 * i.tx.length + 1
    omega
  | .cons i r, h => by
    have h1 := i.sz_le h.1
    have h2 := r.sz_le h.2
    show i.sz + r.sz ≤ 2 * (i.tx ++ 32 :: r.tx).length + 1
    simp only [List.length_cons, List.length_append]
    omega
end
theorem items_toD : ∀ x : FE, (x.items.map TT.ofI).map TT.toD = x.toDs
  | .one i => rfl
  | .cons i r => by show i.toD :: (r.items.map TT.ofI).map TT.toD = i.toD :: r.toDs; rw [items_toD r]
theorem items_lv : ∀ (x : FE) (v : FA), v ∈ x.lv ↔ ∃ t ∈ x.items.map TT.ofI, v ∈ t.lv
  | .one i, v => ⟨fun h => ⟨.ofI i, List.mem_singleton.mpr rfl, h⟩, fun ⟨t, ht, h⟩ => by rw [List.mem_singleton.mp ht] at h; exact h⟩
  | .cons i r, v => by
    show v ∈ i.lv ++ r.lv ↔ ∃ t ∈ TT.ofI i :: r.items.map TT.ofI, v ∈ t.lv
    rw [List.mem_append, items_lv r v]
    constructor
    · rintro (h | ⟨t, ht, h⟩)
      · exact ⟨_, List.mem_cons_self, h⟩
      · exact ⟨t, List.mem_cons_of_mem _ ht, h⟩
    · rintro ⟨t, ht, h⟩
      rcases List.mem_cons.mp ht with e | ht
      · rw [e] at h; exact .inl h
      · exact .inr ⟨t, ht, h⟩
theorem nms_hd {t : TT} {v : List Nat} : v ∈ nmsL t.lv ↔ t.hd = some v ∨ ∃ p ∈ t.pt, v ∈ nmsL p.lv := by
  have it : ∀ x : FE, v ∈ nmsL x.lv ↔ ∃ p ∈ x.items.map TT.ofI, v ∈ nmsL p.lv := fun x => by
    rw [nmsL_mem, items_lv x]
    exact ⟨fun ⟨t, h1, h2⟩ => ⟨t, h1, nmsL_mem.mpr h2⟩, fun ⟨t, h1, h2⟩ => ⟨t, h1, nmsL_mem.mp h2⟩⟩
  have fa : ∀ a : FA, v ∈ nmsL a.lv ↔ a.hd = some v ∨ ∃ p ∈ a.pt, v ∈ nmsL p.lv := fun a => by
    cases a with
    | lt c => exact ⟨fun h => (by have := nmsL_mem.mp h; cases List.mem_singleton.mp this), fun h => h.elim (fun e => by cases e) fun ⟨p, hp, _⟩ => by cases hp⟩
    | nam w =>
      refine ⟨fun h => .inl ?_, fun h => h.elim (fun e => ?_) fun ⟨p, hp, _⟩ => by cases hp⟩
      · have := List.mem_singleton.mp (nmsL_mem.mp h)
        cases this
        rfl
      · cases e
        exact nmsL_mem.mpr (List.mem_singleton.mpr rfl)
    | non => exact ⟨fun h => (by have := nmsL_mem.mp h; cases this), fun h => h.elim (fun e => by cases e) fun ⟨p, hp, _⟩ => by cases hp⟩
    | br x y =>
      show v ∈ nmsL (x.lv ++ y.lv) ↔ none = some v ∨ ∃ p ∈ [TT.ofE x, TT.ofE y], v ∈ nmsL p.lv
      rw [nmsL_app, List.mem_append]
      constructor
      · rintro (h | h)
        · exact .inr ⟨_, List.mem_cons_self, h⟩
        · exact .inr ⟨_, List.mem_cons_of_mem _ (List.mem_singleton.mpr rfl), h⟩
      · rintro (h | ⟨p, hp, h⟩)
        · cases h
        · rcases List.mem_cons.mp hp with e | e
          · rw [e] at h; exact .inl h
          · rw [List.mem_singleton.mp e] at h; exact .inr h
    | par x => exact (it x).trans ⟨.inr, fun h => h.elim (fun e => by cases e) id⟩
  cases t with
  | ofE x => exact (it x).trans ⟨.inr, fun h => h.elim (fun e => by cases e) id⟩
  | ofA x => exact fa x
  | ofI x =>
    cases x with
    | pl a => exact fa a
    | pw a n =>
      show v ∈ nmsL a.lv ↔ none = some v ∨ ∃ p ∈ [TT.ofA a], v ∈ nmsL p.lv
      exact ⟨fun h => .inr ⟨_, List.mem_singleton.mpr rfl, h⟩, fun h => h.elim (fun e => by cases e) fun ⟨p, hp, h⟩ => by rw [List.mem_singleton.mp hp] at h; exact h⟩
def TT.ok : TT → Prop
  | .ofE x => x.ok ∧ x.tx.length ≤ 1000 ∧ x.dp ≤ 14
  | .ofI x => x.ok ∧ x.tx.length ≤ 1000 ∧ x.dp ≤ 14
  | .ofA x => x.ok ∧ x.tx.length ≤ 1000 ∧ x.dp ≤ 14
theorem items_ok : ∀ (x : FE), x.ok → ∀ t ∈ x.items, t.ok ∧ t.tx.length ≤ x.tx.length ∧ t.dp ≤ x.dp
  | .one i, h, t, ht => by rw [List.mem_singleton.mp ht]; exact ⟨h, Nat.le_refl _, Nat.le_refl _⟩
  | .cons i r, h, t, ht => by
    have e : (FE.cons i r).tx.length = i.tx.length + (r.tx.length + 1) := by show (i.tx ++ 32 :: r.tx).length = _; rw [List.length_append, List.length_cons]
    have d : (FE.cons i r).dp = max i.dp r.dp := rfl
    rcases List.mem_cons.mp ht with k | k
    · rw [k]; exact ⟨h.1, by omega, by omega⟩
    · obtain ⟨a, b, c⟩ := items_ok r h.2 t k
      exact ⟨a, by omega, by omega⟩
theorem TT.ok_pt {t : TT} (h : t.ok) : ∀ p ∈ t.pt, p.ok := by
  have it : ∀ x : FE, x.ok → x.tx.length ≤ 1000 → x.dp ≤ 14 → ∀ p ∈ x.items.map TT.ofI, p.ok := fun x h1 h2 h3 p hp => by
    obtain ⟨i, hi, rfl⟩ := List.mem_map.mp hp
    obtain ⟨a, b, c⟩ := items_ok x h1 i hi
    exact ⟨a, by omega, by omega⟩
  have fa : ∀ a : FA, a.ok → a.tx.length ≤ 1000 → a.dp ≤ 14 → ∀ p ∈ a.pt, p.ok := fun a h1 h2 h3 p hp => by
    cases a with
    | br x y =>
      have e : (FA.br x y).tx.length = x.tx.length + y.tx.length + 4 := by
        show (91 :: (x.tx ++ (44 :: 32 :: (y.tx ++ [93])))).length = _
        simp only [List.length_cons, List.length_append, List.length_nil]
        omega
      have d : (FA.br x y).dp = 1 + max x.dp y.dp := rfl
      rcases List.mem_cons.mp hp with k | k
      · rw [k]; exact ⟨h1.1, by omega, by omega⟩
      · rw [List.mem_singleton.mp k]; exact ⟨h1.2, by omega, by omega⟩
    | par x =>
      have e : (FA.par x).tx.length = x.tx.length + 2 := by
        show (40 :: (x.tx ++ [41])).length = _
        simp only [List.length_cons, List.length_append, List.length_nil]
      have d : (FA.par x).dp = 1 + x.dp := rfl
      exact it x h1 (by omega) (by omega) p hp
    | _ => cases hp
  cases t with
  | ofE x => exact it x h.1 h.2.1 h.2.2
  | ofA x => exact fa x h.1 h.2.1 h.2.2
  | ofI x =>
    cases x with
    | pl a => exact fa a h.1 h.2.1 h.2.2
    | pw a n =>
      intro p hp
      rw [List.mem_singleton.mp hp]
      have e : (FI.pw a n).tx.length = a.tx.length + ((numT n).length + 1) := by show (a.tx ++ 94 :: numT n).length = _; rw [List.length_append, List.length_cons]
      have h2 := h.2.1
      have h3 : a.dp ≤ 14 := h.2.2
      exact ⟨h.1.1, by omega, h3⟩
theorem TT.pl {t : TT} (h : t.ok) : Pl 61 t.toD := by
  cases t with
  | ofE x => exact x.pl h.1 (by have := h.2.1; omega) (by have := h.2.2; omega)
  | ofA x => exact x.pl h.1 (by have := h.2.1; omega) (by have := h.2.2; omega)
  | ofI x => exact x.pl' h.1 (by have := h.2.1; omega) (by have := h.2.2; omega)
theorem part_let {c : Nat} {l : LH} {Q : DK} (q : Q (.lst []) l) : callD D__law_parts [(FA.lt c).toD] l Q := by
  refine ⟨rfl, ?_⟩
  walk_at "w"
  refine ⟨_, rfl, ?_⟩
  refine wq false (by decide +kernel) (by decide +kernel) (by decide +kernel) (P := fun b => ifB b _ _) (ifB_false ?_)
  refine ⟨?_⟩
  walk_at "w"
  refine ⟨Nat.le_of_ble_eq_true rfl, ?_⟩
  walk_at "w"
  refine ifB_false ?_
  exact q
theorem part_nam {w : List Nat} {l : LH} {Q : DK} (q : Q (.lst []) l) : callD D__law_parts [(FA.nam w).toD] l Q := by
  refine ⟨rfl, ?_⟩
  walk_at "w"
  refine ⟨_, rfl, ?_⟩
  refine wq false (by decide +kernel) (by decide +kernel) (by decide +kernel) (P := fun b => ifB b _ _) (ifB_false ?_)
  refine ⟨?_⟩
  walk_at "w"
  refine ⟨Nat.le_of_ble_eq_true rfl, ?_⟩
  walk_at "w"
  refine ifB_false ?_
  exact q
theorem c_parts (t : TT) {l : LH} {Q : DK} (q : Q (.lst (t.pt.map TT.toD)) l) : callD D__law_parts [t.toD] l Q := by
  have fa : ∀ (a : FA), Q (.lst (a.pt.map TT.toD)) l → callD D__law_parts [a.toD] l Q := fun a q => by
    cases a with
    | lt c => exact part_let q
    | nam w => exact part_nam q
    | non => exact part_non q
    | br x y => exact part_two q
    | par x =>
      have q : Q (.lst ((x.items.map TT.ofI).map TT.toD)) l := q
      rw [items_toD] at q
      exact part_all q
  cases t with
  | ofE x =>
    have q : Q (.lst ((x.items.map TT.ofI).map TT.toD)) l := q
    rw [items_toD] at q
    exact part_all q
  | ofA x => exact fa x q
  | ofI x =>
    cases x with
    | pl a => exact fa a q
    | pw a n => exact part_one q
/-- the word at a tree's head -/
theorem TT.head (t : TT) : (∃ w, t.hd = some w ∧ t.toD = .tup [.str "name", .str (Sx w)]) ∨ (t.hd = none ∧ ∃ s r, t.toD = .tup (.str s :: r) ∧ eqD (.str s) (.str "name") = false ∧ PyData.strOk s = true) := by
  have fa : ∀ a : FA, (∃ w, a.hd = some w ∧ a.toD = .tup [.str "name", .str (Sx w)]) ∨ (a.hd = none ∧ ∃ s r, a.toD = .tup (.str s :: r) ∧ eqD (.str s) (.str "name") = false ∧ PyData.strOk s = true) := fun a => by
    cases a with
    | nam w => exact .inl ⟨w, rfl, rfl⟩
    | lt c => exact .inr ⟨rfl, "letter", _, rfl, by decide +kernel, by decide +kernel⟩
    | non => exact .inr ⟨rfl, "none", _, rfl, by decide +kernel, by decide +kernel⟩
    | br x y => exact .inr ⟨rfl, "bracket", _, rfl, by decide +kernel, by decide +kernel⟩
    | par x => exact .inr ⟨rfl, "items", _, rfl, by decide +kernel, by decide +kernel⟩
  cases t with
  | ofE x => exact .inr ⟨rfl, "items", _, rfl, by decide +kernel, by decide +kernel⟩
  | ofA x => exact fa x
  | ofI x =>
    cases x with
    | pl a => exact fa a
    | pw a n => exact .inr ⟨rfl, "power", _, rfl, by decide +kernel, by decide +kernel⟩

end Law

namespace Law
open PySem PySem.Spec PyProof.Rows L2 DL
local macro_rules | `(tactic| walk_at "w") => `(tactic| conv => whnf)
local macro_rules | `(tactic| walk_at "s") => `(tactic| (refine ⟨?_⟩; conv => whnf))
local macro_rules | `(tactic| walk_at "z") => `(tactic| (refine small ?_; simp only [List.length_map, List.length_append, List.length_reverse, List.length_cons, List.length_nil]; omega))
local macro_rules | `(tactic| walk_at "q") => `(tactic| (refine ⟨(okN_tints _).ok, (okN_tints _).ok, ?_⟩; rw [eqD_tints]))
/-! the law's own names of a formula, walked -/
def DcAt (l : LH) (x : D) (es : List BE) : Prop := x = .dK (bKs es) (bVs FE.toD es) ∨ ∃ a, x = .ref a ∧ l a = some (.dK (bKs es) (bVs FE.toD es))
theorem DcAt.sub {l l' : LH} {x : D} {es : List BE} (h : DcAt l x es) (s : DL.Sub l l') : DcAt l' x es := h.imp id fun ⟨a, e, k⟩ => ⟨a, e, s _ _ k⟩
theorem pop_lastT {α : Type} (f : α → D) (v : α) (st : List α) : ((v :: st).reverse.map f)[((v :: st).reverse.map f).length - 1]? = some (f v) ∧ ((v :: st).reverse.map f).dropLast = st.reverse.map f := by
  rw [List.reverse_cons, List.map_append]
  constructor
  · rw [List.length_append, List.getElem?_append_right (by simp)]
    simp
  · show (st.reverse.map f ++ [f v]).dropLast = _
    rw [List.dropLast_concat]
theorem any_nm (f : List (List Nat)) (v : List Nat) : ((f.map strD).any fun z => eqD z (.str (Sx v))) = decide (v ∈ f) := by
  induction f with
  | nil => rfl
  | cons u f ih =>
    rw [List.map_cons, List.any_cons, ih, show eqD (strD u) (.str (Sx v)) = decide (u = v) from eqD_S u v]
    by_cases h : u = v
    · subst h
      rw [decide_eq_true rfl, decide_eq_true List.mem_cons_self]
      rfl
    · rw [decide_eq_false h, Bool.false_or]
      exact decide_eq_decide.mpr ⟨fun z => List.mem_cons_of_mem _ z, fun z => (List.mem_cons.mp z).resolve_left (Ne.symm h)⟩
theorem okNs {f : List (List Nat)} (h : ∀ v ∈ f, Sg v) : okD (.lst (f.map strD)) := (show okN 1 (.lst (f.map strD)) from okN_lst fun d hd => by
  obtain ⟨v, hv, rfl⟩ := List.mem_map.mp hd
  exact okS (h v hv)).ok
theorem Pl.okN : ∀ {n : Nat} {d : D}, Pl n d → okN n d
  | _, _, .int n i => (okN_int i).mono (Nat.zero_le _)
  | _, _, .str n w h => (okS h).mono (Nat.zero_le _)
  | _, _, .non n => okN_non.mono (Nat.zero_le _)
  | _, _, .tup n ds hl hd => okN_tup fun d h => (hd d h).okN
  | _, _, .lst n ds hl hd => okN_lst fun d h => (hd d h).okN
theorem okTs {st : List TT} (h : ∀ t ∈ st, t.ok) : okD (.lst (st.map TT.toD)) := (show DL.okN 62 (.lst (st.map TT.toD)) from okN_lst fun d hd => by
  obtain ⟨v, hv, rfl⟩ := List.mem_map.mp hd
  exact (TT.pl (h v hv)).okN).ok
theorem txts_sx (ws : List (List Nat)) : txts (ws.map strD) = some (ws.map Sx) := txts_nm ws
structure LwI (N : List (List Nat)) (st : List TT) (f : List (List Nat)) : Prop where
  nd : f.Nodup
  ok : ∀ t ∈ st, t.ok
  mem : ∀ v, v ∈ N ↔ v ∈ f ∨ ∃ t ∈ st, v ∈ nmsL t.lv
theorem TTs_len : ∀ st : List TT, (∀ t ∈ st, t.ok) → st.length ≤ TTs st
  | [], _ => Nat.zero_le _
  | t :: st, h => by
    have := TTs_len st fun u hu => h u (List.mem_cons_of_mem _ hu)
    have := t.pt_sz
    show st.length + 1 ≤ t.sz + TTs st
    omega
theorem LwI.skip {N : List (List Nat)} {t : TT} {st : List TT} {f : List (List Nat)} (I : LwI N (t :: st) f) (h : t.hd = none ∨ ∃ v, t.hd = some v ∧ v ∈ f) : LwI N (t.pt.reverse ++ st) f := by
  refine ⟨I.nd, fun u hu => ?_, fun v => ?_⟩
  · rcases List.mem_append.mp hu with hu | hu
    · exact TT.ok_pt (I.ok t List.mem_cons_self) u (List.mem_reverse.mp hu)
    · exact I.ok u (List.mem_cons_of_mem _ hu)
  · rw [I.mem v]
    constructor
    · rintro (k | ⟨u, hu, k⟩)
      · exact .inl k
      · rcases List.mem_cons.mp hu with e | hu
        · rw [e] at k
          rcases nms_hd.mp k with k | ⟨p, hp, k⟩
          · rcases h with h | ⟨v', h, hv⟩
            · rw [h] at k; cases k
            · rw [h] at k; cases k; exact .inl hv
          · exact .inr ⟨p, List.mem_append_left _ (List.mem_reverse.mpr hp), k⟩
        · exact .inr ⟨u, List.mem_append_right _ hu, k⟩
    · rintro (k | ⟨u, hu, k⟩)
      · exact .inl k
      · rcases List.mem_append.mp hu with hu | hu
        · exact .inr ⟨t, List.mem_cons_self, nms_hd.mpr (.inr ⟨u, List.mem_reverse.mp hu, k⟩)⟩
        · exact .inr ⟨u, List.mem_cons_of_mem _ hu, k⟩
theorem LwI.more {N : List (List Nat)} {t : TT} {st : List TT} {f : List (List Nat)} (I : LwI N (t :: st) f) {w : List Nat} (h : t.hd = some w) (hw : w ∉ f) : LwI N (t.pt.reverse ++ st) (f ++ [w]) := by
  refine ⟨List.nodup_append.mpr ⟨I.nd, List.pairwise_singleton _ _, fun a ha b hb => by rw [List.mem_singleton.mp hb]; exact fun z => hw (by rw [← z]; exact ha)⟩, fun u hu => ?_, fun v => ?_⟩
  · rcases List.mem_append.mp hu with hu | hu
    · exact TT.ok_pt (I.ok t List.mem_cons_self) u (List.mem_reverse.mp hu)
    · exact I.ok u (List.mem_cons_of_mem _ hu)
  · rw [I.mem v]
    constructor
    · rintro (k | ⟨u, hu, k⟩)
      · exact .inl (List.mem_append_left _ k)
      · rcases List.mem_cons.mp hu with e | hu
        · rw [e] at k
          rcases nms_hd.mp k with k | ⟨p, hp, k⟩
          · rw [h] at k; cases k; exact .inl (List.mem_append_right _ (List.mem_singleton.mpr rfl))
          · exact .inr ⟨p, List.mem_append_left _ (List.mem_reverse.mpr hp), k⟩
        · exact .inr ⟨u, List.mem_append_right _ hu, k⟩
    · rintro (k | ⟨u, hu, k⟩)
      · rcases List.mem_append.mp k with k | k
        · exact .inl k
        · exact .inr ⟨t, List.mem_cons_self, nms_hd.mpr (.inl (by rw [h, List.mem_singleton.mp k]))⟩
      · rcases List.mem_append.mp hu with hu | hu
        · exact .inr ⟨t, List.mem_cons_self, nms_hd.mpr (.inr ⟨u, List.mem_reverse.mp hu, k⟩)⟩
        · exact .inr ⟨u, List.mem_cons_of_mem _ hu, k⟩
theorem TTs_rev (ts : List TT) : TTs ts.reverse = TTs ts := by unfold TTs; rw [List.map_reverse]; exact List.sum_reverse _
theorem okTs' {st : List TT} (h : ∀ t ∈ st, t.ok) : okD (.lst (st.map TT.toD).reverse) := by
  rw [← List.map_reverse]
  exact okTs fun t ht => h t (List.mem_reverse.mp ht)
theorem lown_loop {l0 : LH} {fb wb : Addr} (nf0 : l0 fb = none) (nw0 : l0 wb = none) (ne : fb ≠ wb) {N : List (List Nat)} (hN : N.length < 64) (sN : ∀ v ∈ N, Sg v) {e0 e1 : Option D} {Q : DK} (q : ∀ l' f, (∀ v, v ∈ N ↔ v ∈ f) → f.Nodup → DL.Sub l0 l' → Q (.lst ((sortN f).map strD)) l') {st : List TT} (hs : TTs st ≤ 3000) (I : LwI N st []) {l1 : LH} (s1 : DL.Sub l0 l1) (f1 : l1 fb = some (.lst [])) (w1 : l1 wb = some (.lst (st.reverse.map TT.toD))) {e4 : Option D} :
    nS T__law_own_2 ⟨fun _ l => Q .non l, Q, fun _ _ => False, fun _ _ => False⟩ [e0, e1, some (.ref fb), some (.ref wb), e4] l1 := by
  refine ⟨?_⟩
  walk_at "w"
  refine ⟨fun m env l' => ∃ st f e4, env = [e0, e1, some (.ref fb), some (.ref wb), e4] ∧ DL.Sub l0 l' ∧ l' fb = some (.lst (f.map strD)) ∧ l' wb = some (.lst (st.reverse.map TT.toD)) ∧ LwI N st f ∧ m = TTs st ∧ m ≤ 3000,
    ⟨_, st, [], _, rfl, s1, f1, w1, I, rfl, hs⟩, ?_⟩
  rintro m env l2 ⟨st, f, e4, rfl, s2, f2, w2, I, rfl, mb⟩
  have fl : f.length ≤ N.length := nodup_len I.nd fun v hv => (I.mem v).mpr (.inl hv)
  have fS : ∀ v ∈ f, Sg v := fun v hv => sN v ((I.mem v).mpr (.inl hv))
  have sl := TTs_len st I.ok
  cases st with
  | nil =>
    walk_at "w"
    refine ⟨Nat.le_of_ble_eq_true rfl, _, w2, ?_⟩
    refine ⟨okTs (st := []) (fun t h => by cases h), okTs (st := []) (fun t h => by cases h), ?_⟩
    refine ifB_by (fun h => absurd h (by decide +kernel)) (fun _ => ?_)
    walk_at "s"
    refine ⟨_, f2, _, txts_sx f, by rw [List.length_map]; omega, fun ss p so => ?_⟩
    rw [sort_strD I.nd p so]
    have mm : ∀ v, v ∈ N ↔ v ∈ f := fun v => (I.mem v).trans ⟨fun h => h.elim id fun ⟨t, h, _⟩ => (by cases h), .inl⟩
    exact q l2 f mm I.nd s2
  | cons t st =>
    have sl : st.length + 1 ≤ TTs (t :: st) := sl
    have tz : TTs (t :: st) = t.sz + TTs st := rfl
    have ps := t.pt_sz
    have pl := TTs_len t.pt (TT.ok_pt (I.ok t List.mem_cons_self))
    obtain ⟨p1, p2⟩ := pop_lastT TT.toD t st
    walk_at "w"
    refine ⟨Nat.le_of_ble_eq_true rfl, _, w2, ?_⟩
    refine ⟨by rw [List.map_reverse]; exact okTs' I.ok, okTs (st := []) (fun t h => by cases h), ?_⟩
    rw [lst_nil, show ((t :: st).reverse.map TT.toD).isEmpty = false by simp]
    refine ifB_true ⟨?_⟩
    walk_at "w"
    refine ⟨_, w2, ?_⟩
    refine ⟨_, w2, _, p1, ?_⟩
    rw [p2]
    have s3 : DL.Sub l0 (uL l2 wb (.lst (st.reverse.map TT.toD))) := fun z o h => by rw [uL_ne (fun e => by rw [e, nw0] at h; cases h)]; exact s2 z o h
    have f3 := (uL_ne (l := l2) (o := .lst (st.reverse.map TT.toD)) ne).trans f2
    have w3 : uL l2 wb (.lst (st.reverse.map TT.toD)) wb = some (.lst (st.reverse.map TT.toD)) := uL_same
    generalize uL l2 wb (.lst (st.reverse.map TT.toD)) = l3 at s3 f3 w3
    have go : ∀ (f' : List (List Nat)) (l4 : LH), LwI N (t.pt.reverse ++ st) f' → DL.Sub l0 l4 → l4 fb = some (.lst (f'.map strD)) → l4 wb = some (.lst (st.reverse.map TT.toD)) →
        (sExpr (dMt kExtend (dVar 3) (aCons (dDef D__law_parts (aCons (dVar 4) aNil)) aNil))) ⟨fun env l => ∃ m', m' < TTs (t :: st) ∧ ∃ st f e4, env = [e0, e1, some (.ref fb), some (.ref wb), e4] ∧ DL.Sub l0 l ∧ l fb = some (.lst (f.map strD)) ∧ l wb = some (.lst (st.reverse.map TT.toD)) ∧ LwI N st f ∧ m' = TTs st ∧ m' ≤ 3000, Q, fun env l => True, fun env l => True⟩ [e0, e1, some (.ref fb), some (.ref wb), some t.toD] l4 := by
      intro f' l4 I' s4 f4 w4
      walk_at "w"
      refine ⟨_, w4, ?_⟩
      walk_at "w"
      refine c_parts t ?_
      walk_at "w"
      refine ⟨_, w4, ?_⟩
      refine ⟨by refine small ?_; rw [List.length_map, List.length_map, List.length_reverse]; omega, ?_⟩
      have ea : st.reverse.map TT.toD ++ t.pt.map TT.toD = (t.pt.reverse ++ st).reverse.map TT.toD := by rw [List.reverse_append, List.reverse_reverse, List.map_append]
      rw [ea]
      have ez : TTs (t.pt.reverse ++ st) = TTs t.pt + TTs st := by rw [TTs_app, TTs_rev]
      refine ⟨TTs (t.pt.reverse ++ st), by omega, _, _, _, rfl, fun z o h => ?_, (uL_ne ne).trans f4, uL_same, I', rfl, by omega⟩
      rw [uL_ne (fun e => by rw [e, nw0] at h; cases h)]
      exact s4 z o h
    rcases t.head with ⟨w, hw, et⟩ | ⟨hn, s, r, et, es, so⟩
    · have wN : w ∈ N := (I.mem w).mpr (.inr ⟨t, List.mem_cons_self, nms_hd.mpr (.inl hw)⟩)
      rw [et] at go ⊢
      walk_at "w"
      refine ⟨_, rfl, ?_⟩
      refine wq true (by decide +kernel) (by decide +kernel) (by decide +kernel) (P := fun b => ifB b _ _) (ifB_true ?_)
      walk_at "w"
      refine ⟨_, rfl, ?_⟩
      refine ⟨_, f3, ?_⟩
      refine ⟨(okS (sN w wN)).ok, okNs fS, ?_⟩
      rw [any_nm]
      by_cases hf : w ∈ f
      · rw [decide_eq_true hf]
        refine ifB_false ?_
        exact go f l3 (I.skip (.inr ⟨w, hw, hf⟩)) s3 f3 w3
      · rw [decide_eq_false hf]
        refine ifB_true ?_
        walk_at "w"
        refine ⟨_, f3, ?_⟩
        walk_at "w"
        refine ⟨_, rfl, ?_⟩
        refine ⟨_, f3, ?_⟩
        refine ⟨Nat.lt_of_le_of_lt (show (f.map strD).length ≤ 100 by rw [List.length_map]; omega) (by decide), ?_⟩
        have s4 : DL.Sub l0 (uL l3 fb (.lst (f.map strD ++ [.str (Sx w)]))) := fun z o h => by rw [uL_ne (fun e => by rw [e, nf0] at h; cases h)]; exact s3 z o h
        have f4 : uL l3 fb (.lst (f.map strD ++ [.str (Sx w)])) fb = some (.lst ((f ++ [w]).map strD)) := by rw [List.map_append]; exact uL_same
        have w4 := (uL_ne (l := l3) (o := .lst (f.map strD ++ [.str (Sx w)])) (Ne.symm ne)).trans w3
        exact go (f ++ [w]) _ (I.more hw hf) s4 f4 w4
    · rw [et] at go ⊢
      walk_at "w"
      refine ⟨_, atI_nat (j := 0) rfl, ?_⟩
      refine wq false es so (by decide +kernel) (P := fun b => ifB b _ _) (ifB_false ?_)
      refine ifB_false ?_
      exact go f l3 (I.skip (.inl hn)) s3 f3 w3
theorem c_lown_f {es : List BE} {l : LH} (E : ∀ e ∈ es, EOk e ∧ e.2.dp ≤ 14) (w : List Nat) {Q : DK} (q : ∀ l', DL.Sub l l' → Q (.lst ((own es w).map strD)) l') : callD D__law_own [.dK (bKs es) (bVs FE.toD es), .str (Sx w)] l Q := by
  refine ⟨rfl, ?_⟩
  walk_at "w"
  refine ⟨Nat.le_of_ble_eq_true rfl, ?_⟩
  intro fb nfb
  have s1 : DL.Sub l (uL l fb (.lst [])) := fun z o h => by rw [uL_ne (fun e => by rw [e, nfb] at h; cases h)]; exact h
  have f1 : uL l fb (.lst []) fb = some (.lst []) := uL_same
  generalize uL l fb (.lst []) = l1 at s1 f1
  have nw : ∀ {wb : Addr}, l1 wb = none → fb ≠ wb ∧ l wb = none := fun {wb} h => ⟨fun e => (by rw [← e, f1] at h; cases h), (by
    cases k : l wb with
    | none => rfl
    | some o => have := s1 wb o k; rw [h] at this; cases this)⟩
  walk_at "w"
  refine ⟨_, rfl, ?_⟩
  dsimp only
  rw [getA_b]
  cases e : bGet w es with
  | none =>
    have eo : own es w = [] := by unfold own; rw [e]
    refine ifB_false ?_
    walk_at "w"
    refine ⟨Nat.le_of_ble_eq_true rfl, ?_⟩
    intro wb nwb
    obtain ⟨ne, nw0⟩ := nw nwb
    walk_at "w"
    refine lown_loop nfb nw0 ne (N := []) (by decide) (fun v h => by cases h) (fun l' f hm nd s => ?_) (st := []) (by decide) ⟨List.nodup_nil, fun t h => (by cases h), fun v => ⟨fun h => (by cases h), fun h => h.elim (fun z => by cases z) fun ⟨t, h, _⟩ => by cases h⟩⟩ (fun z o h => ?_) ((uL_ne ne).trans f1) uL_same
    · have : sortN f = own es w := by rw [eo, show ([] : List (List Nat)) = sortN [] from (List.length_eq_zero_iff.mp (Nat.le_zero.mp (sortN_len []))).symm]; exact sortN_ext fun v => (hm v).symm
      rw [this]
      exact q l' s
    · rw [uL_ne (fun e => by rw [e, nw0] at h; cases h)]
      exact s1 z o h
  | some x =>
    have O := E _ (bGet_mem e)
    have o1 : x.ok := O.1.ok
    have o2 : x.tx.length ≤ 1000 := O.1.ln
    have o3 : x.dp ≤ 14 := O.2
    have o4 : (nmsL x.lv).length < 64 := O.1.few
    have eo : own es w = sortN (nmsL x.lv) := by unfold own; rw [e]
    have sz := x.sz_le o1
    refine ifB_true ?_
    walk_at "w"
    refine ⟨_, rfl, ?_⟩
    dsimp only
    rw [getA_b, e]
    refine ⟨Nat.le_of_ble_eq_true rfl, ?_⟩
    intro wb nwb
    obtain ⟨ne, nw0⟩ := nw nwb
    walk_at "w"
    refine lown_loop nfb nw0 ne (N := nmsL x.lv) o4 (fun v h => ?_) (fun l' f hm nd s => ?_) (st := [.ofE x]) (by show x.sz + 0 ≤ 3000; omega) ⟨List.nodup_nil, fun t h => (by rw [List.mem_singleton.mp h]; exact ⟨o1, o2, o3⟩), fun v => ⟨fun h => .inr ⟨_, List.mem_singleton.mpr rfl, h⟩, fun h => h.elim (fun z => by cases z) fun ⟨t, h, k⟩ => by rw [List.mem_singleton.mp h] at k; exact k⟩⟩ (fun z o h => ?_) ((uL_ne ne).trans f1) uL_same
    · have := x.lvok o1 _ (nmsL_mem.mp h)
      exact nm_sg this
    · have : sortN f = own es w := by rw [eo]; exact sortN_ext fun v => (hm v).symm
      rw [this]
      exact q l' s
    · rw [uL_ne (fun e => by rw [e, nw0] at h; cases h)]
      exact s1 z o h
theorem c_lown_r {es : List BE} {l : LH} {a : Addr} (H : l a = some (.dK (bKs es) (bVs FE.toD es))) (E : ∀ e ∈ es, EOk e ∧ e.2.dp ≤ 14) (w : List Nat) {Q : DK} (q : ∀ l', DL.Sub l l' → Q (.lst ((own es w).map strD)) l') : callD D__law_own [.ref a, .str (Sx w)] l Q := by
  refine ⟨rfl, ?_⟩
  walk_at "w"
  refine ⟨Nat.le_of_ble_eq_true rfl, ?_⟩
  intro fb nfb
  have s1 : DL.Sub l (uL l fb (.lst [])) := fun z o h => by rw [uL_ne (fun e => by rw [e, nfb] at h; cases h)]; exact h
  have f1 : uL l fb (.lst []) fb = some (.lst []) := uL_same
  generalize uL l fb (.lst []) = l1 at s1 f1
  have nw : ∀ {wb : Addr}, l1 wb = none → fb ≠ wb ∧ l wb = none := fun {wb} h => ⟨fun e => (by rw [← e, f1] at h; cases h), (by
    cases k : l wb with
    | none => rfl
    | some o => have := s1 wb o k; rw [h] at this; cases this)⟩
  walk_at "w"
  refine ⟨_, s1 _ _ H, _, rfl, ?_⟩
  dsimp only
  rw [getA_b]
  cases e : bGet w es with
  | none =>
    have eo : own es w = [] := by unfold own; rw [e]
    refine ifB_false ?_
    walk_at "w"
    refine ⟨Nat.le_of_ble_eq_true rfl, ?_⟩
    intro wb nwb
    obtain ⟨ne, nw0⟩ := nw nwb
    walk_at "w"
    refine lown_loop nfb nw0 ne (N := []) (by decide) (fun v h => by cases h) (fun l' f hm nd s => ?_) (st := []) (by decide) ⟨List.nodup_nil, fun t h => (by cases h), fun v => ⟨fun h => (by cases h), fun h => h.elim (fun z => by cases z) fun ⟨t, h, _⟩ => by cases h⟩⟩ (fun z o h => ?_) ((uL_ne ne).trans f1) uL_same
    · have : sortN f = own es w := by rw [eo, show ([] : List (List Nat)) = sortN [] from (List.length_eq_zero_iff.mp (Nat.le_zero.mp (sortN_len []))).symm]; exact sortN_ext fun v => (hm v).symm
      rw [this]
      exact q l' s
    · rw [uL_ne (fun e => by rw [e, nw0] at h; cases h)]
      exact s1 z o h
  | some x =>
    have O := E _ (bGet_mem e)
    have o1 : x.ok := O.1.ok
    have o2 : x.tx.length ≤ 1000 := O.1.ln
    have o3 : x.dp ≤ 14 := O.2
    have o4 : (nmsL x.lv).length < 64 := O.1.few
    have eo : own es w = sortN (nmsL x.lv) := by unfold own; rw [e]
    have sz := x.sz_le o1
    refine ifB_true ?_
    walk_at "w"
    refine ⟨_, s1 _ _ H, _, rfl, ?_⟩
    dsimp only
    rw [getA_b, e]
    refine ⟨Nat.le_of_ble_eq_true rfl, ?_⟩
    intro wb nwb
    obtain ⟨ne, nw0⟩ := nw nwb
    walk_at "w"
    refine lown_loop nfb nw0 ne (N := nmsL x.lv) o4 (fun v h => ?_) (fun l' f hm nd s => ?_) (st := [.ofE x]) (by show x.sz + 0 ≤ 3000; omega) ⟨List.nodup_nil, fun t h => (by rw [List.mem_singleton.mp h]; exact ⟨o1, o2, o3⟩), fun v => ⟨fun h => .inr ⟨_, List.mem_singleton.mpr rfl, h⟩, fun h => h.elim (fun z => by cases z) fun ⟨t, h, k⟩ => by rw [List.mem_singleton.mp h] at k; exact k⟩⟩ (fun z o h => ?_) ((uL_ne ne).trans f1) uL_same
    · have := x.lvok o1 _ (nmsL_mem.mp h)
      exact nm_sg this
    · have : sortN f = own es w := by rw [eo]; exact sortN_ext fun v => (hm v).symm
      rw [this]
      exact q l' s
    · rw [uL_ne (fun e => by rw [e, nw0] at h; cases h)]
      exact s1 z o h
theorem c_lown {od : D} {es : List BE} {l : LH} (H : DcAt l od es) (E : ∀ e ∈ es, EOk e ∧ e.2.dp ≤ 14) (w : List Nat) {Q : DK} (q : ∀ l', DL.Sub l l' → Q (.lst ((own es w).map strD)) l') : callD D__law_own [od, .str (Sx w)] l Q := by
  rcases H with rfl | ⟨a, rfl, h⟩
  · exact c_lown_f E w q
  · exact c_lown_r h E w q

end Law

namespace Law
open PySem PySem.Spec PyProof.Rows L2 DL
local macro_rules | `(tactic| walk_at "w") => `(tactic| conv => whnf)
local macro_rules | `(tactic| walk_at "s") => `(tactic| (refine ⟨?_⟩; conv => whnf))
local macro_rules | `(tactic| walk_at "z") => `(tactic| (refine small ?_; simp only [List.length_map, List.length_append, List.length_reverse, List.length_cons, List.length_nil]; omega))
local macro_rules | `(tactic| walk_at "q") => `(tactic| (refine ⟨(okN_tints _).ok, (okN_tints _).ok, ?_⟩; rw [eqD_tints]))
/-! the law's shortest ring is the book's -/
def ex1 (nm : List Nat) (p : RP) : List (List Nat) → List (List Nat) → List RP → RR
  | [], met, lg => .on lg met
  | o :: os, met, lg => if o = nm then .hit (p.1 ++ [p.2], o) else if o ∈ met then ex1 nm p os met lg else ex1 nm p os (met ++ [o]) (lg ++ [(p.1 ++ [p.2], o)])
def exR (own : List Nat → List (List Nat)) (nm : List Nat) : List RP → List (List Nat) → List RP → RR
  | [], met, lg => .on lg met
  | p :: ps, met, lg => match ex1 nm p (own p.2) met lg with
    | .hit q => .hit q
    | .on lg' met' => exR own nm ps met' lg'
def exF (nm : List Nat) : List RP → List (List Nat) → List RP → RR
  | [], met, lg => .on lg met
  | q :: qs, met, lg => if q.2 = nm then .hit q else if q.2 ∈ met then exF nm qs met lg else exF nm qs (met ++ [q.2]) (lg ++ [q])
def lbfs (own : List Nat → List (List Nat)) (nm : List Nat) : Nat → List RP → List (List Nat) → Option RP
  | 0, _, _ => none
  | _ + 1, [], _ => none
  | m + 1, p :: ps, met => match exR own nm (p :: ps) met [] with
    | .hit q => some q
    | .on lg met' => lbfs own nm m lg met'
theorem ex1_F (nm : List Nat) (p : RP) (qs : List RP) : ∀ (os met : List (List Nat)) (lg : List RP), exF nm (os.map (fun o => (p.1 ++ [p.2], o)) ++ qs) met lg = match ex1 nm p os met lg with | .hit q => .hit q | .on lg' met' => exF nm qs met' lg'
  | [], met, lg => rfl
  | o :: os, met, lg => by
    show (if o = nm then _ else if o ∈ met then _ else _) = _
    unfold ex1
    by_cases h : o = nm
    · rw [if_pos h, if_pos h]
    · rw [if_neg h, if_neg h]
      by_cases k : o ∈ met
      · rw [if_pos k, if_pos k]
        exact ex1_F nm p qs os met lg
      · rw [if_neg k, if_neg k]
        exact ex1_F nm p qs os _ _
theorem exR_F (own : List Nat → List (List Nat)) (nm : List Nat) : ∀ (ps : List RP) (met : List (List Nat)) (lg : List RP), exR own nm ps met lg = exF nm (ps.flatMap (lgr own)) met lg
  | [], met, lg => rfl
  | p :: ps, met, lg => by
    rw [List.flatMap_cons]
    unfold lgr
    rw [ex1_F]
    unfold exR
    cases ex1 nm p (own p.2) met lg with
    | hit q => rfl
    | on lg' met' => exact exR_F own nm ps met' lg'
theorem rnd_F (own : List Nat → List (List Nat)) (nm : List Nat) : ∀ (ps : List RP) (met : List (List Nat)) (lg : List RP), rnd own nm ps met (lg.flatMap (lgr own)) = match exF nm ps met lg with | .hit q => .hit q | .on lg' met' => .on (lg'.flatMap (lgr own)) met'
  | [], met, lg => rfl
  | p :: ps, met, lg => by
    unfold rnd exF
    by_cases h : p.2 = nm
    · rw [if_pos h, if_pos h]
    · rw [if_neg h, if_neg h]
      by_cases k : p.2 ∈ met
      · rw [if_pos k, if_pos k]
        exact rnd_F own nm ps met lg
      · rw [if_neg k, if_neg k, show lg.flatMap (lgr own) ++ lgr own p = (lg ++ [p]).flatMap (lgr own) by rw [List.flatMap_append, List.flatMap_cons, List.flatMap_nil, List.append_nil]]
        exact rnd_F own nm ps _ _
theorem lbfs_nil (own : List Nat → List (List Nat)) (nm : List Nat) (m : Nat) (met : List (List Nat)) : lbfs own nm m [] met = none := by cases m <;> rfl
theorem lbfs_eq (own : List Nat → List (List Nat)) (nm : List Nat) : ∀ (m : Nat) (R : List RP) (met : List (List Nat)), lbfs own nm m R met = bfs own nm m (R.flatMap (lgr own)) met
  | 0, R, met => rfl
  | m + 1, [], met => rfl
  | m + 1, p :: ps, met => by
    unfold lbfs
    rw [exR_F]
    cases hF : (p :: ps).flatMap (lgr own) with
    | nil =>
      show lbfs own nm m [] met = none
      exact lbfs_nil own nm m met
    | cons f fs =>
      have this : rnd own nm (f :: fs) met [] = match exF nm (f :: fs) met [] with | .hit q => .hit q | .on lg' met' => .on (lg'.flatMap (lgr own)) met' := rnd_F own nm (f :: fs) met []
      unfold bfs
      rw [this]
      cases exF nm (f :: fs) met [] with
      | hit q => rfl
      | on lg met' => exact lbfs_eq own nm m lg met'
theorem rnd_own {own own' : List Nat → List (List Nat)} {nm : List Nat} (h : ∀ v, v ≠ nm → own v = own' v) : ∀ (ps : List RP) (met : List (List Nat)) (lg : List RP), rnd own nm ps met lg = rnd own' nm ps met lg
  | [], _, _ => rfl
  | p :: ps, met, lg => by
    unfold rnd
    by_cases k : p.2 = nm
    · rw [if_pos k, if_pos k]
    · rw [if_neg k, if_neg k]
      have e : lgr own p = lgr own' p := by unfold lgr; rw [h _ k]
      rw [e, rnd_own h ps met lg, rnd_own h ps _ _]
theorem bfs_own {own own' : List Nat → List (List Nat)} {nm : List Nat} (h : ∀ v, v ≠ nm → own v = own' v) : ∀ (m : Nat) (ps : List RP) (met : List (List Nat)), bfs own nm m ps met = bfs own' nm m ps met
  | 0, _, _ => rfl
  | _ + 1, [], _ => rfl
  | m + 1, p :: ps, met => by
    unfold bfs
    rw [rnd_own h]
    cases rnd own' nm (p :: ps) met [] with
    | hit q => rfl
    | on lg met' => exact bfs_own h m lg met'
theorem bGet_put (w : List Nat) (x : FE) (es : List BE) : bGet w (bPut w x es) = some x := by
  unfold bPut
  split
  · rename_i h
    induction es with
    | nil => cases h
    | cons e es ih =>
      rw [List.map_cons]
      by_cases k : e.1 = w
      · rw [if_pos k]
        unfold bGet
        rw [if_pos rfl]
      · rw [if_neg k]
        unfold bGet
        rw [if_neg k]
        exact ih ((List.mem_cons.mp (show w ∈ e.1 :: bNm es from h)).resolve_left (Ne.symm k))
  · rename_i h
    induction es with
    | nil => show (if w = w then some x else none) = some x; rw [if_pos rfl]
    | cons e es ih =>
      have h' := fun z => h (show w ∈ e.1 :: bNm es from z)
      show (if e.1 = w then some e.2 else bGet w (es ++ [(w, x)])) = some x
      rw [if_neg fun k => h' (by rw [k]; exact List.mem_cons_self)]
      exact ih fun z => h' (List.mem_cons_of_mem _ z)
theorem bGet_put_ne {w v : List Nat} (ne : v ≠ w) (x : FE) (es : List BE) : bGet v (bPut w x es) = bGet v es := by
  unfold bPut
  split
  · rename_i h
    clear h
    induction es with
    | nil => rfl
    | cons e es ih =>
      rw [List.map_cons]
      by_cases k : e.1 = w
      · rw [if_pos k]
        unfold bGet
        rw [if_neg (Ne.symm ne), if_neg (fun z => ne (z.symm.trans k))]
        exact ih
      · rw [if_neg k]
        unfold bGet
        rw [ih]
  · rename_i h
    clear h
    induction es with
    | nil => show (if w = v then some x else none) = none; rw [if_neg (Ne.symm ne)]
    | cons e es ih =>
      show (if e.1 = v then some e.2 else bGet v (es ++ [(w, x)])) = (if e.1 = v then some e.2 else bGet v es)
      rw [ih]
theorem own_put (w : List Nat) (x : FE) (es : List BE) : own (bPut w x es) w = sortN (nmsL x.lv) := by
  unfold own
  rw [bGet_put]
theorem own_put_ne {w v : List Nat} (ne : v ≠ w) (x : FE) (es : List BE) : own (bPut w x es) v = own es v := by
  unfold own
  rw [bGet_put_ne ne]
theorem ring_eq (es : List BE) (nm : List Nat) (x : FE) (U : List (List Nat)) : lbfs (own (bPut nm x es)) nm (2 * U.length + 1) [([], nm)] [] = ringR es nm x U := by
  rw [lbfs_eq, bfs_own (own' := own es) fun v h => own_put_ne h x es]
  unfold ringR
  rw [List.flatMap_cons, List.flatMap_nil, List.append_nil]
  unfold lgr
  rw [own_put]
  rfl

end Law

namespace Law
open PySem PySem.Spec PyProof.Rows L2 DL
local macro_rules | `(tactic| walk_at "w") => `(tactic| conv => whnf)
local macro_rules | `(tactic| walk_at "s") => `(tactic| (refine ⟨?_⟩; conv => whnf))
local macro_rules | `(tactic| walk_at "z") => `(tactic| (refine small ?_; simp only [List.length_map, List.length_append, List.length_reverse, List.length_cons, List.length_nil]; omega))
local macro_rules | `(tactic| walk_at "q") => `(tactic| (refine ⟨(okN_tints _).ok, (okN_tints _).ok, ?_⟩; rw [eqD_tints]))
structure Rg (l0 l : LH) (gv kn lr : Addr) (G : DO) (U : List (List Nat)) (P : List (List Nat) → Prop) (nm : List Nat) (n0 : Nat) (met : List (List Nat)) (lg : List RP) : Prop where
  nd : met.Nodup
  mu : ∀ v ∈ met, v ∈ U
  ln : met.length = n0 + lg.length
  lq : ∀ q ∈ lg, q.2 ∈ U ∧ q.2 ≠ nm ∧ q.1.length ≤ n0 + 1 ∧ P q.1
  s : DL.Sub l0 l
  g : l gv = some G
  k : l kn = some (.dK (mtK met) (mtV met))
  r : l lr = some (.lst (lg.map rpD))
theorem rp_add (p : RP) (o : List Nat) : D.lst ((p.1 ++ [p.2]).map strD ++ [.str (Sx o)]) = rpD (p.1 ++ [p.2], o) := by
  unfold rpD
  show _ = D.lst ((p.1 ++ [p.2] ++ [o]).map strD)
  rw [List.map_append (l₁ := p.1 ++ [p.2])]
  rfl
theorem ring_in {l0 : LH} {gv kn lr : Addr} (nk : l0 kn = none) (nl : l0 lr = none) (gk : gv ≠ kn) (gl : gv ≠ lr) (kl : kn ≠ lr) {G : DO} {nm : List Nat} (sgn : Sg nm) {U : List (List Nat)} (sU : ∀ v ∈ U, Sg v) (Ul : U.length ≤ 100) {P : List (List Nat) → Prop} {p : RP} {n0 : Nat} (pl : p.1.length ≤ n0) {e0 e2 e3 e4 : Option D} {E : DEnds} :
    ∀ (os : List (List Nat)), (∀ o ∈ os, o ∈ U) → (os ≠ [] → P (p.1 ++ [p.2])) → ∀ {met : List (List Nat)} {lg : List RP} {l : LH} {e8 : Option D}, Rg l0 l gv kn lr G U P nm n0 met lg →
    (∀ q l', ex1 nm p os met lg = .hit q → P q.1 → q.2 = nm → q.1.length ≤ n0 + 1 → DL.Sub l0 l' → E.rt (rpD q) l') →
    (∀ lg' met' l' e8, ex1 nm p os met lg = .on lg' met' → Rg l0 l' gv kn lr G U P nm n0 met' lg' → E.nx [e0, some (.str (Sx nm)), e2, e3, e4, some (.ref kn), some (.ref lr), some (rpD p), e8] l') →
    forL (gName 8) (nS B__law_ring_1) (os.map strD) E [e0, some (.str (Sx nm)), e2, e3, e4, some (.ref kn), some (.ref lr), some (rpD p), e8] l
  | [], _, _, met, lg, l, e8, I, h1, h2 => h2 lg met l e8 rfl I
  | o :: os, hos, hp, met, lg, l, e8, I, h1, h2 => by
    have pp : P (p.1 ++ [p.2]) := hp (fun e => by cases e)
    have ml := nodup_len I.nd I.mu
    have ln := I.ln
    have so := sU o (hos o List.mem_cons_self)
    have hos' := fun v hv => hos v (List.mem_cons_of_mem _ hv)
    rw [List.map_cons]
    refine ⟨?_⟩
    walk_at "w"
    refine ⟨(okS so).ok, (okS sgn).ok, ?_⟩
    rw [show eqD (strD o) (.str (Sx nm)) = decide (o = nm) from eqD_S o nm]
    by_cases hit : o = nm
    · rw [decide_eq_true hit]
      refine ifB_true ?_
      walk_at "w"
      refine ⟨Nat.le_of_ble_eq_true rfl, ?_⟩
      walk_at "w"
      refine ⟨by refine small ?_; rw [List.length_map, List.length_append, List.length_singleton, List.length_singleton]; omega, ?_⟩
      rw [rp_add, ← hit]
      exact h1 _ l (by unfold ex1; rw [if_pos hit]) pp hit (by show (p.1 ++ [p.2]).length ≤ n0 + 1; rw [List.length_append, List.length_singleton]; omega) I.s
    · rw [decide_eq_false hit]
      refine ifB_false ?_
      walk_at "w"
      refine ⟨_, I.k, _, rfl, ?_⟩
      dsimp only
      rw [getA_mt]
      by_cases hm : o ∈ met
      · rw [decide_eq_true hm]
        refine ifB_false ?_
        have er : ex1 nm p (o :: os) met lg = ex1 nm p os met lg := by
          conv => lhs; unfold ex1
          rw [if_neg hit, if_pos hm]
        rw [er] at h1 h2
        exact ring_in nk nl gk gl kl sgn sU Ul pl os hos' (fun _ => pp) I h1 h2
      · rw [decide_eq_false hm]
        refine ifB_true ?_
        have er : ex1 nm p (o :: os) met lg = ex1 nm p os (met ++ [o]) (lg ++ [(p.1 ++ [p.2], o)]) := by
          conv => lhs; unfold ex1
          rw [if_neg hit, if_neg hm]
        rw [er] at h1 h2
        walk_at "w"
        refine ⟨_, I.k, _, rfl, small (by unfold mtK; rw [List.length_map]; omega), ?_⟩
        rw [(mt_put hm).1, (mt_put hm).2]
        walk_at "w"
        refine ⟨_, (uL_ne (Ne.symm kl)).trans I.r, ?_⟩
        walk_at "w"
        refine ⟨Nat.le_of_ble_eq_true rfl, ?_⟩
        walk_at "w"
        refine ⟨by refine small ?_; rw [List.length_map, List.length_append, List.length_singleton, List.length_singleton]; omega, ?_⟩
        rw [show ((p.1 ++ [p.2]).map strD ++ [strD o]) = (p.1 ++ [p.2]).map strD ++ [.str (Sx o)] from rfl, rp_add]
        refine ⟨_, (uL_ne (Ne.symm kl)).trans I.r, ?_⟩
        refine ⟨Nat.lt_of_le_of_lt (show (lg.map rpD).length ≤ 100 by rw [List.length_map]; omega) (by decide), ?_⟩
        refine ring_in nk nl gk gl kl sgn sU Ul pl os hos' (fun _ => pp) ?_ h1 h2
        exact {
          nd := List.nodup_append.mpr ⟨I.nd, List.pairwise_singleton _ _, fun a ha b hb => by rw [List.mem_singleton.mp hb]; exact fun z => hm (by rw [← z]; exact ha)⟩
          mu := fun w hw => (List.mem_append.mp hw).elim (I.mu w) fun z => by rw [List.mem_singleton.mp z]; exact hos o List.mem_cons_self
          ln := by rw [List.length_append, List.length_append, List.length_singleton, List.length_singleton]; omega
          lq := fun q hq => (List.mem_append.mp hq).elim (I.lq q) fun z => by
            rw [List.mem_singleton.mp z]
            refine ⟨hos o List.mem_cons_self, hit, ?_, pp⟩
            show (p.1 ++ [p.2]).length ≤ n0 + 1
            rw [List.length_append, List.length_singleton]
            omega
          s := fun a u h => by
            rw [uL_ne (fun e => by rw [e, nl] at h; cases h), uL_ne (fun e => by rw [e, nk] at h; cases h)]
            exact I.s a u h
          g := (uL_ne gl).trans ((uL_ne gk).trans I.g)
          k := (uL_ne kl).trans uL_same
          r := by rw [List.map_append]; exact uL_same }
theorem Rg.sub {l0 l l' : LH} {gv kn lr : Addr} {G : DO} {U : List (List Nat)} {P : List (List Nat) → Prop} {nm : List Nat} {n0 : Nat} {met : List (List Nat)} {lg : List RP} (I : Rg l0 l gv kn lr G U P nm n0 met lg) (s : DL.Sub l l') : Rg l0 l' gv kn lr G U P nm n0 met lg :=
  ⟨I.nd, I.mu, I.ln, I.lq, I.s.trans s, s _ _ I.g, s _ _ I.k, s _ _ I.r⟩
theorem ring_rows {l0 : LH} {gv kn lr : Addr} (nk : l0 kn = none) (nl : l0 lr = none) (gk : gv ≠ kn) (gl : gv ≠ lr) (kl : kn ≠ lr) {es : List BE} (ee : ∀ e ∈ es, EOk e ∧ e.2.dp ≤ 14) {nm : List Nat} (sgn : Sg nm) {U : List (List Nat)} (hU : ∀ v, ∀ o ∈ own es v, o ∈ U) (sU : ∀ v ∈ U, Sg v) (Ul : U.length ≤ 100) {P : List (List Nat) → Prop} {n0 : Nat} {e0 e2 e4 : Option D} {E : DEnds} :
    ∀ (ps : List RP), (∀ p ∈ ps, p.1.length ≤ n0 ∧ (own es p.2 ≠ [] → P (p.1 ++ [p.2]))) → ∀ {met : List (List Nat)} {lg : List RP} {l : LH} {e7 e8 : Option D}, Rg l0 l gv kn lr (.dK (bKs es) (bVs FE.toD es)) U P nm n0 met lg →
    (∀ q l', exR (own es) nm ps met lg = .hit q → P q.1 → q.2 = nm → q.1.length ≤ n0 + 1 → DL.Sub l0 l' → E.rt (rpD q) l') →
    (∀ lg' met' l' e7 e8, exR (own es) nm ps met lg = .on lg' met' → Rg l0 l' gv kn lr (.dK (bKs es) (bVs FE.toD es)) U P nm n0 met' lg' → E.nx [e0, some (.str (Sx nm)), e2, some (.ref gv), e4, some (.ref kn), some (.ref lr), e7, e8] l') →
    forL (gName 7) (nS B__law_ring_2) (ps.map rpD) E [e0, some (.str (Sx nm)), e2, some (.ref gv), e4, some (.ref kn), some (.ref lr), e7, e8] l
  | [], _, met, lg, l, e7, e8, I, h1, h2 => h2 lg met l e7 e8 rfl I
  | p :: ps, hp, met, lg, l, e7, e8, I, h1, h2 => by
    obtain ⟨pl, pp⟩ := hp p List.mem_cons_self
    rw [List.map_cons]
    refine ⟨?_⟩
    walk_at "w"
    refine ⟨_, rp_last p, ?_⟩
    refine c_lown (.inr ⟨gv, rfl, I.g⟩) ee p.2 fun l1 s1 => ?_
    walk_at "w"
    refine ring_in nk nl gk gl kl sgn sU Ul pl (own es p.2) (hU p.2) pp (I.sub s1) (fun q l' e q1 q2 q3 s => ?_) fun lg' met' l' e8 e I' => ?_
    · exact h1 q l' (by unfold exR; rw [e]) q1 q2 q3 s
    · have er : exR (own es) nm (p :: ps) met lg = exR (own es) nm ps met' lg' := by
        conv => lhs; unfold exR
        rw [e]
      rw [er] at h1 h2
      exact ring_rows nk nl gk gl kl ee sgn hU sU Ul ps (fun q hq => hp q (List.mem_cons_of_mem _ hq)) I' h1 h2
/-- a name's path: itself, then names of the book -/
def PathOf (es : List BE) (nm : List Nat) (path : List (List Nat)) : Prop := ∃ mids, path = nm :: mids ∧ ∀ v ∈ mids, v ∈ bNm es
def RowOf (es : List BE) (nm : List Nat) (U : List (List Nat)) (p : RP) : Prop := (p.1 = [] ∧ p.2 = nm) ∨ (PathOf es nm p.1 ∧ p.2 ≠ nm ∧ p.2 ∈ U)
theorem own_mem {es : List BE} {v : List Nat} (h : own es v ≠ []) : v ∈ bNm es := by
  have sm := bGet_some (w := v) (es := es)
  unfold own at h
  split at h
  · rename_i y e
    rw [e] at sm
    exact of_decide_eq_true sm.symm
  · exact absurd rfl h
theorem RowOf.path {es : List BE} {nm : List Nat} {U : List (List Nat)} {p : RP} (h : RowOf es nm U p) (x : FE) (ho : own (bPut nm x es) p.2 ≠ []) : PathOf es nm (p.1 ++ [p.2]) := by
  rcases h with ⟨h1, h2⟩ | ⟨⟨mids, h1, h2⟩, ne, _⟩
  · exact ⟨[], by rw [h1, h2]; rfl, fun v hv => (by cases hv)⟩
  · rw [own_put_ne ne] at ho
    refine ⟨mids ++ [p.2], by rw [h1]; rfl, fun v hv => (List.mem_append.mp hv).elim (h2 v) fun z => by rw [List.mem_singleton.mp z]; exact own_mem ho⟩
theorem RowOf.ok {es : List BE} (E : EsOk es) {nm : List Nat} (sgn : Sg nm) {U : List (List Nat)} (sU : ∀ v ∈ U, Sg v) {p : RP} (h : RowOf es nm U p) : ∀ v ∈ p.1 ++ [p.2], Sg v := by
  have sb : ∀ v ∈ bNm es, Sg v := fun v hv => by
    obtain ⟨e, he, rfl⟩ := List.mem_map.mp hv
    exact nm_sg (E.all e he).nm
  intro v hv
  rcases h with ⟨h1, h2⟩ | ⟨⟨mids, h1, h2⟩, ne, hu⟩
  · rw [h1, h2] at hv
    rw [List.mem_singleton.mp hv]
    exact sgn
  · rw [h1] at hv
    rcases List.mem_append.mp hv with z | z
    · exact (List.mem_cons.mp z).elim (fun e => by rw [e]; exact sgn) fun k => sb v (h2 v k)
    · rw [List.mem_singleton.mp z]; exact sU _ hu
theorem okRows {R : List RP} (h : ∀ p ∈ R, ∀ v ∈ p.1 ++ [p.2], Sg v) : okD (.lst (R.map rpD)) := (show okN 2 (.lst (R.map rpD)) from okN_lst fun d hd => by
  obtain ⟨p, hp, rfl⟩ := List.mem_map.mp hd
  exact show okN 1 (rpD p) from okN_lst fun d hd => by
    obtain ⟨v, hv, rfl⟩ := List.mem_map.mp hd
    exact okS (h p hp v hv)).ok
theorem c_lring {ow : Addr} {es : List BE} {l : LH} (O : l ow = some (.dK (bKs es) (bVs FE.toD es))) (E : EsOk es) (ee : ∀ e ∈ es, e.2.dp ≤ 14) {nm : List Nat} {x : FE} (xe : EOk (nm, x)) (xd : x.dp ≤ 14) {U : List (List Nat)} (hU : ∀ v, ∀ o ∈ own (bPut nm x es) v, o ∈ U) (sU : ∀ v ∈ U, Sg v) (Ul : U.length ≤ 100) {Q : DK}
    (q : ∀ l', DL.Sub l l' → (∀ p, ringR es nm x U = some p → PathOf es nm p.1 ∧ p.2 = nm ∧ p.1.length ≤ 102) → Q (match ringR es nm x U with | none => .non | some p => rpD p) l') : callD D__law_ring [.ref ow, .str (Sx nm), x.toD] l Q := by
  have sgn : Sg nm := nm_sg xe.nm
  have el := E.len
  have ee' : ∀ e ∈ bPut nm x es, EOk e ∧ e.2.dp ≤ 14 := fun e he => (bPut_mem he).elim (fun z => by rw [z]; exact ⟨xe, xd⟩) fun z => ⟨E.all e z, ee e z⟩
  have hR := ring_eq es nm x U
  generalize ringR es nm x U = R at hR q
  refine ⟨rfl, ?_⟩
  walk_at "w"
  refine ⟨_, O, ?_⟩
  intro gv ngv
  walk_at "w"
  refine ⟨?_⟩
  walk_at "w"
  refine ⟨_, uL_same, _, rfl, small (by unfold bKs; rw [List.length_map]; omega), ?_⟩
  rw [putK_b, putD_b]
  have g1 : uL (uL l gv (.dK (bKs es) (bVs FE.toD es))) gv (.dK (bKs (bPut nm x es)) (bVs FE.toD (bPut nm x es))) gv = some (.dK (bKs (bPut nm x es)) (bVs FE.toD (bPut nm x es))) := uL_same
  have s1 : DL.Sub l (uL (uL l gv (.dK (bKs es) (bVs FE.toD es))) gv (.dK (bKs (bPut nm x es)) (bVs FE.toD (bPut nm x es)))) := fun a o h => by
    have ne : a ≠ gv := fun e => by rw [e, ngv] at h; cases h
    rw [uL_ne ne, uL_ne ne]
    exact h
  generalize uL (uL l gv (.dK (bKs es) (bVs FE.toD es))) gv (.dK (bKs (bPut nm x es)) (bVs FE.toD (bPut nm x es))) = l1 at g1 s1
  generalize hes : bPut nm x es = es' at hU hR g1 ee' ⊢
  walk_at "w"
  refine ⟨?_⟩
  walk_at "w"
  refine ⟨Nat.le_of_ble_eq_true rfl, Nat.le_of_ble_eq_true rfl, ?_⟩
  walk_at "w"
  intro kn nkn
  have gk : gv ≠ kn := fun e => by rw [← e, g1] at nkn; cases nkn
  have nk0 : l kn = none := by
    cases h : l kn with
    | none => rfl
    | some o => have := s1 _ _ h; rw [nkn] at this; cases this
  have s2 : DL.Sub l (uL l1 kn (.dK [] [])) := fun a o h => by
    rw [uL_ne (fun e => by rw [e, nk0] at h; cases h)]
    exact s1 a o h
  have g2 := (uL_ne (l := l1) (o := .dK [] []) gk).trans g1
  have k2 : uL l1 kn (.dK [] []) kn = some (.dK (mtK []) (mtV [])) := uL_same
  generalize uL l1 kn (.dK [] []) = l2 at s2 g2 k2
  walk_at "w"
  refine ⟨?_⟩
  walk_at "w"
  refine ⟨fun m env l' => ∃ (ps : List RP) (met : List (List Nat)) (k : Nat) (e6 e7 e8 : Option D), env = [some (.ref ow), some (.str (Sx nm)), some x.toD, some (.ref gv), some (.lst (ps.map rpD)), some (.ref kn), e6, e7, e8] ∧ DL.Sub l l' ∧ l' gv = some (.dK (bKs es') (bVs FE.toD es')) ∧ l' kn = some (.dK (mtK met) (mtV met)) ∧ met.Nodup ∧ (∀ v ∈ met, v ∈ U) ∧ (∀ p ∈ ps, p.1.length ≤ met.length ∧ RowOf es nm U p) ∧ ps.length ≤ 100 ∧ lbfs (own es') nm k ps met = R ∧ m = (if ps.length = 0 then 0 else U.length - met.length + 1) ∧ m ≤ k,
    ⟨U.length + 1, [([], nm)], [], 2 * U.length + 1, none, none, none, rfl, s2, g2, k2, List.nodup_nil, fun v hv => (by cases hv), fun p hp => ?_, Nat.le_of_ble_eq_true rfl, hR, rfl, by omega⟩, ?_⟩
  · rw [List.mem_singleton.mp hp]
    exact ⟨Nat.le_refl _, .inl ⟨rfl, rfl⟩⟩
  rintro m env l3 ⟨ps, met, k, e6, e7, e8, rfl, s3, g3, k3, nd, mU, pr, pl, bR, bm, mk⟩
  have ml := nodup_len nd mU
  have okR : okD (.lst (ps.map rpD)) := okRows fun p hp => (pr p hp).2.ok E sgn sU
  cases ps with
  | nil =>
    walk_at "w"
    refine ⟨Nat.le_of_ble_eq_true rfl, ?_⟩
    refine ⟨okR, okR, ?_⟩
    refine ifB_by (fun h => absurd h (by decide +kernel)) (fun _ => ?_)
    refine ⟨?_⟩
    walk_at "w"
    rw [← bR, lbfs_nil] at q
    exact q l3 s3 fun p e => (by cases e)
  | cons p ps =>
    rw [if_neg (by simp)] at bm
    obtain ⟨k, rfl⟩ : ∃ k', k = k' + 1 := ⟨k - 1, by omega⟩
    walk_at "w"
    refine ⟨Nat.le_of_ble_eq_true rfl, ?_⟩
    refine ⟨okR, okRows (R := []) (fun p hp => (by cases hp)), ?_⟩
    rw [lst_nil]
    refine ifB_true ⟨?_⟩
    walk_at "w"
    refine ⟨Nat.le_of_ble_eq_true rfl, ?_⟩
    intro lr nlr
    have gl : gv ≠ lr := fun e => by rw [← e, g3] at nlr; cases nlr
    have kl : kn ≠ lr := fun e => by rw [← e, k3] at nlr; cases nlr
    have nl0 : l lr = none := by
      cases h : l lr with
      | none => rfl
      | some o => have := s3 _ _ h; rw [nlr] at this; cases this
    have I : Rg l (uL l3 lr (.lst [])) gv kn lr (.dK (bKs es') (bVs FE.toD es')) U (PathOf es nm) nm met.length met [] := {
      nd := nd
      mu := mU
      ln := rfl
      lq := fun q hq => (by cases hq)
      s := fun a u h => by rw [uL_ne (fun e => by rw [e, nl0] at h; cases h)]; exact s3 a u h
      g := (uL_ne gl).trans g3
      k := (uL_ne kl).trans k3
      r := uL_same }
    generalize uL l3 lr (.lst []) = l4 at I
    unfold lbfs at bR
    walk_at "w"
    refine ring_rows (e7 := e7) (e8 := e8) nk0 nl0 gk gl kl ee' sgn hU sU Ul (p :: ps) (fun r hr => ⟨(pr r hr).1, fun h => (pr r hr).2.path x (by rw [hes]; exact h)⟩) I (fun r l5 e q1 q2 q3 s5 => ?_) fun lg' met' l5 e7 e8 e I5 => ?_
    · rw [e] at bR
      rw [← bR] at q
      exact q l5 s5 fun p' ep => by
        cases ep
        exact ⟨q1, q2, by omega⟩
    · rw [e] at bR
      walk_at "w"
      refine ⟨_, I5.r, ?_⟩
      have dn : ∀ a, a ≠ lr → dL l5 lr a = l5 a := fun a h => by unfold dL; rw [if_neg h]
      have ml' := nodup_len I5.nd I5.mu
      have ln := I5.ln
      refine ⟨if lg'.length = 0 then 0 else U.length - met'.length + 1, ?_, lg', met', k, _, _, _, rfl, fun a u h => (dn a (fun e => by rw [e, nl0] at h; cases h)).trans (I5.s a u h), (dn gv gl).trans I5.g, (dn kn kl).trans I5.k, I5.nd, I5.mu, fun r hr => ⟨?_, .inr ⟨(I5.lq r hr).2.2.2, (I5.lq r hr).2.1, (I5.lq r hr).1⟩⟩, by omega, bR, rfl, ?_⟩
      · rw [bm]; split <;> omega
      · have := (I5.lq r hr).2.2.1
        have := List.length_pos_of_mem hr
        omega
      · split <;> omega

end Law

namespace Law
open PySem PySem.Spec PyProof.Rows L2 DL
local macro_rules | `(tactic| walk_at "w") => `(tactic| conv => whnf)
local macro_rules | `(tactic| walk_at "s") => `(tactic| (refine ⟨?_⟩; conv => whnf))
local macro_rules | `(tactic| walk_at "z") => `(tactic| (refine small ?_; simp only [List.length_map, List.length_append, List.length_reverse, List.length_cons, List.length_nil]; omega))
local macro_rules | `(tactic| walk_at "q") => `(tactic| (refine ⟨(okN_tints _).ok, (okN_tints _).ok, ?_⟩; rw [eqD_tints]))
/-! the law's letting -/
theorem near {A : Nat} {ns : List (List Nat)} {lv : List FA} (h : ∀ y ∈ lv, LvP A ns y) : lv.find? (farL A) = none := by
  rw [List.find?_eq_none]
  intro y hy
  have := h y hy
  cases y with
  | lt c =>
    have c2 : c - 96 ≤ A := this.2
    show ¬ decide (A < c - 96) = true
    rw [decide_eq_false (by omega)]
    decide
  | _ => exact Bool.false_ne_true
theorem c_llet {k g fd : Addr} {es : List BE} {l : LH} {w : List Nat} (B : BkAt l k g fd es) (E : EsOk es) (kf : k ≠ fd) (el : es.length < 50) {a : Nat} (G : GL l g a) (gf : g ≠ fd) {x : FE} (xe : EOk (w, x)) {U : List (List Nat)} (hU : ∀ v, ∀ o ∈ own es v, o ∈ U) (hx : ∀ o ∈ nmsL x.lv, o ∈ U) (sgU : ∀ v ∈ U, Sg v) (Ul : U.length ≤ 1500) (nr : x.lv.find? (farL a) = none) {Q : DK}
    (q0 : ringR es w x U = none → ∀ l', BkAt l' k g fd (bPut w x es) → (∀ z u, z ≠ fd → l z = some u → l' z = some u) → Q .non l')
    (q1 : ∀ p l', ringR es w x U = some p → DL.Sub l l' → Q (rpD p) l') : callD (D__law_let fun _ _ => False) [.ref k, .str (Sx w), .str (Sx x.tx)] l Q := by
  refine ⟨rfl, ?_⟩
  walk_at "w"
  refine ⟨?_⟩
  walk_at "w"
  refine ⟨_, B.k, rfl, ?_⟩
  walk_at "w"
  refine c_let_x B E kf el G gf xe hU hx sgU Ul (fun ch l' e => ?_) (fun _ p l' e s => ?_) (fun _ e l3 B3 f3 => ?_)
  · rw [nr] at e; cases e
  · walk_at "w"
    refine ⟨?_⟩
    walk_at "w"
    refine ifB_false ?_
    refine ⟨?_⟩
    walk_at "w"
    refine ⟨?_⟩
    walk_at "w"
    refine ifB_false ?_
    refine ifB_false ?_
    refine ifB_false ?_
    refine ⟨?_⟩
    walk_at "w"
    exact q1 p l' e s
  · walk_at "w"
    refine ⟨?_⟩
    walk_at "w"
    refine ifB_true ?_
    walk_at "w"
    exact q0 e l3 B3 f3

end Law

namespace Law
open PySem PySem.Spec PyProof.Rows L2 DL
local macro_rules | `(tactic| walk_at "w") => `(tactic| conv => whnf)
local macro_rules | `(tactic| walk_at "s") => `(tactic| (refine ⟨?_⟩; conv => whnf))
local macro_rules | `(tactic| walk_at "z") => `(tactic| (refine small ?_; simp only [List.length_map, List.length_append, List.length_reverse, List.length_cons, List.length_nil]; omega))
local macro_rules | `(tactic| walk_at "q") => `(tactic| (refine ⟨(okN_tints _).ok, (okN_tints _).ok, ?_⟩; rw [eqD_tints]))
/-! the law, whole -/
mutual
theorem FA.noK : ∀ a : FA, noK a.toD = true
  | .lt c => rfl
  | .nam w => rfl
  | .non => rfl
  | .br x y => by
    show DL.noK (.tup [.str "bracket", .tup [.str "items", .tup x.toDs], .tup [.str "items", .tup y.toDs]]) = true
    simp [DL.noK, DL.noKs, x.noKs, y.noKs]
  | .par x => by
    show DL.noK (.tup [.str "items", .tup x.toDs]) = true
    simp [DL.noK, DL.noKs, x.noKs]
theorem FI.noK : ∀ i : FI, noK i.toD = true
  | .pl a => a.noK
  | .pw a n => by
    show DL.noK (.tup [.str "power", a.toD, .int n]) = true
    simp [DL.noK, DL.noKs, a.noK]
theorem FE.noKs : ∀ x : FE, noKs x.toDs = true
  | .one i => by
    show DL.noKs [i.toD] = true
    simp [DL.noKs, i.noK]
  | .cons i r => by
    show DL.noKs (i.toD :: r.toDs) = true
    simp [DL.noKs, i.noK, r.noKs]
end
theorem FE.noK (x : FE) : noK x.toD = true := by
  show DL.noK (.tup [.str "items", .tup x.toDs]) = true
  simp [DL.noK, DL.noKs, x.noKs]
theorem noK_vs : ∀ es : List BE, noKs (bVs FE.toD es) = true
  | [] => rfl
  | e :: es => by
    show DL.noKs (e.2.toD :: bVs FE.toD es) = true
    rw [DL.noKs, e.2.noK, noK_vs es]
    rfl
theorem bKs_keyO (es : List BE) : (bKs es).map keyO = es.map fun e => D.str (Sx e.1) := by unfold bKs; rw [List.map_map]; rfl
theorem bKs_nd {es : List BE} (h : (bNm es).Nodup) : (bKs es).Nodup := by
  rw [bKs_nm]
  exact List.pairwise_map.mpr (h.imp fun hne e => hne (kS_inj.mp e))
def txD (x : FE) : D := .str (Sx x.tx)
theorem text_pairs : ∀ es : List BE, pairsD (es.map fun e => .tup [.str (Sx e.1), txD e.2]) = some (bKs es, bVs txD es)
  | [] => rfl
  | e :: es => by
    show ((keyD (.str (Sx e.1))).bind fun q => (pairsD (es.map fun e => .tup [.str (Sx e.1), txD e.2])).map fun z => (q :: z.1, txD e.2 :: z.2)) = _
    rw [text_pairs es]
    rfl
theorem noK_pairs : ∀ es : List BE, noKs (es.map fun e => .tup [.str (Sx e.1), txD e.2]) = true
  | [] => rfl
  | e :: es => by
    rw [List.map_cons, DL.noKs, noK_pairs es]
    rfl
theorem any_false (n : Nat) : (List.replicate n false).any id = false := List.any_eq_false.mpr fun b hb => by rw [(List.mem_replicate.mp hb).2]; decide
def FE.snoc : FE → FI → FE
  | .one i, j => .cons i (.one j)
  | .cons i r, j => .cons i (r.snoc j)
theorem snoc_toDs (j : FI) : ∀ x : FE, (x.snoc j).toDs = x.toDs ++ [j.toD]
  | .one i => rfl
  | .cons i r => by
    show i.toD :: (r.snoc j).toDs = i.toD :: r.toDs ++ [j.toD]
    rw [snoc_toDs j r]
    rfl
theorem snoc_ok {j : FI} (h : j.ok) : ∀ {x : FE}, x.ok → (x.snoc j).ok
  | .one i, hx => ⟨hx, h⟩
  | .cons i r, hx => ⟨hx.1, snoc_ok h hx.2⟩
theorem snoc_tx (j : FI) : ∀ x : FE, (x.snoc j).tx.length = x.tx.length + 1 + j.tx.length
  | .one i => by
    show (i.tx ++ 32 :: j.tx).length = i.tx.length + 1 + j.tx.length
    rw [List.length_append, List.length_cons]
    omega
  | .cons i r => by
    show (i.tx ++ 32 :: (r.snoc j).tx).length = (i.tx ++ 32 :: r.tx).length + 1 + j.tx.length
    rw [List.length_append, List.length_append, List.length_cons, List.length_cons, snoc_tx j r]
    omega
theorem snoc_dp {j : FI} {n : Nat} (h : j.dp ≤ n) : ∀ {x : FE}, x.dp ≤ n → (x.snoc j).dp ≤ n
  | .one i, hx => by show max i.dp j.dp ≤ n; have : i.dp ≤ n := hx; omega
  | .cons i r, hx => by
    have hx : max i.dp r.dp ≤ n := hx
    have := snoc_dp h (x := r) (by omega)
    show max i.dp (r.snoc j).dp ≤ n
    omega
theorem snoc_lv (j : FI) : ∀ x : FE, (x.snoc j).lv = x.lv ++ j.lv
  | .one i => rfl
  | .cons i r => by
    show i.lv ++ (r.snoc j).lv = i.lv ++ r.lv ++ j.lv
    rw [snoc_lv j r, List.append_assoc]
/-- what is drawn -/
structure Drawn (nms : List (List Nat)) (x : FE) : Prop where
  ok : x.ok
  dp : x.dp ≤ 1
  ln : x.tx.length ≤ 120
  lv : ∀ y ∈ x.lv, LvP 2 nms y
  few : (nmsL x.lv).length ≤ 4
theorem FmE.drawn {ns nms : List (List Nat)} {x : FE} (h : FmE 2 ns x) (s : ∀ w ∈ ns, w ∈ nms) : Drawn nms x := ⟨h.ok, h.dp, Nat.le_trans h.ln (by decide), fun y hy => by
  have := h.lv y hy
  cases y with
  | nam w => exact s w this
  | lt c => exact this
  | _ => trivial, Nat.le_trans h.few (by decide)⟩
theorem FmE.snoc {ns nms : List (List Nat)} {x : FE} (h : FmE 2 ns x) (s : ∀ w ∈ ns, w ∈ nms) {w : List Nat} (hw : w ∈ nms) (o : NmOk w) : Drawn nms (x.snoc (.pl (.nam w))) := by
  have d := h.drawn s
  refine ⟨snoc_ok (j := .pl (.nam w)) o h.ok, snoc_dp (Nat.zero_le _) h.dp, ?_, fun y hy => ?_, ?_⟩
  · rw [snoc_tx]
    have h1 := h.ln
    have h2 : w.length ≤ 8 := o.2.1
    show x.tx.length + 1 + w.length ≤ 120
    omega
  · rw [snoc_lv] at hy
    rcases List.mem_append.mp hy with z | z
    · exact d.lv y z
    · rw [List.mem_singleton.mp z]; exact hw
  · rw [snoc_lv]
    have h1 := h.few
    have e : nmsL (x.lv ++ (FI.pl (FA.nam w)).lv) = nmsL x.lv ++ [w] := by unfold nmsL; rw [List.filterMap_append]; rfl
    rw [e, List.length_append, List.length_singleton]
    omega
theorem cut_nm {nms : List (List Nat)} {j k : Nat} (hj : j < nms.length) (hk : j < k) : ∃ ns, DL.cutD (nmD nms) (some (j : Int)) (some (k : Int)) = nmD ns ∧ (∀ w ∈ ns, w ∈ nms) ∧ 1 ≤ ns.length ∧ ns.length ≤ nms.length := by
  have nl : (nmD nms).length = nms.length := by unfold nmD; rw [List.length_map]
  unfold DL.cutD
  rw [HT.sIx_nat, HT.sIx_nat, nl]
  refine ⟨(nms.drop (min j nms.length)).take (min k nms.length - min j nms.length), by unfold nmD; rw [List.map_take, List.map_drop], fun w hw => List.mem_of_mem_drop (List.mem_of_mem_take hw), ?_, ?_⟩
  · rw [List.length_take, List.length_drop]; omega
  · rw [List.length_take, List.length_drop]; omega
structure W76 (l : LH) (y bk g fd ow : Addr) (nms : List (List Nat)) (es : List BE) (k : Nat) : Prop where
  B : Box l y k
  K : BkAt l bk g fd es
  O : l ow = some (.dK (bKs es) (bVs FE.toD es))
  E : EsOk es
  d : ∀ e ∈ es, e.2.dp ≤ 14
  R : ∀ e ∈ es, e.1 ∈ nms ∧ ∀ v ∈ nmsL e.2.lv, v ∈ nms
  G : GL l g 2
  of : ow ≠ fd
theorem W76.few {l : LH} {y bk g fd ow : Addr} {nms : List (List Nat)} {es : List BE} {k : Nat} (W : W76 l y bk g fd ow nms es k) : es.length ≤ nms.length := by
  have := nodup_len W.E.nd (U := nms) fun w hw => by
    obtain ⟨e, he, rfl⟩ := List.mem_map.mp hw
    exact (W.R e he).1
  unfold bNm at this
  rwa [List.length_map] at this
theorem own_in {nms : List (List Nat)} {es : List BE} (R : ∀ e ∈ es, e.1 ∈ nms ∧ ∀ v ∈ nmsL e.2.lv, v ∈ nms) : ∀ v, ∀ o ∈ own es v, o ∈ nms := fun v o ho => by
  unfold own at ho
  split at ho
  · rename_i y e
    exact (R _ (bGet_mem e)).2 o (sortN_mem.mp ho)
  · cases ho
theorem R_put {nms : List (List Nat)} {es : List BE} (R : ∀ e ∈ es, e.1 ∈ nms ∧ ∀ v ∈ nmsL e.2.lv, v ∈ nms) {w : List Nat} {x : FE} (hw : w ∈ nms) (hx : ∀ v ∈ nmsL x.lv, v ∈ nms) : ∀ e ∈ bPut w x es, e.1 ∈ nms ∧ ∀ v ∈ nmsL e.2.lv, v ∈ nms := fun e he => (bPut_mem he).elim (fun z => by rw [z]; exact ⟨hw, hx⟩) (R e)
theorem GL.mv {l l' : LH} {g : Addr} {A : Nat} : GL l g A → (∀ o, l g = some o → l' g = some o) → GL l' g A := fun ⟨a, b, c, d, h⟩ s => ⟨a, b, c, d, s _ h⟩
theorem W76.ne {l : LH} {y bk g fd ow : Addr} {nms : List (List Nat)} {es : List BE} {k : Nat} (W : W76 l y bk g fd ow nms es k) : bk ≠ y ∧ fd ≠ y ∧ ow ≠ y ∧ g ≠ y ∧ bk ≠ fd ∧ g ≠ fd ∧ ow ≠ bk ∧ g ≠ ow := by
  obtain ⟨v, hv⟩ := Box.lst W.B
  obtain ⟨a, b, c, d, h⟩ := W.G
  refine ⟨fun e => ?_, fun e => ?_, fun e => ?_, fun e => ?_, fun e => ?_, fun e => ?_, fun e => ?_, fun e => ?_⟩
  · rw [← e, W.K.k] at hv; cases hv
  · rw [← e, W.K.f] at hv; cases hv
  · rw [← e, W.O] at hv; cases hv
  · rw [← e, h] at hv; cases hv
  · have := W.K.k; rw [e, W.K.f] at this; cases this
  · rw [e, W.K.f] at h; cases h
  · have := W.O; rw [e, W.K.k] at this; cases this
  · rw [e, W.O] at h; cases h
theorem W76.mv {l l' : LH} {y bk g fd ow : Addr} {nms : List (List Nat)} {es : List BE} {k k' : Nat} (W : W76 l y bk g fd ow nms es k) (B : Box l' y k') (f : ∀ z u, z ≠ y → l z = some u → l' z = some u) : W76 l' y bk g fd ow nms es k' := by
  obtain ⟨ybk, yfd, yow, yg, -⟩ := W.ne
  exact ⟨B, ⟨f _ _ ybk W.K.k, f _ _ yfd W.K.f⟩, f _ _ yow W.O, W.E, W.d, W.R, W.G.mv fun o h => f _ _ yg h, W.of⟩
def dueR : Option RP → D
  | none => .non
  | some p => rpD p
def let76 : DTS := (sSeq (sSet 12 (dDef D__law_ring (aCons (dVar 6) (aCons (dVar 9) (aCons (dVar 11) aNil)))))
  (sSeq (sIf (tNot (dTV (dDef (D__law_same 100) (aCons (dDef (D__law_let fun _ _ => False) (aCons (dVar 5) (aCons (dVar 9) (aCons (dDef (D__law_text 70) (aCons (dVar 11) aNil)) aNil)))) (aCons (dVar 12) aNil))))) (sRet (dC (.bl false))) sNext)
  (sIf (dTV (dIsN (dVar 12) (dC .non))) (sPutD (dVar 6) (dVar 9) (dVar 11)) sNext)))
section
variable {y bk g fd ow : Addr} {nms : List (List Nat)} (hn : ∀ w ∈ nms, NmOk w) (n48 : nms.length ≤ 48)
include hn n48
theorem let_ok {es : List BE} {k : Nat} {l : LH} (W : W76 l y bk g fd ow nms es k) {w : List Nat} (hw : w ∈ nms) {x : FE} (dx : Drawn nms x) {E : DEnds} {e0 e1 e3 e4 e7 e8 e10 e12 e13 e14 e15 : Option D}
    (h : ∀ l' es' R, W76 l' y bk g fd ow nms es' k → (∀ p, R = some p → es' = es ∧ PathOf es w p.1 ∧ p.2 = w ∧ p.1.length ≤ 102) → E.nx [e0, e1, some (.ref y), e3, e4, some (.ref bk), some (.ref ow), e7, e8, some (.str (Sx w)), e10, some x.toD, some (dueR R), e13, e14, e15] l') :
    let76 E [e0, e1, some (.ref y), e3, e4, some (.ref bk), some (.ref ow), e7, e8, some (.str (Sx w)), e10, some x.toD, e12, e13, e14, e15] l := by
  have few := W.few
  obtain ⟨ybk, yfd, yow, yg, kf, gf, owbk, owg⟩ := W.ne
  have xln := dx.ln
  have xdp := dx.dp
  have xe : EOk (w, x) := ⟨hn w hw, dx.ok, Nat.le_trans dx.ln (by decide), Nat.le_trans dx.dp (by decide), Nat.lt_of_le_of_lt dx.few (by decide)⟩
  have hx : ∀ v ∈ nmsL x.lv, v ∈ nms := fun v hv => dx.lv _ (nmsL_mem.mp hv)
  have sU : ∀ v ∈ nms, Sg v := fun v hv => nm_sg (hn v hv)
  walk_at "w"
  refine c_lring W.O W.E W.d xe (by omega) (own_in (R_put W.R hw hx)) sU (by omega) fun l1 s1 good => ?_
  have K1 := W.K.sub s1
  have G1 := W.G.mv fun o h => s1 _ _ h
  have B1 := Box.sub s1 W.B
  have O1 := s1 _ _ W.O
  obtain ⟨bv, hbv⟩ := Box.lst B1
  walk_at "w"
  refine x.lw dx.ok (by omega) (by omega) ?_
  walk_at "w"
  refine c_llet K1 W.E kf (by omega) G1 gf xe (own_in W.R) hx sU (by omega) (near dx.lv) (fun e l2 K2 f2 => ?_) (fun p l2 e s2 => ?_)
  · rw [e]
    have O2 := f2 _ _ W.of O1
    walk_at "w"
    refine c_same 1 (.non 0) (by decide) ?_
    walk_at "w"
    refine ifB_false ?_
    walk_at "w"
    refine ifB_true ?_
    walk_at "w"
    refine ⟨_, O2, _, rfl, small (by unfold bKs; rw [List.length_map]; omega), ?_⟩
    rw [putK_b, putD_b]
    refine h _ (bPut w x es) none ⟨Box.of_same ((uL_ne (Ne.symm yow)).trans ((f2 y _ (Ne.symm yfd) hbv).trans hbv.symm)) B1, ⟨(uL_ne (Ne.symm owbk)).trans K2.k, (uL_ne (Ne.symm W.of)).trans K2.f⟩, uL_same, W.E.put xe (by omega), fun e he => (bPut_mem he).elim (fun z => by rw [z]; show x.dp ≤ 14; omega) (W.d e), R_put W.R hw hx, G1.mv fun o ho => (uL_ne owg).trans (f2 _ _ gf ho), W.of⟩ fun p e => (by cases e)
  · rw [e]
    obtain ⟨g1, g2, g3⟩ := good p e
    have W2 : W76 l2 y bk g fd ow nms es k := ⟨Box.sub s2 B1, K1.sub s2, s2 _ _ O1, W.E, W.d, W.R, G1.mv fun o h => s2 _ _ h, W.of⟩
    have pok : Pl 2 (rpD p) := .lst 1 _ (by rw [List.length_map, List.length_append, List.length_singleton]; omega) fun d hd => by
      obtain ⟨v, hv, rfl⟩ := List.mem_map.mp hd
      obtain ⟨mids, m1, m2⟩ := g1
      rw [m1, g2] at hv
      have sb : ∀ v ∈ bNm es, Sg v := fun v hv => by
        obtain ⟨e, he, rfl⟩ := List.mem_map.mp hv
        exact nm_sg (W.E.all e he).nm
      refine .str 0 v ?_
      rcases List.mem_append.mp hv with z | z
      · exact (List.mem_cons.mp z).elim (fun e => by rw [e]; exact sU w hw) fun k => sb v (m2 v k)
      · rw [List.mem_singleton.mp z]; exact sU w hw
    walk_at "w"
    refine c_same 2 pok (by decide) ?_
    walk_at "w"
    refine ifB_false ?_
    walk_at "w"
    refine ifB_false ?_
    exact h l2 es (some p) W2 fun p' e' => by
      cases e'
      exact ⟨rfl, g1, g2, g3⟩
end

end Law

namespace Law
open PySem PySem.Spec PyProof.Rows L2 DL
local macro_rules | `(tactic| walk_at "w") => `(tactic| conv => whnf)
local macro_rules | `(tactic| walk_at "s") => `(tactic| (refine ⟨?_⟩; conv => whnf))
local macro_rules | `(tactic| walk_at "z") => `(tactic| (refine small ?_; simp only [List.length_map, List.length_append, List.length_reverse, List.length_cons, List.length_nil]; omega))
local macro_rules | `(tactic| walk_at "q") => `(tactic| (refine ⟨(okN_tints _).ok, (okN_tints _).ok, ?_⟩; rw [eqD_tints]))
theorem bGet_self {es : List BE} (nd : (bNm es).Nodup) : ∀ e ∈ es, bGet e.1 es = some e.2 := by
  induction es with
  | nil => intro e h; cases h
  | cons a es ih =>
    intro e h
    have nd' := List.nodup_cons.mp (show (a.1 :: bNm es).Nodup from nd)
    unfold bGet
    rcases List.mem_cons.mp h with z | z
    · rw [z, if_pos rfl]
    · rw [if_neg fun k => nd'.1 (by rw [k]; exact List.mem_map.mpr ⟨e, z, rfl⟩)]
      exact ih nd'.2 e z
theorem pair_comp {l : LH} {es : List BE} (E : EsOk es) (ed : ∀ e ∈ es, e.2.dp ≤ 14) {e0 e1 e2 e3 e4 e5 e7 e8 e9 e10 e11 e12 e13 e14 : Option D} : ∀ (us : List BE), (∀ u ∈ us, u ∈ es) → ∀ {e15 : Option D} {Q : List D → LH → Prop}, Q (us.map fun e => .tup [.str (Sx e.1), txD e.2]) l →
    compL (gName 15) tYes (nE C_law_1) [15] (us.map fun e => D.str (Sx e.1)) [e0, e1, e2, e3, e4, e5, some (.dK (bKs es) (bVs FE.toD es)), e7, e8, e9, e10, e11, e12, e13, e14, e15] l Q
  | [], _, e15, Q, q => q
  | u :: us, hu, e15, Q, q => by
    have um := hu u List.mem_cons_self
    have O := E.all u um
    have xln := O.ln
    have xdp := ed u um
    rw [List.map_cons]
    walk_at "w"
    refine ifB_true ⟨?_⟩
    walk_at "w"
    refine ⟨_, rfl, ?_⟩
    dsimp only
    rw [getA_b, bGet_self E.nd u um]
    refine u.2.lw O.ok (by omega) (by omega) ?_
    walk_at "w"
    refine ⟨Nat.le_of_ble_eq_true rfl, ?_⟩
    exact pair_comp E ed us (fun x hx => hu x (List.mem_cons_of_mem _ hx)) q
theorem text_comp {l : LH} {bk g fd : Addr} {es : List BE} (B : BkAt l bk g fd es) (E : EsOk es) {e0 e1 e2 e3 e4 e7 e8 e9 e10 e11 e12 e14 : Option D} {e6 : Option D} : ∀ (us : List BE), (∀ u ∈ us, u ∈ es) → ∀ {e15 : Option D} {Q : List D → LH → Prop}, Q ((List.replicate us.length false).map D.bl) l →
    compL (gName 15) tYes (nE C_law_2) [15] (us.map fun e => D.str (Sx e.1)) [e0, e1, e2, e3, e4, some (.ref bk), e6, e7, e8, e9, e10, e11, e12, some (.dK (bKs es) (bVs txD es)), e14, e15] l Q
  | [], _, e15, Q, q => q
  | u :: us, hu, e15, Q, q => by
    have um := hu u List.mem_cons_self
    have O := E.all u um
    rw [List.map_cons]
    walk_at "w"
    refine ifB_true ⟨?_⟩
    walk_at "w"
    refine ⟨_, B.k, rfl, ?_⟩
    walk_at "w"
    have gs := bGet_self E.nd u um
    refine c_text_of B E (fun x hx => ?_) (fun h => absurd (List.mem_map.mpr ⟨u, um, rfl⟩) h)
    rw [gs] at hx
    cases hx
    walk_at "w"
    refine ⟨_, rfl, ?_⟩
    dsimp only
    rw [getA_b, gs]
    have sg : Sg u.2.tx := fun c hc => by have := u.2.lo O.ok c hc; omega
    refine ⟨(okS sg).ok, (okS sg).ok, ?_⟩
    rw [show eqD (D.str (Sx u.2.tx)) (txD u.2) = true from eqD_refl (okS sg)]
    exact text_comp B E us (fun x hx => hu x (List.mem_cons_of_mem _ hx)) q
theorem keysS_b : ∀ es : List BE, keysS (bKs es) = some ((bNm es).map Sx)
  | [] => rfl
  | e :: es => by
    show (keysS (bKs es)).map (fun s => Sx e.1 :: s) = _
    rw [keysS_b es]
    rfl
theorem c_bk_namesF {l : LH} {k g fd : Addr} {es : List BE} (B : BkAt l k g fd es) (E : EsOk es) {Q : DK} (q : Q (.lst ((sortN (bNm es)).map strD)) l) : callD D_Book_names [.ref k] l Q := by
  have el := E.len
  refine ⟨rfl, ?_⟩
  walk_at "w"
  refine ⟨_, B.k, rfl, ?_⟩
  walk_at "w"
  refine ⟨_, B.f, _, keysS_b es, by unfold bNm; rw [List.length_map, List.length_map]; omega, fun ss h1 h2 => ?_⟩
  rw [sort_strD E.nd h1 h2]
  exact q
def tail76 : DTS := (sSeq (sSet 13 (dDictP (dBorD 6 (dLc (iKeysK (dVar 6)) (gName 15) tYes (nE C_law_1) [15]))))
  (sIf (tBorD 6 (tOr (tNot (dTV (dDef (D__law_same 100) (aCons (dMeth0 cl_Book D_Book_names (dVar 5)) (aCons (dCall kSortDK (aCons (dVar 6) aNil)) aNil))))) (dTV (dCall kAny (aCons (dLc (iKeysK (dVar 6)) (gName 15) tYes (nE C_law_2) [15]) aNil))))) (sRet (dC (.bl false))) sNext))
theorem tail_ok {y bk g fd ow : Addr} {nms : List (List Nat)} {es : List BE} {k : Nat} {l : LH} (W : W76 l y bk g fd ow nms es k) {E : DEnds} {e0 e1 e2 e3 e4 e7 e8 e9 e10 e11 e12 e13 e14 e15 : Option D}
    (h : ∀ e13, E.nx [e0, e1, e2, e3, e4, some (.ref bk), some (.ref ow), e7, e8, e9, e10, e11, e12, e13, e14, e15] l) :
    tail76 E [e0, e1, e2, e3, e4, some (.ref bk), some (.ref ow), e7, e8, e9, e10, e11, e12, e13, e14, e15] l := by
  have el := W.E.len
  have nl : (bNm es).length = es.length := by unfold bNm; rw [List.length_map]
  obtain ⟨ybk, yfd, yow, yg, kf, gf, owbk, owg⟩ := W.ne
  walk_at "w"
  refine ⟨fun _ => false, ow, bKs es, bVs FE.toD es, rfl, W.O, rfl, fun z hz => (by cases hz), ?_⟩
  walk_at "w"
  rw [bKs_keyO]
  refine ⟨by rw [List.length_map]; exact small (by omega), ?_⟩
  refine pair_comp W.E W.d es (fun u h => h) ?_
  refine ⟨fun z hz => (by cases hz), noK_pairs es, ?_⟩
  walk_at "w"
  refine ⟨_, text_pairs es, bKs_nd W.E.nd, ?_⟩
  walk_at "w"
  refine ⟨fun z => decide (z = bk ∨ z = fd), ow, bKs es, bVs FE.toD es, rfl, W.O, decide_eq_false fun e => e.elim owbk W.of, fun z hz => ?_, ?_⟩
  · rcases of_decide_eq_true hz with e | e
    · exact ⟨_, by rw [e]; exact W.K.k, rfl⟩
    · exact ⟨_, by rw [e]; exact W.K.f, show noKO (.dK (bKs es) (bVs FE.toD es)) = true from noK_vs es⟩
  have B2 : BkAt (stL l fun z => decide (z = bk ∨ z = fd)) bk g fd es := ⟨(stL_in (decide_eq_true (.inl rfl))).trans W.K.k, (stL_in (decide_eq_true (.inr rfl))).trans W.K.f⟩
  walk_at "w"
  refine ⟨_, B2.k, rfl, ?_⟩
  refine c_bk_namesF B2 W.E ?_
  walk_at "w"
  refine ⟨_, keysS_b es, by rw [List.length_map]; omega, fun ts pt st => ?_⟩
  rw [sort_strD W.E.nd pt st]
  walk_at "w"
  have sl : (sortN (bNm es)).length ≤ 50 := Nat.le_trans (sortN_len _) (by omega)
  refine c_same 2 (.lst 1 _ (by rw [List.length_map]; omega) fun d hd => ?_) (by decide) ?_
  · obtain ⟨v, hv, rfl⟩ := List.mem_map.mp hd
    obtain ⟨e, he, rfl⟩ := List.mem_map.mp (sortN_mem.mp hv)
    exact .str 0 _ (nm_sg (W.E.all e he).nm)
  walk_at "w"
  refine ifB_false ?_
  walk_at "w"
  rw [bKs_keyO]
  refine ⟨by rw [List.length_map]; exact small (by omega), ?_⟩
  refine text_comp B2 W.E es (fun u h => h) ?_
  walk_at "w"
  refine ⟨_, rfl, ?_⟩
  rw [any_false]
  walk_at "w"
  refine ⟨fun z hz => stL_in hz, ?_⟩
  refine ifB_false ?_
  exact h _

end Law

namespace Law
open PySem PySem.Spec PyProof.Rows L2 DL
local macro_rules | `(tactic| walk_at "w") => `(tactic| conv => whnf)
local macro_rules | `(tactic| walk_at "s") => `(tactic| (refine ⟨?_⟩; conv => whnf))
local macro_rules | `(tactic| walk_at "z") => `(tactic| (refine small ?_; simp only [List.length_map, List.length_append, List.length_reverse, List.length_cons, List.length_nil]; omega))
local macro_rules | `(tactic| walk_at "q") => `(tactic| (refine ⟨(okN_tints _).ok, (okN_tints _).ok, ?_⟩; rw [eqD_tints]))
/-! the turns -/
def last76 : DTS := (sIf (tAnd (dTV (dNotN (dVar 12) (dC .non))) (tAnd (dTV (dGt (dCall kLen (aCons (dVar 12) aNil)) (dC (.int 2)))) (dTV (dEq (dDef D__law_take (aCons (dVar 2) (aCons (dC (.int 2)) aNil))) (dC (.int 0)))))) (sSeq (sSet 14 (dIx (dVar 12) (dAdd (dC (.int 1)) (dDef D__law_take (aCons (dVar 2) (aCons (dSub (dCall kLen (aCons (dVar 12) aNil)) (dC (.int 2))) aNil))))))
  (sSeq (sExpr (dMeth cl_Book (D_Book_drop fun _ _ => False) (dVar 5) (aCons (dVar 14) aNil)))
  (sSeq (sExpr (dDPop (dVar 6) (dVar 14)))
  (sSeq (sSet 12 (dDef D__law_ring (aCons (dVar 6) (aCons (dVar 9) (aCons (dVar 11) aNil)))))
  (sSeq (sIf (tNot (dTV (dDef (D__law_same 100) (aCons (dDef (D__law_let fun _ _ => False) (aCons (dVar 5) (aCons (dVar 9) (aCons (dDef (D__law_text 70) (aCons (dVar 11) aNil)) aNil)))) (aCons (dVar 12) aNil))))) (sRet (dC (.bl false))) sNext)
  (sIf (dTV (dIsN (dVar 12) (dC .non))) (sPutD (dVar 6) (dVar 9) (dVar 11)) sNext)))))) sNext)
def two76 : DTS := (sSeq (sSet 12 (dDef D__law_ring (aCons (dVar 6) (aCons (dVar 9) (aCons (dVar 11) aNil)))))
  (sSeq (sIf (tNot (dTV (dDef (D__law_same 100) (aCons (dDef (D__law_let fun _ _ => False) (aCons (dVar 5) (aCons (dVar 9) (aCons (dDef (D__law_text 70) (aCons (dVar 11) aNil)) aNil)))) (aCons (dVar 12) aNil))))) (sRet (dC (.bl false))) sNext)
  (sSeq (sIf (dTV (dIsN (dVar 12) (dC .non))) (sPutD (dVar 6) (dVar 9) (dVar 11)) sNext)
  (sSeq (sSet 13 (dDictP (dBorD 6 (dLc (iKeysK (dVar 6)) (gName 15) tYes (nE C_law_1) [15]))))
  (sSeq (sIf (tBorD 6 (tOr (tNot (dTV (dDef (D__law_same 100) (aCons (dMeth0 cl_Book D_Book_names (dVar 5)) (aCons (dCall kSortDK (aCons (dVar 6) aNil)) aNil))))) (dTV (dCall kAny (aCons (dLc (iKeysK (dVar 6)) (gName 15) tYes (nE C_law_2) [15]) aNil))))) (sRet (dC (.bl false))) sNext)
  (sIf (tAnd (dTV (dNotN (dVar 12) (dC .non))) (tAnd (dTV (dGt (dCall kLen (aCons (dVar 12) aNil)) (dC (.int 2)))) (dTV (dEq (dDef D__law_take (aCons (dVar 2) (aCons (dC (.int 2)) aNil))) (dC (.int 0)))))) (sSeq (sSet 14 (dIx (dVar 12) (dAdd (dC (.int 1)) (dDef D__law_take (aCons (dVar 2) (aCons (dSub (dCall kLen (aCons (dVar 12) aNil)) (dC (.int 2))) aNil))))))
  (sSeq (sExpr (dMeth cl_Book (D_Book_drop fun _ _ => False) (dVar 5) (aCons (dVar 14) aNil)))
  (sSeq (sExpr (dDPop (dVar 6) (dVar 14)))
  (sSeq (sSet 12 (dDef D__law_ring (aCons (dVar 6) (aCons (dVar 9) (aCons (dVar 11) aNil)))))
  (sSeq (sIf (tNot (dTV (dDef (D__law_same 100) (aCons (dDef (D__law_let fun _ _ => False) (aCons (dVar 5) (aCons (dVar 9) (aCons (dDef (D__law_text 70) (aCons (dVar 11) aNil)) aNil)))) (aCons (dVar 12) aNil))))) (sRet (dC (.bl false))) sNext)
  (sIf (dTV (dIsN (dVar 12) (dC .non))) (sPutD (dVar 6) (dVar 9) (dVar 11)) sNext)))))) sNext))))))
def mid76 : DTS := (sSeq (sSet 10 (dCall kMax (aCons (dC (.int 0)) (aCons (dCall kMin (aCons (dSub (dVar 8) (dC (.int 2))) (aCons (dSub (dVar 3) (dC (.int 6))) aNil))) aNil))))
  (sSeq (sSet 11 (dDef D__law_formula (aCons (dVar 2) (aCons (dC (.int 2)) (aCons (dSl (dVar 4) (oSm (dVar 10)) (oSm (dAdd (dVar 10) (dC (.int 6))))) aNil)))))
  (sSeq (sIf (dTV (dEq (dDef D__law_take (aCons (dVar 2) (aCons (dC (.int 6)) aNil))) (dC (.int 0)))) (sSet 11 (dTup (aCons (dC (.str "items")) (aCons (dAdd (dIx (dVar 11) (dC (.int 1))) (dTup (aCons (dTup (aCons (dC (.str "name")) (aCons (dVar 9) aNil))) aNil))) aNil)))) sNext)
  two76)))
section
variable {y bk g fd ow : Addr} {nms : List (List Nat)} (hn : ∀ w ∈ nms, NmOk w) (n1 : 1 ≤ nms.length) (n48 : nms.length ≤ 48)
include hn n1 n48
theorem drop_ok9 {es : List BE} {k : Nat} {l : LH} (W : W76 l y bk g fd ow nms es k) {w : List Nat} (hm : w ∈ bNm es) {E : DEnds} {e0 e1 e2 e3 e4 e7 e8 e10 e11 e12 e13 e14 e15 : Option D}
    (h : ∀ l', W76 l' y bk g fd ow nms (bDel w es) k → E.nx [e0, e1, e2, e3, e4, some (.ref bk), some (.ref ow), e7, e8, some (.str (Sx w)), e10, e11, e12, e13, e14, e15] l') : (sSeq (sExpr (dMeth cl_Book (D_Book_drop fun _ _ => False) (dVar 5) (aCons (dVar 9) aNil))) (sExpr (dDPop (dVar 6) (dVar 9)))) E [e0, e1, e2, e3, e4, some (.ref bk), some (.ref ow), e7, e8, some (.str (Sx w)), e10, e11, e12, e13, e14, e15] l := by
  obtain ⟨ybk, yfd, yow, yg, kf, gf, owbk, owg⟩ := W.ne
  walk_at "w"
  refine ⟨_, W.K.k, rfl, ?_⟩
  walk_at "w"
  refine c_drop W.K kf (fun _ l3 K3 f3 => ?_) fun h => absurd hm h
  have O3 := (f3 ow W.of).trans W.O
  have sm := bGet_some (w := w) (es := es)
  rw [decide_eq_true hm] at sm
  obtain ⟨x, hx⟩ := Option.isSome_iff_exists.mp sm
  walk_at "w"
  refine ⟨_, O3, ?_⟩
  refine ⟨_, O3, _, rfl, _, by rw [getA_b, hx]; rfl, ?_⟩
  refine h _ ⟨Box.of_same ((uL_ne (Ne.symm yow)).trans (f3 y (Ne.symm yfd))) W.B, ⟨(uL_ne (Ne.symm owbk)).trans K3.k, (uL_ne (Ne.symm W.of)).trans K3.f⟩, ?_, W.E.del w, fun e he => W.d e (bDel_mem he), fun e he => W.R e (bDel_mem he), W.G.mv fun o ho => (uL_ne owg).trans ((f3 g gf).trans ho), W.of⟩
  rw [delK_b, delD_b]
  exact uL_same
theorem drop_ok14 {es : List BE} {k : Nat} {l : LH} (W : W76 l y bk g fd ow nms es k) {w : List Nat} (hm : w ∈ bNm es) {E : DEnds} {e0 e1 e2 e3 e4 e7 e8 e9 e10 e11 e12 e13 e15 : Option D}
    (h : ∀ l', W76 l' y bk g fd ow nms (bDel w es) k → E.nx [e0, e1, e2, e3, e4, some (.ref bk), some (.ref ow), e7, e8, e9, e10, e11, e12, e13, some (.str (Sx w)), e15] l') : (sSeq (sExpr (dMeth cl_Book (D_Book_drop fun _ _ => False) (dVar 5) (aCons (dVar 14) aNil))) (sExpr (dDPop (dVar 6) (dVar 14)))) E [e0, e1, e2, e3, e4, some (.ref bk), some (.ref ow), e7, e8, e9, e10, e11, e12, e13, some (.str (Sx w)), e15] l := by
  obtain ⟨ybk, yfd, yow, yg, kf, gf, owbk, owg⟩ := W.ne
  walk_at "w"
  refine ⟨_, W.K.k, rfl, ?_⟩
  walk_at "w"
  refine c_drop W.K kf (fun _ l3 K3 f3 => ?_) fun h => absurd hm h
  have O3 := (f3 ow W.of).trans W.O
  have sm := bGet_some (w := w) (es := es)
  rw [decide_eq_true hm] at sm
  obtain ⟨x, hx⟩ := Option.isSome_iff_exists.mp sm
  walk_at "w"
  refine ⟨_, O3, ?_⟩
  refine ⟨_, O3, _, rfl, _, by rw [getA_b, hx]; rfl, ?_⟩
  refine h _ ⟨Box.of_same ((uL_ne (Ne.symm yow)).trans (f3 y (Ne.symm yfd))) W.B, ⟨(uL_ne (Ne.symm owbk)).trans K3.k, (uL_ne (Ne.symm W.of)).trans K3.f⟩, ?_, W.E.del w, fun e he => W.d e (bDel_mem he), fun e he => W.R e (bDel_mem he), W.G.mv fun o ho => (uL_ne owg).trans ((f3 g gf).trans ho), W.of⟩
  rw [delK_b, delD_b]
  exact uL_same
theorem last_ok {es : List BE} {k : Nat} {l : LH} (W : W76 l y bk g fd ow nms es k) (hk : k < 2 ^ 30) {w : List Nat} (hw : w ∈ nms) {x : FE} (dx : Drawn nms x) {R : Option RP} (good : ∀ p, R = some p → PathOf es w p.1 ∧ p.2 = w ∧ p.1.length ≤ 102) {E : DEnds} {e0 e1 e3 e4 e7 e8 e10 e13 e14 e15 : Option D}
    (h : ∀ l' es' k' e12 e14, k ≤ k' → k' ≤ k + 2 → W76 l' y bk g fd ow nms es' k' → E.nx [e0, e1, some (.ref y), e3, e4, some (.ref bk), some (.ref ow), e7, e8, some (.str (Sx w)), e10, some x.toD, e12, e13, e14, e15] l') :
    last76 E [e0, e1, some (.ref y), e3, e4, some (.ref bk), some (.ref ow), e7, e8, some (.str (Sx w)), e10, some x.toD, some (dueR R), e13, e14, e15] l := by
  cases R with
  | none =>
    walk_at "w"
    refine ifB_false ?_
    refine ifB_false ?_
    exact h l es k _ _ (Nat.le_refl _) (by omega) W
  | some p =>
    obtain ⟨⟨mids, m1, m2⟩, g2, g3⟩ := good p rfl
    have pe : (p.1 ++ [p.2]).map strD = strD w :: (mids.map strD ++ [strD w]) := by rw [m1, g2, List.map_append]; rfl
    have pd : dueR (some p) = .lst (strD w :: (mids.map strD ++ [strD w])) := by rw [← pe]; rfl
    have pl : (strD w :: (mids.map strD ++ [strD w])).length = mids.length + 2 := by rw [List.length_cons, List.length_append, List.length_map, List.length_singleton]
    rw [pd]
    have skip : E.nx [e0, e1, some (.ref y), e3, e4, some (.ref bk), some (.ref ow), e7, e8, some (.str (Sx w)), e10, some x.toD, some (.lst (strD w :: (mids.map strD ++ [strD w]))), e13, e14, e15] l := h l es k _ _ (Nat.le_refl _) (by omega) W
    walk_at "w"
    refine ifB_true ?_
    walk_at "w"
    rw [pl]
    refine ifB_by (fun hlt => ?_) (fun _ => ?_)
    · have hlt : (2 : Int) < ((mids.length + 2 : Nat) : Int) := of_decide_eq_true hlt
      walk_at "w"
      refine c_take W.B (by decide) (by decide) (by omega) fun t1 l1 t10 t11 B1 o1 => ?_
      have W1 := W.mv B1 fun z u hz h => (o1 z hz).trans h
      walk_at "w"
      refine ⟨(okN_int _).ok, (okN_int _).ok, ?_⟩
      refine ifB_by (fun _ => ?_) (fun _ => ?_)
      · walk_at "w"
        rw [pl]
        refine c_take W1.B (by omega) (by rw [m1, List.length_cons] at g3; omega) (by omega) fun t2 l2 t20 t21 B2 o2 => ?_
        obtain ⟨t2, rfl⟩ := Int.eq_ofNat_of_zero_le t20
        have W2 := W1.mv B2 fun z u hz h => (o2 z hz).trans h
        have tl : t2 < mids.length := by omega
        obtain ⟨v, hv⟩ : ∃ v, mids[t2]? = some v := ⟨_, List.getElem?_eq_getElem tl⟩
        have hm := m2 v (List.mem_of_getElem? hv)
        have at1 : atI (strD w :: (mids.map strD ++ [strD w])) (1 + (t2 : Int)) = some (.str (Sx v)) := by
          rw [show (1 + (t2 : Int)) = ((t2 + 1 : Nat) : Int) by omega]
          refine atI_nat ?_
          rw [List.getElem?_cons_succ, List.getElem?_append_left (by rw [List.length_map]; exact tl), List.getElem?_map, hv]
          rfl
        walk_at "w"
        refine ⟨_, at1, ?_⟩
        refine drop_ok14 hn n1 n48 W2 hm fun l3 W3 => ?_
        exact let_ok hn n48 W3 hw dx fun l4 es4 R4 W4 _ => h l4 es4 (k + 1 + 1) _ _ (by omega) (by omega) W4
      · refine h l1 es (k + 1) _ _ (by omega) (by omega) W1
    · refine ifB_false ?_
      exact skip
end

end Law

namespace Law
open PySem PySem.Spec PyProof.Rows L2 DL
local macro_rules | `(tactic| walk_at "w") => `(tactic| conv => whnf)
local macro_rules | `(tactic| walk_at "s") => `(tactic| (refine ⟨?_⟩; conv => whnf))
local macro_rules | `(tactic| walk_at "z") => `(tactic| (refine small ?_; simp only [List.length_map, List.length_append, List.length_reverse, List.length_cons, List.length_nil]; omega))
local macro_rules | `(tactic| walk_at "q") => `(tactic| (refine ⟨(okN_tints _).ok, (okN_tints _).ok, ?_⟩; rw [eqD_tints]))
/-! the law -/
theorem c_Book_init {bk g : Addr} {l : LH} {Q : DK} (q : ∀ fd l', l fd = none → fd ≠ bk → l' bk = some (.ins cl_Book [.ref g, .ref fd]) → l' fd = some (.dK [] []) → (∀ z, z ≠ bk → z ≠ fd → l' z = l z) → Q .non l') : callD D_Book_init [.ref bk, .ref g] (uL l bk (.ins cl_Book [])) Q := by
  refine ⟨rfl, ?_⟩
  walk_at "w"
  refine ⟨_, uL_same, rfl, ?_⟩
  walk_at "w"
  rw [uL_uL]
  walk_at "s"
  intro fd nfd
  have ne : fd ≠ bk := fun e => by rw [e, uL_same] at nfd; cases nfd
  have nfd' : l fd = none := (uL_ne ne).symm.trans nfd
  walk_at "w"
  refine ⟨_, (uL_ne (Ne.symm ne)).trans uL_same, rfl, ?_⟩
  walk_at "w"
  exact q fd _ nfd' ne uL_same ((uL_ne ne).trans uL_same) (fun z z1 z2 => (uL_ne z1).trans ((uL_ne z2).trans (uL_ne z1)))
theorem seq6 (a b c d e f : DTS) : sSeq a (sSeq b (sSeq c (sSeq d (sSeq e f)))) = sSeq (sSeq a (sSeq b c)) (sSeq (sSeq d e) f) := rfl
theorem seq_at (a b : DTS) (E : DEnds) (env : DSt) (l : LH) : sSeq a b E env l = a ⟨b E, E.rt, E.bk, E.ct⟩ env l := rfl
theorem two_eq : two76 = sSeq let76 (sSeq tail76 last76) := seq6 _ _ _ _ _ _
theorem toDs_tx : ∀ x : FE, x.toDs.length ≤ x.tx.length + 1
  | .one i => Nat.le_add_left _ _
  | .cons i r => by
    have := toDs_tx r
    show (i.toD :: r.toDs).length ≤ (i.tx ++ 32 :: r.tx).length + 1
    rw [List.length_cons, List.length_append, List.length_cons]
    omega
section
variable {y bk g fd ow : Addr} {nms : List (List Nat)} (hn : ∀ w ∈ nms, NmOk w) (n1 : 1 ≤ nms.length) (n48 : nms.length ≤ 48)
include hn n1 n48
theorem two_ok {es : List BE} {k : Nat} {l : LH} (W : W76 l y bk g fd ow nms es k) (hk : k < 2 ^ 30) {w : List Nat} (hw : w ∈ nms) {x : FE} (dx : Drawn nms x) {E : DEnds} {e0 e1 e3 e4 e7 e8 e10 e12 e13 e14 e15 : Option D}
    (h : ∀ l' es' k' e12 e13 e14, k ≤ k' → k' ≤ k + 2 → W76 l' y bk g fd ow nms es' k' → E.nx [e0, e1, some (.ref y), e3, e4, some (.ref bk), some (.ref ow), e7, e8, some (.str (Sx w)), e10, some x.toD, e12, e13, e14, e15] l') :
    two76 E [e0, e1, some (.ref y), e3, e4, some (.ref bk), some (.ref ow), e7, e8, some (.str (Sx w)), e10, some x.toD, e12, e13, e14, e15] l := by
  rw [two_eq, seq_at]
  refine let_ok hn n48 W hw dx fun l1 es1 R W1 good => ?_
  show sSeq tail76 last76 E _ l1
  rw [seq_at]
  refine tail_ok W1 fun e13 => ?_
  dsimp only
  exact last_ok hn n1 n48 W1 hk hw dx (fun p e => by
    obtain ⟨e1, g⟩ := good p e
    rw [e1]
    exact g) fun l' es' k' e12 e14 k1 k2 W' => h l' es' k' e12 e13 e14 k1 k2 W'
theorem mid_ok {es : List BE} {k : Nat} {l : LH} (W : W76 l y bk g fd ow nms es k) (hk : k + 40 < 2 ^ 28) {r : Nat} (hr : r < nms.length) {w : List Nat} (hw : w ∈ nms) {E : DEnds} {e0 e1 e7 e10 e11 e12 e13 e14 e15 : Option D}
    (h : ∀ l' es' k' e10 e11 e12 e13 e14, k ≤ k' → k' ≤ k + 30 → W76 l' y bk g fd ow nms es' k' → E.nx [e0, e1, some (.ref y), some (.int (nms.length : Nat)), some (.lst (nmD nms)), some (.ref bk), some (.ref ow), e7, some (.int (r : Nat)), some (.str (Sx w)), e10, e11, e12, e13, e14, e15] l') :
    mid76 E [e0, e1, some (.ref y), some (.int (nms.length : Nat)), some (.lst (nmD nms)), some (.ref bk), some (.ref ow), e7, some (.int (r : Nat)), some (.str (Sx w)), e10, e11, e12, e13, e14, e15] l := by
  walk_at "w"
  generalize ha : (if (nms.length : Int) - 6 < (r : Int) - 2 then (nms.length : Int) - 6 else (r : Int) - 2) = a
  have al : a < nms.length := by rw [← ha]; split <;> omega
  obtain ⟨j, hj, jl⟩ : ∃ j : Nat, (if a > 0 then a else 0) = (j : Int) ∧ j < nms.length := by
    by_cases c : a > 0
    · rw [if_pos c]; exact ⟨a.toNat, by omega, by omega⟩
    · rw [if_neg c]; exact ⟨0, rfl, by omega⟩
  rw [hj, show ((j : Int) + 6) = ((j + 6 : Nat) : Int) by omega]
  obtain ⟨ns, hc, hs, ns1, ns2⟩ := cut_nm jl (show j < j + 6 by omega)
  rw [hc]
  refine c_formula (by decide) (by decide) (fun w hw => hn w (hs w hw)) ns1 (by omega) W.B (by omega) fun x k1 l1 fx B1 k01 k02 f1 => ?_
  have W1 := W.mv B1 f1
  walk_at "w"
  refine c_take W1.B (by decide) (by decide) (by omega) fun t l2 t0 t1 B2 o2 => ?_
  have W2 := W1.mv B2 fun z u hz h => (o2 z hz).trans h
  walk_at "w"
  refine ⟨(okN_int _).ok, (okN_int _).ok, ?_⟩
  refine ifB_by (fun _ => ?_) (fun _ => ?_)
  · walk_at "w"
    refine ⟨_, atI_nat (j := 1) rfl, ?_⟩
    walk_at "w"
    refine ⟨Nat.le_of_ble_eq_true rfl, ?_⟩
    walk_at "w"
    refine ⟨Nat.le_of_ble_eq_true rfl, ?_⟩
    walk_at "w"
    have tl := toDs_tx x
    have xl := fx.ln
    refine ⟨by refine small ?_; show x.toDs.length + 1 ≤ 100000; omega, ?_⟩
    refine ⟨Nat.le_of_ble_eq_true rfl, ?_⟩
    have e : D.tup [.str "items", .tup (x.toDs ++ [.tup [.str "name", .str (Sx w)]])] = (x.snoc (.pl (.nam w))).toD := by unfold FE.toD; rw [snoc_toDs]; rfl
    have := two_ok hn n1 n48 W2 (by omega) hw (fx.snoc hs hw (hn w hw)) (E := E) (e0 := e0) (e1 := e1) (e3 := some (.int (nms.length : Nat))) (e4 := some (.lst (nmD nms))) (e7 := e7) (e8 := some (.int (r : Nat))) (e10 := some (.int (j : Nat))) (e12 := e12) (e13 := e13) (e14 := e14) (e15 := e15) fun l' es' k' e12 e13 e14 k1 k2 W' => h l' es' k' _ _ e12 e13 e14 (by omega) (by omega) W'
    rw [← e] at this
    exact this
  · unfold sNext
    dsimp only
    exact two_ok hn n1 n48 W2 (by omega) hw (fx.drawn hs) fun l' es' k' e12 e13 e14 k1 k2 W' => h l' es' k' _ _ e12 e13 e14 (by omega) (by omega) W'
theorem turn76 {e0 e1 : Option D} {E : DEnds} (hE : ∀ (env : DSt) (l : LH), E.nx env l) : ∀ (n : Nat) {j : Int} {es : List BE} {k : Nat} {l : LH} {e7 e8 e9 e10 e11 e12 e13 e14 e15 : Option D}, k + 100 * n < 2 ^ 26 → W76 l y bk g fd ow nms es k →
    forL (gName 7) (nS B_law_1) (rgD j n) E [e0, e1, some (.ref y), some (.int (nms.length : Nat)), some (.lst (nmD nms)), some (.ref bk), some (.ref ow), e7, e8, e9, e10, e11, e12, e13, e14, e15] l
  | 0, j, es, k, l, e7, e8, e9, e10, e11, e12, e13, e14, e15, hk, W => hE _ _
  | n + 1, j, es, k, l, e7, e8, e9, e10, e11, e12, e13, e14, e15, hk, W => by
    rw [rgD_succ]
    refine ⟨?_⟩
    walk_at "w"
    refine c_take W.B (by omega) (by omega) (by omega) fun r l2 r0 r1 B2 o2 => ?_
    obtain ⟨r, rfl⟩ := Int.eq_ofNat_of_zero_le r0
    have r2 : r < nms.length := by omega
    have W2 := W.mv B2 fun z u hz h => (o2 z hz).trans h
    obtain ⟨w, hw⟩ : ∃ w, nms[r]? = some w := ⟨_, List.getElem?_eq_getElem r2⟩
    have atw : atI (nmD nms) (r : Nat) = some (.str (Sx w)) := atI_nat (by unfold nmD; rw [List.getElem?_map, hw]; rfl)
    have wm := List.mem_of_getElem? hw
    have go : ∀ (l3 : LH) (es3 : List BE) (k3 : Nat), W76 l3 y bk g fd ow nms es3 k3 → k ≤ k3 → k3 ≤ k + 2 →
        mid76 ⟨forL (gName 7) (nS B_law_1) (rgD (j + 1) n) E, E.rt, E.nx, forL (gName 7) (nS B_law_1) (rgD (j + 1) n) E⟩ [e0, e1, some (.ref y), some (.int (nms.length : Nat)), some (.lst (nmD nms)), some (.ref bk), some (.ref ow), some (.int j), some (.int (r : Nat)), some (.str (Sx w)), e10, e11, e12, e13, e14, e15] l3 := fun l3 es3 k3 W3 k31 k32 =>
      mid_ok hn n1 n48 W3 (by omega) r2 wm fun l' es' k' e10 e11 e12 e13 e14 k1 k2 W' => turn76 hE n (by omega) W'
    walk_at "w"
    refine ⟨_, atw, ?_⟩
    walk_at "w"
    refine ⟨_, W2.O, _, rfl, ?_⟩
    dsimp only
    rw [getA_b, Option.isSome_map, bGet_some]
    by_cases hm : w ∈ bNm es
    · rw [decide_eq_true hm]
      refine ifB_true ?_
      walk_at "w"
      refine c_take W2.B (by decide) (by decide) (by omega) fun t l3 t0 t1 B3 o3 => ?_
      have W3 := W2.mv B3 fun z u hz h => (o3 z hz).trans h
      walk_at "w"
      refine ⟨(okN_int _).ok, (okN_int _).ok, ?_⟩
      refine ifB_by (fun _ => ?_) (fun _ => ?_)
      · refine drop_ok9 hn n1 n48 W3 hm fun l4 W4 => ?_
        exact go l4 _ _ W4 (by omega) (by omega)
      · exact go l3 _ _ W3 (by omega) (by omega)
    · rw [decide_eq_false hm]
      refine ifB_false ?_
      refine ifB_false ?_
      exact go l2 _ _ W2 (by omega) (by omega)
end

end Law

namespace Law
open PySem PySem.Spec PyProof.Rows L2 DL
local macro_rules | `(tactic| walk_at "w") => `(tactic| conv => whnf)
local macro_rules | `(tactic| walk_at "s") => `(tactic| (refine ⟨?_⟩; conv => whnf))
local macro_rules | `(tactic| walk_at "z") => `(tactic| (refine small ?_; simp only [List.length_map, List.length_append, List.length_reverse, List.length_cons, List.length_nil]; omega))
local macro_rules | `(tactic| walk_at "q") => `(tactic| (refine ⟨(okN_tints _).ok, (okN_tints _).ok, ?_⟩; rw [eqD_tints]))
theorem sub_oth {l l' : LH} {y : Addr} (ny : l y = none) (o : Oth l l' y) : ∀ z u, l z = some u → l' z = some u := fun z u h => by
  have ne : z ≠ y := fun e => by rw [e, ny] at h; cases h
  exact (o z ne).trans h
theorem sub_new {l : LH} {y : Addr} {v : DO} (ny : l y = none) : ∀ z u, l z = some u → uL l y v z = some u := fun z u h => by
  have ne : z ≠ y := fun e => by rw [e, ny] at h; cases h
  exact (uL_ne ne).trans h
theorem law_true (ns : List Int) (hl : ns.length ≤ 63) : D_law [.scr ns] (fun _ => none) fun d _ => d = .bl true := by
  refine ⟨rfl, ?_⟩
  walk_at "w"
  refine c_folded ns 2 (by decide) (by decide) hl _ _ fun cs hc => ?_
  walk_at "w"
  walk_at "s"
  refine c_box cs 0 _ _ (by decide) (by decide) fun x l1 nx B1 o1 => ?_
  walk_at "w"
  walk_at "s"
  refine c_take B1 (by decide) (by decide) (by decide) fun r l2 r0 r1 B2 o2 => ?_
  walk_at "w"
  have go : ∀ (n k : Nat) (l2 : LH), 2 ≤ n → n ≤ 30 → Box l2 x k → k ≤ 5 → nS T_law_4 ⟨fun _ _ => D.non = .bl true, fun d _ => d = .bl true, fun _ _ => False, fun _ _ => False⟩ [some (.scr ns), some (.lst (cs.map D.int)), some (.ref x), some (.int (n : Nat)), none, none, none, none, none, none, none, none, none, none, none, none] l2 := by
    intro n k l2 n2 n30 B2 hk
    refine ⟨?_⟩
    walk_at "w"
    refine c_names (by omega) B2 (by omega) fun nms k4 l4 nu nz nl nok B4 k41 k42 o4 => ?_
    walk_at "w"
    refine ⟨?_⟩
    walk_at "w"
    intro g ng
    refine c_Ground_init2 (a := 2) (d := 2) (by unfold OkG; decide) ng fun b c l6 GA s6 bb cc => ⟨rfl, ?_⟩
    walk_at "w"
    intro bk nbk
    refine c_Book_init fun fd l7 nfd fb hk7 hf7 f7 => ⟨rfl, ?_⟩
    have s7 : DL.Sub l6 l7 := fun z o h => by
      rw [f7 z (fun e => by rw [e, nbk] at h; cases h) (fun e => by rw [e, nfd] at h; cases h)]
      exact h
    walk_at "w"
    intro ow now
    have s8 : DL.Sub l7 (uL l7 ow (.dK [] [])) := fun z o h => sub_new now z o h
    have of : ow ≠ fd := fun e => by rw [e, hf7] at now; cases now
    have B8 := Box.sub s8 (Box.sub s7 (Box.sub s6 B4))
    have W : W76 (uL l7 ow (.dK [] [])) x bk g fd ow nms [] k4 := ⟨B8, ⟨s8 _ _ hk7, s8 _ _ hf7⟩, uL_same, ⟨fun e h => (by cases h), List.nodup_nil, Nat.zero_le _⟩, fun e h => (by cases h), fun e h => (by cases h), ⟨_, _, _, _, s8 _ _ (s7 _ _ GA.g)⟩, of⟩
    generalize uL l7 ow (.dK [] []) = l8 at W
    walk_at "w"
    refine ⟨Nat.le_of_ble_eq_true rfl, rfl, ?_⟩
    walk_at "w"
    refine ⟨?_⟩
    walk_at "w"
    refine c_box cs 1 _ _ (by decide) (by decide) fun y l10 ny B10 o10 => ?_
    have s10 := fun z u h => sub_oth ny o10 z u h
    have W10 : W76 l10 y bk g fd ow nms [] 0 := ⟨B10, ⟨s10 _ _ W.K.k, s10 _ _ W.K.f⟩, s10 _ _ W.O, W.E, W.d, W.R, W.G.mv fun o h => s10 _ _ h, of⟩
    walk_at "w"
    refine ⟨?_⟩
    walk_at "w"
    refine c_take W10.B (by decide) (by decide) (by omega) fun t1 l12 t10 t11 B12 o12 => ?_
    have W12 := W10.mv B12 fun z u hz h => (o12 z hz).trans h
    obtain ⟨t1, rfl⟩ := Int.eq_ofNat_of_zero_le t10
    walk_at "w"
    refine ⟨⟨by omega, by omega⟩, ?_⟩
    subst nl
    rw [show Int.toNat (12 + (t1 : Int)) = 12 + t1 by omega]
    exact turn76 nok (by omega) (by omega) (fun env l => by refine ⟨?_⟩; rfl) (12 + t1) (by omega) W12
  refine ⟨(okN_int _).ok, (okN_int _).ok, ?_⟩
  refine ifB_by (fun _ => ?_) (fun _ => ?_)
  · exact go 30 _ _ (by decide) (by decide) B2 (by decide)
  · walk_at "w"
    refine c_take B2 (by decide) (by decide) (by decide) fun n l3 n0 n1 B3 o3 => ?_
    obtain ⟨n, rfl⟩ := Int.eq_ofNat_of_zero_le n0
    walk_at "w"
    rw [show (2 : Int) + (n : Int) = ((2 + n : Nat) : Int) by omega]
    exact go (2 + n) _ _ (by omega) (by omega) B3 (by decide)

end Law

open PySem PySem.W PyProof.Rows
namespace Law
abbrev hR : OpenRow := OpenLaw.row PySem.Challenge.rw_bracketwords_k76_rings_of_names
abbrev hQ : Program := PySem.W.view hR.prog [93]
def hL0 : List PySem.Str := ["_wall", "BracketError", "NoGround", "NoPlace", "TooLong", "NoRules", "NoPut", "BadText", "NoLetter", "NoName", "TooGreat", "BadName", "Ring", "BadRow", "chosen", "bare_series", "unit_series", "letter_series", "without_noughts", "scaled_row", "add_words", "add_joined", "many_words", "series_joined", "series_added", "is_bare", "powers_of", "raised_by_powers", "part_of", "series_raised"]
def hL1 : List PySem.Str := ["bracket_part", "series_of_row", "row_of_series", "LETTER_SIGNS", "SMALL_SIGNS", "FIGURE_SIGNS", "MOST_NAME", "MOST_FIGURES", "MOST_NESTED", "is_among", "Reading", "is_name", "read_tree", "atom_text", "item_text", "tree_text", "leaves_of", "names_in", "MOST_SIZE", "LIGHT_SIZE", "look_letters", "look_names", "is_great_row", "look_series", "items_series", "bracket_series", "series_in", "row_in", "Book", "turns"]
def hL2 : List PySem.Str := ["is_turnword", "next_turnword", "turnwords", "turnwords_turning", "halves", "MOST_LETTERS", "MOST_DEPTH", "MOST_BOTH", "longer_words", "Ground", "_law_box", "_law_take", "_law_folded", "_law_same", "_law_names", "_law_formula", "_law_text", "_law_item_text", "_law_parts", "_law_own", "_law_all", "_law_ring", "_law_let"]
def hL : List PySem.Str := hL0 ++ hL1 ++ hL2
theorem map3 {α β γ δ : Type} {x : Option α} {f : α → β} {g : α → γ} {h : α → δ} {a : β} {b : γ} {c : δ} (h1 : x.map f = some a) (h2 : x.map g = some b) (h3 : x.map h = some c) : x.map (fun s => (f s, g s, h s)) = some (a, b, c) := by
  cases x with
  | none => cases h1
  | some v => cases h1; cases h2; cases h3; rfl
theorem runA (w : World) (os : OsState) : (HeadRun.endF (HeadRun.stepQ (HeadRun.denQ HeadRun.tabQ) hR.prog w) 20000 hR.prog w os).map (fun s => HeadRun.looksF hR.prog (boot_heap w.params) s.abs) = some true := by kernel_rfl
theorem runB (w : World) (os : OsState) : (HeadRun.endF (HeadRun.stepQ (HeadRun.denQ HeadRun.tabQ) hR.prog w) 20000 hR.prog w os).map (fun s => HeadRun.seenQ hQ hL (importedModules hR.prog.main.body) (fun s => xlAt hQ [] s && recOk hR.toRowW.records s) s.abs) = some (openGood hQ hL) := by kernel_rfl
end Law
local macro_rules
  | `(tactic| o_headL $H) => `(tactic| (refine PySem.W.holds_open (r := Law.hR) (q := Law.hQ) (loose := Law.hL) (Xt := fun s => xlAt Law.hQ [] s && recOk Law.hR.toRowW.records s) (XP := XL Law.hQ []) (Yf := Hook.obs $H) (Ya := Hook.val $H) (YP := Hook.says $H) (N := 20700) ?_ (Hook.of $H) (Hook.keeps $H) (fun s e => xl_of s (Bool.and_eq_true_iff.mp e).1) XL.keeps (by rfl) (by rfl) (by rfl) (fun s e => recFacts_of (Bool.and_eq_true_iff.mp e).2) (by rfl) (by first | assumption | decide +kernel) (by decide +kernel) ⟨rfl, rfl, rfl, rfl, rfl, by decide +kernel⟩ ?_ ?_))
set_option maxHeartbeats 0 in
theorem PySem.Challenge.cw_bracketwords_k76_rings_of_names_holds : PySem.Challenge.rw_bracketwords_k76_rings_of_names.Holds := by
  w_on; o_law; k_headL
  · refine HeadRun.left_oneK (M := 20000) (by kernel_rfl) (by rfl) (fun s => by kernel_rfl) (by rfl) ?_
    intro w os
    refine Law.map3 (Law.runA w os) (Law.runB w os) ?_
    kernel_rfl
  · w_witness2
  k_fill
  refine DL.walk_ofG (l := PySem.Challenge.rw_bracketwords_k76_rings_of_names) (n := 63) (k := 106) (x := "_law_script") (dsp := Law.D_law) rfl (by decide) rfl ⟨rfl, by decide, by decide⟩ (fun w h Y => PySem.W.kIn_of Y) ?F (fun ns hl => Law.law_true ns hl)
  case F =>
    intro w mg fa h KX G hmg
    refine' Law.all_mk KX G hmg ?ca0 ?cp0 ?ch0 ?co0 ?cs0 ?cm0 ?ck0 ?cn0x0 ?cn0x1 ?ca1 ?cp1 ?ch1 ?co1 ?cs1 ?cm1 ?ck1 ?cn1x0 ?cn1x1 ?cn1x2 ?cn1x3 ?cn1x4 ?ca2 ?cp2 ?ch2 ?co2 ?cs2 ?cm2 ?ck2 ?cn2x0 ?cn2x1 ?cn2x2 ?xa0 ?xa1 ?xa2 ?xa3 ?xa4 ?xa5 ?xa6 ?xa7 ?xa8 ?xa9 ?xa10 ?xa11 ?xa12 ?xr0 ?xk0 ?xs0 ?xt0 ?ib0 ?ic0 ?id0 ?ie0 ?if0 ?ig0 ?ih0 ?ib1 ?ic1 ?id1 ?ie1 ?if1 ?ig1 ?ih1 ?ib2 ?ic2 ?id2 ?ie2 ?if2 ?ig2 ?ih2 ?ib3 ?ic3 ?id3 ?ie3 ?if3 ?ig3 ?ih3 ?ib4 ?ic4 ?id4 ?ie4 ?if4 ?ig4 ?ih4 ?ib5 ?ic5 ?id5 ?ie5 ?if5 ?ig5 ?ih5 ?xm0 ?xm1 ?xm2 ?xm3 ?xm4 ?xm5 ?xi0 ?xi1 ?xi2 ?xi3 ?xi4 ?xi5 ?xi6 ?xi7 ?xi8 ?xi9 ?xi10 ?xi11 ?xi12 ?xi13 ?xi14 ?xi15 ?xi16 ?xi17 ?wa0 ?wb0 ?wc0 ?wd0 ?we0 ?wf0 ?wg0 ?wh0 ?wi0 ?wj0 ?wk0 ?wa1 ?wb1 ?wc1 ?wd1 ?we1 ?wf1 ?wg1 ?wh1 ?wi1 ?wj1 ?wk1 ?wa2 ?wb2 ?wc2 ?wd2 ?we2 ?wf2 ?wg2 ?wh2 ?wi2 ?wj2 ?wk2 ?wa3 ?wb3 ?wc3 ?wd3 ?we3 ?wf3 ?wg3 ?wh3 ?wi3 ?wj3 ?wk3 ?cra ?crb ?crc ?va0 ?vb0 ?vc0 ?vd0 ?ve0 ?a0 ?l0 ?c0 ?k0 ?a1 ?l1 ?c1 ?k1 ?a2 ?l2 ?c2 ?k2 ?a3 ?l3 ?c3 ?k3 ?a4 ?i4 ?l4 ?c4 ?k4 ?a5 ?l5 ?c5 ?k5 ?a6 ?l6 ?c6 ?k6 ?a7 ?i7 ?l7 ?c7 ?k7 ?a8 ?i8 ?l8 ?c8 ?k8 ?a9 ?i9 ?l9 ?c9 ?k9 ?a10 ?l10 ?c10 ?k10 ?a11 ?l11 ?c11 ?k11 ?a12 ?l12 ?c12 ?k12 ?a13 ?l13 ?c13 ?k13 ?a14 ?l14 ?c14 ?k14 ?a15 ?l15 ?c15 ?k15 ?a16 ?i16 ?l16 ?c16 ?k16 ?a17 ?i17 ?l17 ?c17 ?k17 ?a18 ?i18 ?l18 ?c18 ?k18 ?a19 ?i19 ?l19 ?c19 ?k19 ?a20 ?i20 ?l20 ?c20 ?k20 ?a21 ?l21 ?c21 ?k21 ?a22 ?i22 ?l22 ?c22 ?k22 ?a23 ?i23 ?l23 ?c23 ?k23 ?a24 ?i24 ?l24 ?c24 ?k24 ?a25 ?i25 ?l25 ?c25 ?k25 ?a26 ?i26 ?l26 ?c26 ?k26 ?a27 ?i27 ?l27 ?c27 ?k27 ?a28 ?l28 ?c28 ?k28 ?a29 ?l29 ?c29 ?k29 ?a30 ?i30 ?l30 ?c30 ?k30 ?a31 ?l31 ?c31 ?k31 ?a32 ?l32 ?c32 ?k32 ?a33 ?i33 ?l33 ?c33 ?k33 ?a34 ?i34 ?l34 ?c34 ?k34 ?a35 ?i35 ?l35 ?c35 ?k35 ?a36 ?l36 ?c36 ?k36 ?a37 ?l37 ?c37 ?k37 ?a38 ?l38 ?c38 ?k38 ?a39 ?l39 ?c39 ?k39 ?a40 ?l40 ?c40 ?k40 ?a41 ?l41 ?c41 ?k41 ?a42 ?i42 ?l42 ?c42 ?k42 ?a43 ?i43 ?l43 ?c43 ?k43 ?a44 ?l44 ?c44 ?k44 ?y0 ?v0 ?v1 ?v2 ?v3 ?v4 ?v5 ?v6 ?v7 ?v8 ?z0 ?z1 ?z2 ?z3 ?z4 ?z5 ?z6 ?z7 ?z8 ?z9 ?z10 ?z11 ?z12 ?z13 ?z14 ?z15 ?z16 ?z17 ?z18
    (case ca0 => k_is); (case cp0 => k_is); (case ch0 => k_is); (case co0 => k_is); (case cs0 => k_is); (case cm0 => k_is); (case ck0 => k_is); (case cn0x0 => k_is); (case cn0x1 => k_is); (case ca1 => k_is); (case cp1 => k_is); (case ch1 => k_is); (case co1 => k_is); (case cs1 => k_is); (case cm1 => k_is); (case ck1 => k_is); (case cn1x0 => k_is); (case cn1x1 => k_is); (case cn1x2 => k_is); (case cn1x3 => k_is); (case cn1x4 => k_is); (case ca2 => k_is); (case cp2 => k_is); (case ch2 => k_is); (case co2 => k_is); (case cs2 => k_is); (case cm2 => k_is); (case ck2 => k_is); (case cn2x0 => k_is); (case cn2x1 => k_is); (case cn2x2 => k_is); (case xa0 => k_is); (case xa1 => k_is); (case xa2 => k_is); (case xa3 => k_is); (case xa4 => k_is); (case xa5 => k_is); (case xa6 => k_is); (case xa7 => k_is); (case xa8 => k_is); (case xa9 => k_is); (case xa10 => k_is); (case xa11 => k_is); (case xa12 => k_is); (case xr0 => k_exc); (case xk0 => k_is); (case xs0 => k_is); (case xt0 => k_is); (case ib0 => k_is); (case ic0 => k_is); (case id0 => k_is); (case ie0 => k_is); (case if0 => k_is); (case ig0 => k_is); (case ih0 => k_is); (case ib1 => k_is); (case ic1 => k_is); (case id1 => k_is); (case ie1 => k_is); (case if1 => k_is); (case ig1 => k_is); (case ih1 => k_is); (case ib2 => k_is); (case ic2 => k_is); (case id2 => k_is); (case ie2 => k_is); (case if2 => k_is); (case ig2 => k_is); (case ih2 => k_is); (case ib3 => k_is); (case ic3 => k_is); (case id3 => k_is); (case ie3 => k_is); (case if3 => k_is); (case ig3 => k_is); (case ih3 => k_is); (case ib4 => k_is); (case ic4 => k_is); (case id4 => k_is); (case ie4 => k_is); (case if4 => k_is); (case ig4 => k_is); (case ih4 => k_is); (case ib5 => k_is); (case ic5 => k_is); (case id5 => k_is); (case ie5 => k_is); (case if5 => k_is); (case ig5 => k_is); (case ih5 => k_is); (case xm0 => kts_exm); (case xm1 => kts_exm); (case xm2 => kts_exm); (case xm3 => kts_exm); (case xm4 => kts_exm); (case xm5 => kts_exm); (case xi0 => kit_is); (case xi1 => kit_is); (case xi2 => kit_is); (case xi3 => kit_is); (case xi4 => kit_is); (case xi5 => kit_is); (case xi6 => kit_is); (case xi7 => kit_is); (case xi8 => kit_is); (case xi9 => kit_is); (case xi10 => kit_is); (case xi11 => kit_is); (case xi12 => kit_is); (case xi13 => kit_is); (case xi14 => kit_is); (case xi15 => kit_is); (case xi16 => kit_is); (case xi17 => kit_is); (case wa0 => k_is); (case wb0 => k_is); (case wc0 => k_is); (case wd0 => k_is); (case we0 => k_is); (case wf0 => k_is); (case wg0 => k_is); (case wh0 => k_is); (case wi0 => k_is); (case wj0 => k_is); (case wk0 => k_is); (case wa1 => k_is); (case wb1 => k_is); (case wc1 => k_is); (case wd1 => k_is); (case we1 => k_is); (case wf1 => k_is); (case wg1 => k_is); (case wh1 => k_is); (case wi1 => k_is); (case wj1 => k_is); (case wk1 => k_is); (case wa2 => k_is); (case wb2 => k_is); (case wc2 => k_is); (case wd2 => k_is); (case we2 => k_is); (case wf2 => k_is); (case wg2 => k_is); (case wh2 => k_is); (case wi2 => k_is); (case wj2 => k_is); (case wk2 => k_is); (case wa3 => k_is); (case wb3 => k_is); (case wc3 => k_is); (case wd3 => k_is); (case we3 => k_is); (case wf3 => k_is); (case wg3 => k_is); (case wh3 => k_is); (case wi3 => k_is); (case wj3 => k_is); (case wk3 => k_is); (case cra => k_is); (case crb => k_is); (case crc => k_is); (case va0 => k_is); (case vb0 => k_is); (case vc0 => k_is); (case vd0 => k_is); (case ve0 => k_is); (case a0 => k_is); (case l0 => k_is); (case c0 => k_is); (case k0 => k_is); (case a1 => k_is); (case l1 => k_is); (case c1 => k_is); (case k1 => k_is); (case a2 => k_is); (case l2 => k_is); (case c2 => k_is); (case k2 => k_is); (case a3 => k_is); (case l3 => k_is); (case c3 => k_is); (case k3 => k_is); (case a4 => k_is); (case i4 => k_is); (case l4 => k_is); (case c4 => k_is); (case k4 => k_is); (case a5 => k_is); (case l5 => k_is); (case c5 => k_is); (case k5 => k_is); (case a6 => k_is); (case l6 => k_is); (case c6 => k_is); (case k6 => k_is); (case a7 => k_is); (case i7 => k_is); (case l7 => k_is); (case c7 => k_is); (case k7 => k_is); (case a8 => k_is); (case i8 => k_is); (case l8 => k_is); (case c8 => k_is); (case k8 => k_is); (case a9 => k_is); (case i9 => k_is); (case l9 => k_is); (case c9 => k_is); (case k9 => k_is); (case a10 => k_is); (case l10 => k_is); (case c10 => k_is); (case k10 => k_is); (case a11 => k_is); (case l11 => k_is); (case c11 => k_is); (case k11 => k_is); (case a12 => k_is); (case l12 => k_is); (case c12 => k_is); (case k12 => k_is); (case a13 => k_is); (case l13 => k_is); (case c13 => k_is); (case k13 => k_is); (case a14 => k_is); (case l14 => k_is); (case c14 => k_is); (case k14 => k_is); (case a15 => k_is); (case l15 => k_is); (case c15 => k_is); (case k15 => k_is); (case a16 => k_is); (case i16 => k_is); (case l16 => k_is); (case c16 => k_is); (case k16 => k_is); (case a17 => k_is); (case i17 => k_is); (case l17 => k_is); (case c17 => k_is); (case k17 => k_is); (case a18 => k_is); (case i18 => k_is); (case l18 => k_is); (case c18 => k_is); (case k18 => k_is); (case a19 => k_is); (case i19 => k_is); (case l19 => k_is); (case c19 => k_is); (case k19 => k_is); (case a20 => k_is); (case i20 => k_is); (case l20 => k_is); (case c20 => k_is); (case k20 => k_is); (case a21 => k_is); (case l21 => k_is); (case c21 => k_is); (case k21 => k_is); (case a22 => k_is); (case i22 => k_is); (case l22 => k_is); (case c22 => k_is); (case k22 => k_is); (case a23 => k_is); (case i23 => k_is); (case l23 => k_is); (case c23 => k_is); (case k23 => k_is); (case a24 => k_is); (case i24 => k_is); (case l24 => k_is); (case c24 => k_is); (case k24 => k_is); (case a25 => k_is); (case i25 => k_is); (case l25 => k_is); (case c25 => k_is); (case k25 => k_is); (case a26 => k_is); (case i26 => k_is); (case l26 => k_is); (case c26 => k_is); (case k26 => k_is); (case a27 => k_is); (case i27 => k_is); (case l27 => k_is); (case c27 => k_is); (case k27 => k_is); (case a28 => k_is); (case l28 => k_is); (case c28 => k_is); (case k28 => k_is); (case a29 => k_is); (case l29 => k_is); (case c29 => k_is); (case k29 => k_is); (case a30 => k_is); (case i30 => k_is); (case l30 => k_is); (case c30 => k_is); (case k30 => k_is); (case a31 => k_is); (case l31 => k_is); (case c31 => k_is); (case k31 => k_is); (case a32 => k_is); (case l32 => k_is); (case c32 => k_is); (case k32 => k_is); (case a33 => k_is); (case i33 => k_is); (case l33 => k_is); (case c33 => k_is); (case k33 => k_is); (case a34 => k_is); (case i34 => k_is); (case l34 => k_is); (case c34 => k_is); (case k34 => k_is); (case a35 => k_is); (case i35 => k_is); (case l35 => k_is); (case c35 => k_is); (case k35 => k_is); (case a36 => k_is); (case l36 => k_is); (case c36 => k_is); (case k36 => k_is); (case a37 => k_is); (case l37 => k_is); (case c37 => k_is); (case k37 => k_is); (case a38 => k_is); (case l38 => k_is); (case c38 => k_is); (case k38 => k_is); (case a39 => k_is); (case l39 => k_is); (case c39 => k_is); (case k39 => k_is); (case a40 => k_is); (case l40 => k_is); (case c40 => k_is); (case k40 => k_is); (case a41 => k_is); (case l41 => k_is); (case c41 => k_is); (case k41 => k_is); (case a42 => k_is); (case i42 => k_is); (case l42 => k_is); (case c42 => k_is); (case k42 => k_is); (case a43 => k_is); (case i43 => k_is); (case l43 => k_is); (case c43 => k_is); (case k43 => k_is); (case a44 => k_is); (case l44 => k_is); (case c44 => k_is); (case k44 => k_is); (case y0 => k_is); (case v0 => k_is); (case v1 => k_is); (case v2 => k_is); (case v3 => k_is); (case v4 => k_is); (case v5 => k_is); (case v6 => k_is); (case v7 => k_is); (case v8 => k_is); (case z0 => k_is); (case z1 => k_is); (case z2 => k_is); (case z3 => k_is); (case z4 => k_is); (case z5 => k_is); (case z6 => k_is); (case z7 => k_is); (case z8 => k_is); (case z9 => k_is); (case z10 => k_is); (case z11 => k_is); (case z12 => k_is); (case z13 => k_is); (case z14 => k_is); (case z15 => k_is); (case z16 => k_is); (case z17 => k_is); (case z18 => k_is)
