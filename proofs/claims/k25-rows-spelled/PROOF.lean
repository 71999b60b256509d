import PyProof.Rows.All
import Wide.All
import OpenK.AllK
import Wide.FinOn
import HandS.ForMost
import HandS.Rev
import HandS.Zip
import HandS.IsInst
import HandS.Wide
import HandS.WideBits
import HandS.TupAny
import HandS.TupMul
import HandS.Conv
import HandS.NoneIn
import KE.DataMinMax
import KE.SortData
import HandS.SortKw
import HandS.TupSets
import HandS.Deep
import HandS.DictTup
import HandS.TupLen
import KE.KDictCopyH
import KE.KDictKeyed
import KE.DataCmp
import HandS.DictEq
import KE.GoesEnum
import KE.KDictZip
import KE.GoesMore
import HandS.ListItems
import KE.KTurns
import HandS.Style
import KE.DataAny
import HandS.Zip0
import PyProof.ZipIter
import HandS.Exc
import HandS.ExcOwn
import HandS.WordsExc
import HandS.TryElse
import KE.KExcIs
import KE.RegKTryMore
import KE.RegKIsAll
import PySem.Challenge.RW_bracketwords_k25_rows_spelled
set_option Elab.async false
set_option linter.all false
set_option maxRecDepth 100000
set_option maxHeartbeats 4000000
/-! DL: a data layer over HandS. Values as trees, the mutable objects apart, readings that compute. -/
namespace DL
open PySem PySem.Spec PyProof.Rows L2

/-- data: what is never written is a tree, what may be written is an address -/
inductive D where
  | non | bl (b : Bool) | int (i : Int) | str (x : Str)
  | tup (ds : List D) | lst (ds : List D)
  | dT (ks : List (List Key)) (ds : List D) | dK (ks : List Key) (ds : List D)
  | scr (ns : List Int)
  | ref (a : Addr)
  | exc (k : Nat) | exc1 (k : Nat) (d : D)

/-- objects that may be written -/
structure Cl where
  name : Str
  fs : List Str
inductive DO where
  | lst (ds : List D) | dT (ks : List (List Key)) (ds : List D) | dK (ks : List Key) (ds : List D) | ins (c : Cl) (ds : List D)
  | fz (d : D)
def isFz : DO → Bool
  | .fz _ => true
  | _ => false

abbrev LH := Addr → Option DO
def uL (l : LH) (a : Addr) (o : DO) : LH := fun b => if b = a then some o else l b
theorem uL_same {l : LH} {a : Addr} {o : DO} : uL l a o a = some o := by unfold uL; rw [if_pos rfl]
theorem uL_ne {l : LH} {a b : Addr} {o : DO} (h : b ≠ a) : uL l a o b = l b := by unfold uL; rw [if_neg h]
theorem uL_uL {l : LH} {a : Addr} {o u : DO} : uL (uL l a o) a u = uL l a u := by
  funext b; unfold uL; split <;> rfl
def dL (l : LH) (a : Addr) : LH := fun b => if b = a then none else l b

/-- the program's own exceptions, numbered, and the field of each -/
def exNames : List Str := ["BracketError", "NoGround", "NoPlace", "TooLong", "NoRules", "NoPut", "BadText", "NoLetter", "NoName", "TooGreat", "BadName", "Ring", "BadRow"]
def exN (k : Nat) : Str := exNames.getD k "BracketError"
def exF (k : Nat) : Str := ["", "", "", "", "", "", "at", "letter", "name", "", "", "ring", "line"].getD k ""
/-- a caught exception of the class cls, its dict at d -/
def ExH (cls : Value) (d : Option Addr) (a : Addr) : HO := .ext fun h => ∃ (oe : Obj) (vs : Array Value), h.get? a = some oe ∧ oe.cls = cls ∧ oe.dict = d ∧ oe.data = .fields vs
mutual
inductive RelD (K : PySem.W.Frag) (F : Hp) : D → V → Prop
  | non : RelD K F .non .non
  | bl (b : Bool) : RelD K F (.bl b) (.bl b)
  | int (i : Int) : RelD K F (.int i) (.int i)
  | str (x : Str) : RelD K F (.str x) (.str x)
  | ref (a : Addr) : RelD K F (.ref a) (.ref a)
  | tup {p : Addr} {vs : List V} {ds : List D} : F p = some (.tup vs) → RelDs K F ds vs → RelD K F (.tup ds) (.ref p)
  | scr {p : Addr} {ns : List Int} : SqL K F p (ns.map V.int) → RelD K F (.scr ns) (.ref p)
  | lst {p : Addr} {vs : List V} {ds : List D} : F p = some (.lst vs) → RelDs K F ds vs → RelD K F (.lst ds) (.ref p)
  | dT {p : Addr} {od : Obj} {vs : List V} {ks : List (List Key)} {ds : List D} : F p = some (.frz od (.dT (ks.zip vs))) → ks.length = vs.length → RelDs K F ds vs → RelD K F (.dT ks ds) (.ref p)
  | dK {p : Addr} {od : Obj} {vs : List V} {ks : List Key} {ds : List D} : F p = some (.frz od (.dK (ks.zip vs))) → ks.length = vs.length → RelDs K F ds vs → RelD K F (.dK ks ds) (.ref p)
  | exc {p C : Addr} {k : Nat} : PySem.W.nsIn K mainGlobals (exN k) = some (some (.ref C)) → F p = some (ExH (.ref C) none p) → RelD K F (.exc k) (.ref p)
  | exc1 {p C dx : Addr} {k : Nat} {d : D} {v : V} : PySem.W.nsIn K mainGlobals (exN k) = some (some (.ref C)) → F p = some (ExH (.ref C) (some dx) p) → F dx = some (.xd [(exF k, v)]) → RelD K F d v → RelD K F (.exc1 k d) (.ref p)
inductive RelDs (K : PySem.W.Frag) (F : Hp) : List D → List V → Prop
  | nil : RelDs K F [] []
  | cons {d : D} {ds : List D} {v : V} {vs : List V} : RelD K F d v → RelDs K F ds vs → RelDs K F (d :: ds) (v :: vs)
end

section
variable {K : PySem.W.Frag} {F F' F1 F2 H : Hp}
theorem rd_mono (h : Same F F') {a : Addr} {u : HO} : Rd F a u → Rd F' a u
  | .inl e => .inl (h _ _ e)
  | .inr ⟨o, e⟩ => .inr ⟨o, h _ _ e⟩
theorem sqT_mono (h : Same F F') {a : Addr} {xs : List V} : SqT K F a xs → SqT K F' a xs
  | .inl e => .inl (rd_mono h e)
  | .inr e => .inr e
theorem sqL_mono (h : Same F F') {a : Addr} {xs : List V} : SqL K F a xs → SqL K F' a xs
  | .inl e => .inl (rd_mono h e)
  | .inr e => .inr e
mutual
theorem RelD.mono (h : Same F F') : ∀ {d : D} {v : V}, RelD K F d v → RelD K F' d v
  | _, _, .non => .non
  | _, _, .bl b => .bl b
  | _, _, .int b => .int b
  | _, _, .str b => .str b
  | _, _, .ref b => .ref b
  | _, _, .tup a b => .tup (h _ _ a) (RelDs.mono h b)
  | _, _, .scr a => .scr (sqL_mono h a)
  | _, _, .lst a b => .lst (h _ _ a) (RelDs.mono h b)
  | _, _, .dT a e b => .dT (h _ _ a) e (RelDs.mono h b)
  | _, _, .dK a e b => .dK (h _ _ a) e (RelDs.mono h b)
  | _, _, .exc a e => .exc a (h _ _ e)
  | _, _, .exc1 a e f r => .exc1 a (h _ _ e) (h _ _ f) (RelD.mono h r)
theorem RelDs.mono (h : Same F F') : ∀ {ds : List D} {vs : List V}, RelDs K F ds vs → RelDs K F' ds vs
  | _, _, .nil => .nil
  | _, _, .cons a b => .cons (RelD.mono h a) (RelDs.mono h b)
end
theorem RelDs.length : ∀ {ds : List D} {vs : List V}, RelDs K F ds vs → ds.length = vs.length
  | _, _, .nil => rfl
  | _, _, .cons _ b => by rw [List.length_cons, List.length_cons, b.length]
theorem RelDs.get : ∀ {ds : List D} {vs : List V} {i : Nat} {d : D}, RelDs K F ds vs → ds[i]? = some d → ∃ v, vs[i]? = some v ∧ RelD K F d v
  | _, _, _, _, .nil, e => by simp at e
  | _, _, 0, _, .cons r _, e => by simp at e; subst e; exact ⟨_, rfl, r⟩
  | _, _, i + 1, _, .cons _ t, e => by
    obtain ⟨u, h1, h2⟩ := RelDs.get (i := i) t (by simpa using e)
    exact ⟨u, by simpa using h1, h2⟩
theorem RelDs.append : ∀ {ds es : List D} {vs ws : List V}, RelDs K F ds vs → RelDs K F es ws → RelDs K F (ds ++ es) (vs ++ ws)
  | _, _, _, _, .nil, s => s
  | _, _, _, _, .cons r t, s => .cons r (RelDs.append t s)
theorem RelDs.take : ∀ {ds : List D} {vs : List V} (n : Nat), RelDs K F ds vs → RelDs K F (ds.take n) (vs.take n)
  | _, _, 0, _ => .nil
  | _, _, _ + 1, .nil => .nil
  | _, _, n + 1, .cons r t => .cons r (RelDs.take n t)
theorem RelDs.drop : ∀ {ds : List D} {vs : List V} (n : Nat), RelDs K F ds vs → RelDs K F (ds.drop n) (vs.drop n)
  | _, _, 0, r => r
  | _, _, _ + 1, .nil => .nil
  | _, _, n + 1, .cons _ t => RelDs.drop n t
theorem RelDs.set {d : D} {v : V} (r : RelD K F d v) : ∀ {ds : List D} {vs : List V} (i : Nat), RelDs K F ds vs → RelDs K F (ds.set i d) (vs.set i v)
  | _, _, _, .nil => .nil
  | _, _, 0, .cons _ t => .cons r t
  | _, _, i + 1, .cons q t => .cons q (RelDs.set r i t)
theorem RelDs.reverse : ∀ {ds : List D} {vs : List V}, RelDs K F ds vs → RelDs K F ds.reverse vs.reverse
  | _, _, .nil => .nil
  | _, _, .cons r t => by
    rw [List.reverse_cons, List.reverse_cons]
    exact (RelDs.reverse t).append (.cons r .nil)
theorem RelDs.one {d : D} {vs : List V} (h : RelDs K F [d] vs) : ∃ v, vs = [v] ∧ RelD K F d v := by
  cases h with
  | cons a b => cases b; exact ⟨_, rfl, a⟩
theorem RelDs.two {d e : D} {vs : List V} (h : RelDs K F [d, e] vs) : ∃ v u, vs = [v, u] ∧ RelD K F d v ∧ RelD K F e u := by
  cases h with
  | cons a b =>
    obtain ⟨u, rfl, r⟩ := b.one
    exact ⟨_, u, rfl, a, r⟩
theorem RelDs.ints : ∀ {ns : List Int} {vs : List V}, RelDs K F (ns.map D.int) vs → vs = ns.map V.int
  | [], _, .nil => rfl
  | n :: ns, _, .cons a b => by cases a; rw [RelDs.ints b]; rfl
theorem relDs_ints : ∀ (ns : List Int), RelDs K F (ns.map D.int) (ns.map V.int)
  | [] => .nil
  | n :: ns => .cons (.int n) (relDs_ints ns)
theorem RelDs.bls : ∀ {ns : List Bool} {vs : List V}, RelDs K F (ns.map D.bl) vs → vs = ns.map V.bl
  | [], _, .nil => rfl
  | n :: ns, _, .cons a b => by cases a; rw [RelDs.bls b]; rfl
end

theorem tq {K : PySem.W.Frag} {H : Hp} {p : Addr} {vs : List V} (e : H p = some (.tup vs)) : SqT K H p vs := .inl (.inl e)
/-! ### what is held: F never changes, Fr is kept by what runs, l may be written -/
def DOk (K : PySem.W.Frag) (F H : Hp) (a : Addr) : DO → Prop
  | .lst ds => ∃ vs, RelDs K F ds vs ∧ H a = some (.lst vs)
  | .dT ks ds => ∃ vs, RelDs K F ds vs ∧ ks.length = vs.length ∧ H a = some (.dT (ks.zip vs))
  | .dK ks ds => ∃ vs, RelDs K F ds vs ∧ ks.length = vs.length ∧ H a = some (.dK (ks.zip vs))
  | .ins c ds => ∃ C dx vs, RelDs K F ds vs ∧ PySem.W.nsIn K mainGlobals c.name = some (some (.ref C)) ∧ vs.length ≤ c.fs.length ∧ H a = some (.ins C dx (c.fs.zip vs))
  | .fz d => RelD K F d (.ref a) ∧ ∃ u, F a = some u
theorem DOk.mono {K : PySem.W.Frag} {F F' H H' : Hp} {a : Addr} {o : DO} (h : Same F F') (e : H' a = H a) (x : DOk K F H a o) : DOk K F' H' a o := by
  cases o with
  | lst ds => obtain ⟨vs, r, q⟩ := x; exact ⟨vs, r.mono h, e.trans q⟩
  | dT ks ds => obtain ⟨vs, r, n, q⟩ := x; exact ⟨vs, r.mono h, n, e.trans q⟩
  | dK ks ds => obtain ⟨vs, r, n, q⟩ := x; exact ⟨vs, r.mono h, n, e.trans q⟩
  | ins c ds => obtain ⟨C, dx, vs, r, z, n, q⟩ := x; exact ⟨C, dx, vs, r.mono h, z, n, e.trans q⟩
  | fz d => obtain ⟨r, u, q⟩ := x; exact ⟨r.mono h, u, h _ _ q⟩
theorem DOk.there {K : PySem.W.Frag} {F H : Hp} {a : Addr} {o : DO} (s : Same F H) (x : DOk K F H a o) : ∃ u, H a = some u := by
  cases o with
  | lst ds => obtain ⟨vs, r, q⟩ := x; exact ⟨_, q⟩
  | dT ks ds => obtain ⟨vs, r, n, q⟩ := x; exact ⟨_, q⟩
  | dK ks ds => obtain ⟨vs, r, n, q⟩ := x; exact ⟨_, q⟩
  | ins c ds => obtain ⟨C, dx, vs, r, z, n, q⟩ := x; exact ⟨_, q⟩
  | fz d => obtain ⟨r, u, q⟩ := x; exact ⟨_, s _ _ q⟩

def isTupO : HO → Bool
  | .tup _ => true
  | _ => false
structure Rep (K : PySem.W.Frag) (F Fr : Hp) (l : LH) (H : Hp) : Prop where
  fz : Same F H
  fr : Same Fr H
  fd : ∀ a o, Fr a = some o → F a = none ∧ l a = none
  lv : ∀ a o, l a = some o → (isFz o = false → F a = none) ∧ DOk K F H a o
  ft : ∀ a vs, Fr a ≠ some (.tup vs)

section
variable {K : PySem.W.Frag} {F F' F1 F2 Fr H : Hp} {l : LH} {p : Addr}
theorem Rep.F_none (r : Rep K F Fr l H) (n : H p = none) : F p = none := r.fz.free n
theorem Rep.Fr_none (r : Rep K F Fr l H) (n : H p = none) : Fr p = none := r.fr.free n
theorem Rep.l_none (r : Rep K F Fr l H) (n : H p = none) : l p = none := by
  cases q : l p with
  | none => rfl
  | some o =>
    obtain ⟨u, e⟩ := (r.lv p o q).2.there r.fz
    rw [n] at e; cases e
theorem same_upd {H : Hp} {p : Addr} {o : HO} (h : H p = none) : Same H (upd H p o) := fun b x e => by
  rw [upd_ne (ne_of_none e h)]
  exact e
theorem same_upd2 {F H : Hp} {p : Addr} {o : HO} (h : Same F H) : Same (upd F p o) (upd H p o) := fun b x e => by
  by_cases hb : b = p
  · subst hb; rw [upd_same] at e ⊢; exact e
  · rw [upd_ne hb] at e ⊢; exact h b x e
/-- a new object that stays as it is -/
theorem Rep.laid (r : Rep K F Fr l H) (n : H p = none) (o : HO) : Rep K (upd F p o) Fr l (upd H p o) where
  fz := same_upd2 r.fz
  fr := fun b x e => by
    rw [upd_ne (fun z => by subst z; rw [r.Fr_none n] at e; cases e)]
    exact r.fr b x e
  fd := fun b x e => by
    have hb : b ≠ p := fun z => by subst z; rw [r.Fr_none n] at e; cases e
    rw [upd_ne hb]
    exact r.fd b x e
  lv := fun b x e => by
    have hb : b ≠ p := fun z => by subst z; rw [r.l_none n] at e; cases e
    obtain ⟨h1, h2⟩ := r.lv b x e
    rw [upd_ne hb]
    exact ⟨h1, h2.mono (same_upd (r.F_none n)) (upd_ne hb)⟩
  ft := r.ft
/-- a new object that may be written -/
theorem Rep.made (r : Rep K F Fr l H) (n : H p = none) {o : HO} {d : DO} (ok : DOk K F (upd H p o) p d) : Rep K F Fr (uL l p d) (upd H p o) where
  fz := fun b x e => by
    rw [upd_ne (fun z => by subst z; rw [r.F_none n] at e; cases e)]
    exact r.fz b x e
  fr := fun b x e => by
    rw [upd_ne (fun z => by subst z; rw [r.Fr_none n] at e; cases e)]
    exact r.fr b x e
  fd := fun b x e => by
    have hb : b ≠ p := fun z => by subst z; rw [r.Fr_none n] at e; cases e
    rw [uL_ne hb]
    exact r.fd b x e
  lv := fun b x e => by
    by_cases hb : b = p
    · subst hb; rw [uL_same] at e; cases e; exact ⟨fun _ => r.F_none n, ok⟩
    · rw [uL_ne hb] at e
      obtain ⟨h1, h2⟩ := r.lv b x e
      exact ⟨h1, h2.mono (fun _ _ q => q) (upd_ne hb)⟩
  ft := r.ft
/-- an object that may be written is -/
theorem Rep.write (r : Rep K F Fr l H) {a : Addr} {o : DO} (h : l a = some o) (nf : isFz o = false) {u : HO} {d : DO} (ok : DOk K F (upd H a u) a d) : Rep K F Fr (uL l a d) (upd H a u) where
  fz := fun b x e => by
    rw [upd_ne (fun z => by subst z; rw [(r.lv b o h).1 nf] at e; cases e)]
    exact r.fz b x e
  fr := fun b x e => by
    rw [upd_ne (fun z => by subst z; rw [(r.fd b x e).2] at h; cases h)]
    exact r.fr b x e
  fd := fun b x e => by
    have hb : b ≠ a := fun z => by subst z; rw [(r.fd b x e).2] at h; cases h
    rw [uL_ne hb]
    exact r.fd b x e
  lv := fun b x e => by
    by_cases hb : b = a
    · subst hb; rw [uL_same] at e; cases e; exact ⟨fun _ => (r.lv b o h).1 nf, ok⟩
    · rw [uL_ne hb] at e
      obtain ⟨h1, h2⟩ := r.lv b x e
      exact ⟨h1, h2.mono (fun _ _ q => q) (upd_ne hb)⟩
  ft := r.ft
theorem DOk.up {F : Hp} {ds : List D} {vs : List V} (r : RelDs K F ds vs) : DOk K F (upd H p (.lst vs)) p (.lst ds) := ⟨vs, r, upd_same⟩
/-- an own object that is kept by what runs: taken up -/
theorem Rep.take (r : Rep K F Fr l H) (n : H p = none) (o : HO) (ho : isTupO o = false := by rfl) : Rep K F (upd Fr p o) l (upd H p o) where
  fz := fun b x e => by
    rw [upd_ne (fun z => by subst z; rw [r.F_none n] at e; cases e)]
    exact r.fz b x e
  fr := same_upd2 r.fr
  fd := fun b x e => by
    by_cases hb : b = p
    · subst hb; exact ⟨r.F_none n, r.l_none n⟩
    · rw [upd_ne hb] at e; exact r.fd b x e
  lv := fun b x e => by
    have hb : b ≠ p := fun z => by subst z; rw [r.l_none n] at e; cases e
    obtain ⟨h1, h2⟩ := r.lv b x e
    exact ⟨h1, h2.mono (fun _ _ q => q) (upd_ne hb)⟩
  ft := fun b vs e => by
    by_cases hb : b = p
    · subst hb; rw [upd_same] at e; cases e; cases ho
    · rw [upd_ne hb] at e; exact r.ft b vs e
theorem Rep.turn (r : Rep K F (upd Fr p o) l H) (o' : HO) (ho : isTupO o' = false := by rfl) : Rep K F (upd Fr p o') l (upd H p o') where
  fz := fun b x e => by
    rw [upd_ne (fun z => by subst z; rw [(r.fd b o upd_same).1] at e; cases e)]
    exact r.fz b x e
  fr := fun b x e => by
    by_cases hb : b = p
    · subst hb; rw [upd_same] at e ⊢; exact e
    · rw [upd_ne hb] at e ⊢
      exact r.fr b x (by rw [upd_ne hb]; exact e)
  fd := fun b x e => by
    by_cases hb : b = p
    · subst hb; exact r.fd b o upd_same
    · rw [upd_ne hb] at e; exact r.fd b x (by rw [upd_ne hb]; exact e)
  lv := fun b x e => by
    have hb : b ≠ p := fun z => by subst z; rw [(r.fd b o upd_same).2] at e; cases e
    obtain ⟨h1, h2⟩ := r.lv b x e
    exact ⟨h1, h2.mono (fun _ _ q => q) (upd_ne hb)⟩
  ft := fun b vs e => by
    by_cases hb : b = p
    · subst hb; rw [upd_same] at e; cases e; cases ho
    · rw [upd_ne hb] at e; exact r.ft b vs (by rw [upd_ne hb]; exact e)
/-- given out as what never changes -/
theorem Rep.give (r : Rep K F (upd Fr p o) l H) (n : Fr p = none) : Rep K (upd F p o) Fr l H where
  fz := fun b x e => by
    by_cases hb : b = p
    · subst hb; rw [upd_same] at e; exact r.fr b x (by rw [upd_same]; exact e)
    · rw [upd_ne hb] at e; exact r.fz b x e
  fr := fun b x e => by
    have hb : b ≠ p := fun z => by subst z; rw [n] at e; cases e
    exact r.fr b x (by rw [upd_ne hb]; exact e)
  fd := fun b x e => by
    have hb : b ≠ p := fun z => by subst z; rw [n] at e; cases e
    rw [upd_ne hb]
    exact r.fd b x (by rw [upd_ne hb]; exact e)
  lv := fun b x e => by
    have hb : b ≠ p := fun z => by subst z; rw [(r.fd b o upd_same).2] at e; cases e
    obtain ⟨h1, h2⟩ := r.lv b x e
    rw [upd_ne hb]
    exact ⟨h1, h2.mono (same_upd (r.fd p o upd_same).1) rfl⟩
  ft := fun b vs e => by
    have hb : b ≠ p := fun z => by subst z; rw [n] at e; cases e
    exact r.ft b vs (by rw [upd_ne hb]; exact e)
/-- given out as what may be written -/
theorem Rep.giveL (r : Rep K F (upd Fr p o) l H) (n : Fr p = none) {d : DO} (ok : DOk K F H p d) : Rep K F Fr (uL l p d) H where
  fz := r.fz
  fr := fun b x e => by
    have hb : b ≠ p := fun z => by subst z; rw [n] at e; cases e
    exact r.fr b x (by rw [upd_ne hb]; exact e)
  fd := fun b x e => by
    have hb : b ≠ p := fun z => by subst z; rw [n] at e; cases e
    rw [uL_ne hb]
    exact r.fd b x (by rw [upd_ne hb]; exact e)
  lv := fun b x e => by
    by_cases hb : b = p
    · subst hb; rw [uL_same] at e; cases e; exact ⟨fun _ => (r.fd b o upd_same).1, ok⟩
    · rw [uL_ne hb] at e; exact r.lv b x e
  ft := fun b vs e => by
    have hb : b ≠ p := fun z => by subst z; rw [n] at e; cases e
    exact r.ft b vs (by rw [upd_ne hb]; exact e)
/-- what may be written is from now on never written -/
theorem Rep.freeze (r : Rep K F Fr l H) {a : Addr} {o : DO} (h : l a = some o) (nf : isFz o = false) {u : HO} (e : H a = some u) : Rep K (upd F a u) Fr (dL l a) H where
  fz := fun b x q => by
    by_cases hb : b = a
    · subst hb; rw [upd_same] at q; cases q; exact e
    · rw [upd_ne hb] at q; exact r.fz b x q
  fr := r.fr
  fd := fun b x q => by
    have hb : b ≠ a := fun z => by subst z; rw [(r.fd b x q).2] at h; cases h
    unfold dL
    rw [upd_ne hb, if_neg hb]
    exact r.fd b x q
  lv := fun b x q => by
    unfold dL at q
    by_cases hb : b = a
    · rw [if_pos hb] at q; cases q
    · rw [if_neg hb] at q
      obtain ⟨h1, h2⟩ := r.lv b x q
      exact ⟨fun z => by rw [upd_ne hb]; exact h1 z, h2.mono (same_upd ((r.lv a o h).1 nf)) rfl⟩
  ft := r.ft
/-- a tuple that is there is kept -/
theorem Rep.tupIn (r : Rep K F Fr l H) {q : Addr} {vs : List V} (e : H q = some (.tup vs)) : ∃ F', Same F F' ∧ F' q = some (.tup vs) ∧ Rep K F' Fr l H := by
  cases hq : F q with
  | some u =>
    have := r.fz q u hq
    rw [e] at this; cases this
    exact ⟨F, Same.refl F, hq, r⟩
  | none =>
    refine ⟨upd F q (.tup vs), same_upd hq, upd_same, ?_⟩
    exact {
      fz := fun b x z => by
        by_cases hb : b = q
        · subst hb; rw [upd_same] at z; cases z; exact e
        · rw [upd_ne hb] at z; exact r.fz b x z
      fr := r.fr
      fd := fun b x z => by
        have hb : b ≠ q := fun w => by
          subst w
          have := r.fr b x z
          rw [e] at this; cases this
          exact r.ft _ _ z
        rw [upd_ne hb]
        exact r.fd b x z
      lv := fun b x z => by
        obtain ⟨h1, h2⟩ := r.lv b x z
        refine ⟨fun nf => ?_, h2.mono (same_upd hq) rfl⟩
        have hb : b ≠ q := fun w => by
          subst w
          cases x with
          | lst ds => obtain ⟨vs, _, q⟩ := h2; rw [e] at q; cases q
          | dT ks ds => obtain ⟨vs, _, _, q⟩ := h2; rw [e] at q; cases q
          | dK ks ds => obtain ⟨vs, _, _, q⟩ := h2; rw [e] at q; cases q
          | ins c ds => obtain ⟨C, dx, vs, _, _, _, q⟩ := h2; rw [e] at q; cases q
          | fz d => cases nf
        rw [upd_ne hb]
        exact h1 nf
      ft := r.ft }
end
end DL

namespace DL
open PySem PySem.Spec PyProof.Rows L2

abbrev St := L2.St
/-! ### slots -/
abbrev DSt := List (Option D)
def RepE (K : PySem.W.Frag) (F : Hp) : DSt → St → Prop
  | [], [] => True
  | some d :: e, some v :: σ => RelD K F d v ∧ RepE K F e σ
  | none :: e, _ :: σ => RepE K F e σ
  | _, _ => False
def nthE : DSt → Nat → Option D
  | [], _ => none
  | x :: _, 0 => x
  | _ :: r, n + 1 => nthE r n
def setK : DSt → Nat → D → (DSt → Prop) → Prop
  | [], _, _, k => k []
  | _ :: r, 0, d, k => k (some d :: r)
  | x :: r, n + 1, d, k => setK r n d (fun r' => k (x :: r'))
def clrK : DSt → Nat → (DSt → Prop) → Prop
  | [], _, k => k []
  | _ :: r, 0, k => k (none :: r)
  | x :: r, n + 1, k => clrK r n (fun r' => k (x :: r'))
def wipeK : List Nat → DSt → (DSt → Prop) → Prop
  | [], e, k => k e
  | v :: vs, e, k => wipeK vs e (fun e' => clrK e' v k)
theorem setK_eq : ∀ (e : DSt) (i : Nat) (d : D) (k : DSt → Prop), setK e i d k = k (e.set i (some d))
  | [], _, _, _ => rfl
  | _ :: _, 0, _, _ => rfl
  | x :: r, n + 1, d, k => setK_eq r n d _
theorem clrK_eq : ∀ (e : DSt) (i : Nat) (k : DSt → Prop), clrK e i k = k (e.set i none)
  | [], _, _ => rfl
  | _ :: _, 0, _ => rfl
  | x :: r, n + 1, k => clrK_eq r n _
def wipeE (e : DSt) : List Nat → DSt
  | [] => e
  | v :: vs => (wipeE e vs).set v none
theorem wipeK_eq : ∀ (vs : List Nat) (e : DSt) (k : DSt → Prop), wipeK vs e k = k (wipeE e vs)
  | [], _, _ => rfl
  | v :: vs, e, k => by unfold wipeK; rw [wipeK_eq vs e]; exact clrK_eq _ _ _
section
variable {K : PySem.W.Frag} {F F' : Hp}
theorem RepE.mono (h : Same F F') : ∀ {e : DSt} {σ : St}, RepE K F e σ → RepE K F' e σ
  | [], [], _ => trivial
  | some d :: e, some v :: σ, ⟨a, b⟩ => ⟨a.mono h, RepE.mono h b⟩
  | none :: e, _ :: σ, b => RepE.mono h (e := e) (σ := σ) b
  | some _ :: _, none :: _, z => z.elim
  | [], _ :: _, z => z.elim
  | some _ :: _, [], z => z.elim
  | none :: _, [], z => z.elim
theorem RepE.get : ∀ {e : DSt} {σ : St} {i : Nat} {d : D}, RepE K F e σ → nthE e i = some d → ∃ v, σ[i]? = some (some v) ∧ RelD K F d v
  | [], _, _, _, _, q => by cases q
  | some d :: e, some v :: σ, 0, _, ⟨a, b⟩, q => by cases q; exact ⟨v, rfl, a⟩
  | none :: e, _ :: σ, 0, _, b, q => by cases q
  | some d :: e, some v :: σ, i + 1, _, ⟨a, b⟩, q => by
    obtain ⟨u, h1, h2⟩ := RepE.get (i := i) b q
    exact ⟨u, by simpa using h1, h2⟩
  | none :: e, _ :: σ, i + 1, _, b, q => by
    obtain ⟨u, h1, h2⟩ := RepE.get (e := e) (σ := σ) (i := i) b q
    exact ⟨u, by simpa using h1, h2⟩
  | some _ :: _, none :: _, _, _, z, _ => z.elim
  | some _ :: _, [], _, _, z, _ => z.elim
  | none :: _, [], _, _, z, _ => z.elim
theorem RepE.set {d : D} {v : V} (r : RelD K F d v) : ∀ {e : DSt} {σ : St} (i : Nat), RepE K F e σ → RepE K F (e.set i (some d)) (σ.set i (some v))
  | [], [], _, _ => trivial
  | some d :: e, some v :: σ, 0, ⟨a, b⟩ => ⟨r, b⟩
  | none :: e, _ :: σ, 0, b => ⟨r, b⟩
  | some d :: e, some v :: σ, i + 1, ⟨a, b⟩ => ⟨a, RepE.set r i b⟩
  | none :: e, _ :: σ, i + 1, b => RepE.set r (e := e) (σ := σ) i b
  | some _ :: _, none :: _, _, z => z.elim
  | [], _ :: _, _, z => z.elim
  | some _ :: _, [], _, z => z.elim
  | none :: _, [], _, z => z.elim
theorem RepE.clr : ∀ {e : DSt} {σ : St} (i : Nat) (x : Option V), RepE K F e σ → RepE K F (e.set i none) (σ.set i x)
  | [], [], _, _, _ => trivial
  | some d :: e, some v :: σ, 0, _, ⟨a, b⟩ => b
  | none :: e, _ :: σ, 0, _, b => b
  | some d :: e, some v :: σ, i + 1, x, ⟨a, b⟩ => ⟨a, RepE.clr i x b⟩
  | none :: e, _ :: σ, i + 1, x, b => RepE.clr (e := e) (σ := σ) i x b
  | some _ :: _, none :: _, _, _, z => z.elim
  | [], _ :: _, _, _, z => z.elim
  | some _ :: _, [], _, _, z => z.elim
  | none :: _, [], _, _, z => z.elim
theorem RepE.wipe {e : DSt} {σ : St} (r : RepE K F e σ) : ∀ vs : List Nat, RepE K F (wipeE e vs) (L2.wipe σ vs)
  | [] => r
  | v :: vs => RepE.clr v none (RepE.wipe r vs)
theorem RepE.start {ds : List D} {vs : List V} (r : RelDs K F ds vs) (n : Nat) : RepE K F (ds.map some ++ List.replicate n none) (vs.map some ++ List.replicate n none) := by
  induction r using RelDs.rec (motive_1 := fun _ _ _ => True) with
  | nil => 
    show RepE K F (List.replicate n none) (List.replicate n none)
    induction n with
    | zero => trivial
    | succ n ih => exact ih
  | cons a b _ ih => exact ⟨a, ih⟩
  | _ => trivial
end

/-! ### what is wanted -/
abbrev DK := D → LH → Prop
abbrev DTE := DSt → LH → DK → Prop
abbrev DTA := DSt → LH → (List D → LH → Prop) → Prop
abbrev DTT := DSt → LH → (Bool → LH → Prop) → Prop
abbrev DTG := D → DSt → LH → (DSt → LH → Prop) → Prop
abbrev DTI := DSt → LH → (List D → LH → Prop) → Prop
structure DEnds where
  nx : DSt → LH → Prop
  rt : DK
  bk : DSt → LH → Prop
  ct : DSt → LH → Prop
abbrev DTS := DEnds → DSt → LH → Prop

section
variable (K : PySem.W.Frag) (F Fr : Hp)
def LK (Q : DK) : VK := fun v H => ∃ F' d l, Same F F' ∧ RelD K F' d v ∧ Rep K F' Fr l H ∧ Q d l
def LA (Q : List D → LH → Prop) : List V → Hp → Prop := fun vs H => ∃ F' ds l, Same F F' ∧ RelDs K F' ds vs ∧ Rep K F' Fr l H ∧ Q ds l
def LB (Q : Bool → LH → Prop) : Bool → Hp → Prop := fun b H => ∃ F' l, Same F F' ∧ Rep K F' Fr l H ∧ Q b l
def LS (Q : DSt → LH → Prop) : St → Hp → Prop := fun σ H => ∃ F' e l, Same F F' ∧ RepE K F' e σ ∧ Rep K F' Fr l H ∧ Q e l
def LH' (Q : LH → Prop) : Hp → Prop := fun H => ∃ F' l, Same F F' ∧ Rep K F' Fr l H ∧ Q l
def LE (E : DEnds) : Ends := { nx := LS K F Fr E.nx, rt := LK K F Fr E.rt, bk := LS K F Fr E.bk, ct := LS K F Fr E.ct }
end
section
variable {K : PySem.W.Frag} {F F1 Fr : Hp}
theorem LK.weak (h : Same F F1) {Q : DK} {v : V} {H : Hp} : LK K F1 Fr Q v H → LK K F Fr Q v H
  | ⟨F', d, l, a, b⟩ => ⟨F', d, l, h.trans a, b⟩
theorem LA.weak (h : Same F F1) {Q : List D → LH → Prop} {v : List V} {H : Hp} : LA K F1 Fr Q v H → LA K F Fr Q v H
  | ⟨F', d, l, a, b⟩ => ⟨F', d, l, h.trans a, b⟩
theorem LB.weak (h : Same F F1) {Q : Bool → LH → Prop} {v : Bool} {H : Hp} : LB K F1 Fr Q v H → LB K F Fr Q v H
  | ⟨F', l, a, b⟩ => ⟨F', l, h.trans a, b⟩
theorem LS.weak (h : Same F F1) {Q : DSt → LH → Prop} {v : St} {H : Hp} : LS K F1 Fr Q v H → LS K F Fr Q v H
  | ⟨F', d, l, a, b⟩ => ⟨F', d, l, h.trans a, b⟩
theorem LK.mk {Q : DK} {v : V} {H : Hp} {d : D} {l : LH} (r : RelD K F d v) (p : Rep K F Fr l H) (q : Q d l) : LK K F Fr Q v H := ⟨F, d, l, Same.refl F, r, p, q⟩
theorem LK.new {Q : DK} {H : Hp} {d : D} {l : LH} {p : Addr} {o : HO} (n : H p = none) (R : Rep K F Fr l H) (r : RelD K (upd F p o) d (.ref p)) (q : Q d l) : LK K F Fr Q (.ref p) (upd H p o) :=
  ⟨upd F p o, d, l, same_upd (R.F_none n), r, R.laid n o, q⟩
theorem relTup {p : Addr} {vs : List V} {ds : List D} (n : F p = none) (r : RelDs K F ds vs) : RelD K (upd F p (.tup vs)) (.tup ds) (.ref p) := .tup upd_same (r.mono (same_upd n))
theorem relLst {p : Addr} {vs : List V} {ds : List D} (n : F p = none) (r : RelDs K F ds vs) : RelD K (upd F p (.lst vs)) (.lst ds) (.ref p) := .lst upd_same (r.mono (same_upd n))
theorem LK.tup {Q : DK} {H : Hp} {vs : List V} {ds : List D} {l : LH} {p : Addr} (n : H p = none) (R : Rep K F Fr l H) (r : RelDs K F ds vs) (q : Q (.tup ds) l) : LK K F Fr Q (.ref p) (upd H p (.tup vs)) :=
  LK.new n R (relTup (R.F_none n) r) q
theorem LK.lst {Q : DK} {H : Hp} {vs : List V} {ds : List D} {l : LH} {p : Addr} (n : H p = none) (R : Rep K F Fr l H) (r : RelDs K F ds vs) (q : Q (.lst ds) l) : LK K F Fr Q (.ref p) (upd H p (.lst vs)) :=
  LK.new n R (relLst (R.F_none n) r) q
/-- a new list that may be written -/
def newL (o : DO) (l : LH) (Q : DK) : Prop := ∀ a, l a = none → Q (.ref a) (uL l a o)
theorem LK.mut {Q : DK} {H : Hp} {vs : List V} {ds : List D} {l : LH} {p : Addr} (n : H p = none) (R : Rep K F Fr l H) (r : RelDs K F ds vs) (q : newL (.lst ds) l Q) : LK K F Fr Q (.ref p) (upd H p (.lst vs)) :=
  ⟨F, .ref p, _, Same.refl F, .ref p, R.made n (show DOk K F _ p (.lst ds) from ⟨vs, r, upd_same⟩), q p (R.l_none n)⟩
end

/-! ### the strongest readings -/
def WE (X : Cx) (e : Expr) : TE := fun σ H Q => ∀ pins s, Inv X pins σ H s → wpAny (model X.prog X.w) X.A (eval e X.env) (EP X pins σ Q) X.xe s
def WT (X : Cx) (e : Expr) : TT := fun σ H Q => ∀ pins s, Inv X pins σ H s → wpAny (model X.prog X.w) X.A (isTrue e X.env (eval e X.env)) (TP X pins σ Q) X.xe s
def WW (X : Cx) (e : Expr) : TT := fun σ H Q => ∀ whole pins s, Inv X pins σ H s → wpAny (model X.prog X.w) X.A (isTrue e X.env whole) (TP X pins σ Q) X.xe s
def WA (X : Cx) (es : List Expr) : TA := fun σ H Q => ∀ pos pins s, Inv X pins σ H s → wpAny (model X.prog X.w) X.A (spliced (backTo pos (starEach es X.env))) (AP X pins σ Q) X.xe s
def WS (X : Cx) (st : Stmt) : TS := fun D σ H => ∀ pins s, Inv X pins σ H s → wpAny (model X.prog X.w) X.A (exec st X.env) (SP X pins D) X.xe s
def WSs (X : Cx) (st : List Stmt) : TS := fun D σ H => ∀ pins s, Inv X pins σ H s → wpAny (model X.prog X.w) X.A (execs st X.env) (SP X pins D) X.xe s
def WG (X : Cx) (tg : Expr) : TG := fun v σ H Q => ∀ pins s u, Inv X pins σ H s → RelV v u → wpAny (model X.prog X.w) X.A (assign tg X.env u) (fun _ s' => ∃ σ' H', Inv X pins σ' H' s' ∧ Q σ' H') X.xe s
def WGs (X : Cx) (ts : List Expr) : TGs := fun vs σ H Q => ∀ pins s us, Inv X pins σ H s → Vals vs us → wpAny (model X.prog X.w) X.A (assignInOrder ((assignEach ts X.env).map (·.2)) us) (fun _ s' => ∃ σ' H', Inv X pins σ' H' s' ∧ Q σ' H') X.xe s
section
variable {X : Cx}
theorem peW {e : Expr} : PE X e (WE X e) := ⟨fun pins s _ _ _ I h => h pins s I⟩
theorem ptW {e : Expr} : PT X e (WT X e) := ⟨fun pins s _ _ _ I h => h pins s I⟩
theorem pwW {e : Expr} : PW X e (WW X e) := ⟨fun whole pins s _ _ _ I h => h whole pins s I⟩
theorem paW {e : List Expr} : PA X e (WA X e) := ⟨fun pos pins s _ _ _ I h => h pos pins s I⟩
theorem psW {e : Stmt} : PS X e (WS X e) := ⟨fun pins s _ _ _ I h => h pins s I⟩
theorem pssW {e : List Stmt} : PSs X e (WSs X e) := ⟨fun pins s _ _ _ I h => h pins s I⟩
theorem pgW {e : Expr} : PG X e (WG X e) := ⟨fun pins s _ _ _ u _ I r h => h pins s u I r⟩
theorem pgsW {e : List Expr} : PGs X e (WGs X e) := ⟨fun pins s _ _ _ us _ I r h => h pins s us I r⟩
theorem EP.mono {pins : List (Addr × Obj)} {σ : St} {Q Q' : VK} {u : Value} {s : Shared} (h : ∀ v H, Q v H → Q' v H) : EP X pins σ Q u s → EP X pins σ Q' u s
  | ⟨v, H, a, b, c⟩ => ⟨v, H, a, b, h _ _ c⟩
theorem WE.mono {e : Expr} {σ : St} {H : Hp} {Q Q' : VK} (w : WE X e σ H Q) (h : ∀ v H, Q v H → Q' v H) : WE X e σ H Q' := fun pins s I => thn (w pins s I) fun _ _ q => EP.mono h q
theorem WT.mono {e : Expr} {σ : St} {H : Hp} {Q Q' : Bool → Hp → Prop} (w : WT X e σ H Q) (h : ∀ v H, Q v H → Q' v H) : WT X e σ H Q' := fun pins s I => thn (w pins s I) fun _ _ ⟨H, a, b⟩ => ⟨H, a, h _ _ b⟩
theorem WW.mono {e : Expr} {σ : St} {H : Hp} {Q Q' : Bool → Hp → Prop} (w : WW X e σ H Q) (h : ∀ v H, Q v H → Q' v H) : WW X e σ H Q' := fun whole pins s I => thn (w whole pins s I) fun _ _ ⟨H, a, b⟩ => ⟨H, a, h _ _ b⟩
theorem WA.mono {e : List Expr} {σ : St} {H : Hp} {Q Q' : List V → Hp → Prop} (w : WA X e σ H Q) (h : ∀ v H, Q v H → Q' v H) : WA X e σ H Q' := fun pos pins s I => thn (w pos pins s I) fun _ _ ⟨vs, H, a, b, c⟩ => ⟨vs, H, a, b, h _ _ c⟩
theorem SP.mono {pins : List (Addr × Obj)} {D D' : Ends} {f : Flow} {s : Shared} (h1 : ∀ σ H, D.nx σ H → D'.nx σ H) (h2 : ∀ v H, D.rt v H → D'.rt v H) (h3 : ∀ σ H, D.bk σ H → D'.bk σ H) (h4 : ∀ σ H, D.ct σ H → D'.ct σ H) (q : SP X pins D f s) : SP X pins D' f s := by
  cases f with
  | next => obtain ⟨σ, H, a, b⟩ := q; exact ⟨σ, H, a, h1 _ _ b⟩
  | brk => obtain ⟨σ, H, a, b⟩ := q; exact ⟨σ, H, a, h3 _ _ b⟩
  | cont => obtain ⟨σ, H, a, b⟩ := q; exact ⟨σ, H, a, h4 _ _ b⟩
  | ret u => obtain ⟨v, σ, H, a, b, c⟩ := q; exact ⟨v, σ, H, a, b, h2 _ _ c⟩
theorem WS.mono {e : Stmt} {σ : St} {H : Hp} {D D' : Ends} (w : WS X e D σ H) (h1 : ∀ σ H, D.nx σ H → D'.nx σ H) (h2 : ∀ v H, D.rt v H → D'.rt v H) (h3 : ∀ σ H, D.bk σ H → D'.bk σ H) (h4 : ∀ σ H, D.ct σ H → D'.ct σ H) : WS X e D' σ H := fun pins s I => thn (w pins s I) fun _ _ q => SP.mono h1 h2 h3 h4 q
theorem WSs.mono {e : List Stmt} {σ : St} {H : Hp} {D D' : Ends} (w : WSs X e D σ H) (h1 : ∀ σ H, D.nx σ H → D'.nx σ H) (h2 : ∀ v H, D.rt v H → D'.rt v H) (h3 : ∀ σ H, D.bk σ H → D'.bk σ H) (h4 : ∀ σ H, D.ct σ H → D'.ct σ H) : WSs X e D' σ H := fun pins s I => thn (w pins s I) fun _ _ q => SP.mono h1 h2 h3 h4 q
theorem WG.mono {e : Expr} {v : V} {σ : St} {H : Hp} {Q Q' : St → Hp → Prop} (w : WG X e v σ H Q) (h : ∀ σ H, Q σ H → Q' σ H) : WG X e v σ H Q' := fun pins s u I r => thn (w pins s u I r) fun _ _ ⟨σ, H, a, b⟩ => ⟨σ, H, a, h _ _ b⟩
theorem WGs.mono {e : List Expr} {v : List V} {σ : St} {H : Hp} {Q Q' : St → Hp → Prop} (w : WGs X e v σ H Q) (h : ∀ σ H, Q σ H → Q' σ H) : WGs X e v σ H Q' := fun pins s u I r => thn (w pins s u I r) fun _ _ ⟨σ, H, a, b⟩ => ⟨σ, H, a, h _ _ b⟩
theorem _root_.L2.PE.we {e : Expr} {t : TE} (h : PE X e t) {σ : St} {H : Hp} {Q : VK} (q : t σ H Q) : WE X e σ H Q := fun pins s I => h.run pins s σ H Q I q
theorem _root_.L2.PT.wt {e : Expr} {t : TT} (h : PT X e t) {σ : St} {H : Hp} {Q : Bool → Hp → Prop} (q : t σ H Q) : WT X e σ H Q := fun pins s I => h.run pins s σ H Q I q
theorem _root_.L2.PW.ww {e : Expr} {t : TT} (h : PW X e t) {σ : St} {H : Hp} {Q : Bool → Hp → Prop} (q : t σ H Q) : WW X e σ H Q := fun whole pins s I => h.run whole pins s σ H Q I q
theorem _root_.L2.PA.wa {e : List Expr} {t : TA} (h : PA X e t) {σ : St} {H : Hp} {Q : List V → Hp → Prop} (q : t σ H Q) : WA X e σ H Q := fun pos pins s I => h.run pos pins s σ H Q I q
theorem _root_.L2.PS.ws {e : Stmt} {t : TS} (h : PS X e t) {σ : St} {H : Hp} {D : Ends} (q : t D σ H) : WS X e D σ H := fun pins s I => h.run pins s σ H D I q
theorem _root_.L2.PSs.wss {e : List Stmt} {t : TS} (h : PSs X e t) {σ : St} {H : Hp} {D : Ends} (q : t D σ H) : WSs X e D σ H := fun pins s I => h.run pins s σ H D I q
theorem _root_.L2.PG.wg {e : Expr} {t : TG} (h : PG X e t) {v : V} {σ : St} {H : Hp} {Q : St → Hp → Prop} (q : t v σ H Q) : WG X e v σ H Q := fun pins s u I r => h.run pins s σ H v u Q I r q
theorem _root_.L2.PGs.wgs {e : List Expr} {t : TGs} (h : PGs X e t) {v : List V} {σ : St} {H : Hp} {Q : St → Hp → Prop} (q : t v σ H Q) : WGs X e v σ H Q := fun pins s u I r => h.run pins s σ H v u Q I r q
end

/-! ### the judgements -/
structure DE (X : Cx) (e : Expr) (t : DTE) : Prop where
  run : ∀ F Fr env l σ H Q, RepE X.K F env σ → Rep X.K F Fr l H → t env l Q → WE X e σ H (LK X.K F Fr Q)
instance {X : Cx} {e : Expr} {t : DTE} : CoeFun (DE X e t) (fun _ => ∀ F Fr env l σ H Q, RepE X.K F env σ → Rep X.K F Fr l H → t env l Q → WE X e σ H (LK X.K F Fr Q)) := ⟨DE.run⟩
structure DT (X : Cx) (e : Expr) (t : DTT) : Prop where
  run : ∀ F Fr env l σ H Q, RepE X.K F env σ → Rep X.K F Fr l H → t env l Q → WT X e σ H (LB X.K F Fr Q)
instance {X : Cx} {e : Expr} {t : DTT} : CoeFun (DT X e t) (fun _ => ∀ F Fr env l σ H Q, RepE X.K F env σ → Rep X.K F Fr l H → t env l Q → WT X e σ H (LB X.K F Fr Q)) := ⟨DT.run⟩
structure DW (X : Cx) (e : Expr) (t : DTT) : Prop where
  run : ∀ F Fr env l σ H Q, RepE X.K F env σ → Rep X.K F Fr l H → t env l Q → WW X e σ H (LB X.K F Fr Q)
instance {X : Cx} {e : Expr} {t : DTT} : CoeFun (DW X e t) (fun _ => ∀ F Fr env l σ H Q, RepE X.K F env σ → Rep X.K F Fr l H → t env l Q → WW X e σ H (LB X.K F Fr Q)) := ⟨DW.run⟩
structure DA (X : Cx) (e : List Expr) (t : DTA) : Prop where
  run : ∀ F Fr env l σ H Q, RepE X.K F env σ → Rep X.K F Fr l H → t env l Q → WA X e σ H (LA X.K F Fr Q)
instance {X : Cx} {e : List Expr} {t : DTA} : CoeFun (DA X e t) (fun _ => ∀ F Fr env l σ H Q, RepE X.K F env σ → Rep X.K F Fr l H → t env l Q → WA X e σ H (LA X.K F Fr Q)) := ⟨DA.run⟩
structure DS (X : Cx) (st : Stmt) (t : DTS) : Prop where
  run : ∀ F Fr env l σ H E, RepE X.K F env σ → Rep X.K F Fr l H → t E env l → WS X st (LE X.K F Fr E) σ H
instance {X : Cx} {st : Stmt} {t : DTS} : CoeFun (DS X st t) (fun _ => ∀ F Fr env l σ H E, RepE X.K F env σ → Rep X.K F Fr l H → t E env l → WS X st (LE X.K F Fr E) σ H) := ⟨DS.run⟩
structure DSs (X : Cx) (st : List Stmt) (t : DTS) : Prop where
  run : ∀ F Fr env l σ H E, RepE X.K F env σ → Rep X.K F Fr l H → t E env l → WSs X st (LE X.K F Fr E) σ H
instance {X : Cx} {st : List Stmt} {t : DTS} : CoeFun (DSs X st t) (fun _ => ∀ F Fr env l σ H E, RepE X.K F env σ → Rep X.K F Fr l H → t E env l → WSs X st (LE X.K F Fr E) σ H) := ⟨DSs.run⟩
/-- vs: the slots that the target may write -/
def LG (K : PySem.W.Frag) (F Fr : Hp) (vs : List Nat) (σ : St) (Q : DSt → LH → Prop) : St → Hp → Prop := fun σ' H => L2.wipe σ' vs = L2.wipe σ vs ∧ LS K F Fr Q σ' H
structure DG (X : Cx) (tg : Expr) (vs : List Nat) (g : DTG) : Prop where
  run : ∀ F Fr env l σ H d v Q, RepE X.K F env σ → Rep X.K F Fr l H → RelD X.K F d v → g d env l Q → WG X tg v σ H (LG X.K F Fr vs σ Q)
instance {X : Cx} {tg : Expr} {vs : List Nat} {g : DTG} : CoeFun (DG X tg vs g) (fun _ => ∀ F Fr env l σ H d v Q, RepE X.K F env σ → Rep X.K F Fr l H → RelD X.K F d v → g d env l Q → WG X tg v σ H (LG X.K F Fr vs σ Q)) := ⟨DG.run⟩
structure DGs (X : Cx) (tg : List Expr) (vs : List Nat) (g : List D → DSt → LH → (DSt → LH → Prop) → Prop) : Prop where
  run : ∀ F Fr env l σ H d v Q, RepE X.K F env σ → Rep X.K F Fr l H → RelDs X.K F d v → g d env l Q → WGs X tg v σ H (LG X.K F Fr vs σ Q)
instance {X : Cx} {tg : List Expr} {vs : List Nat} {g : List D → DSt → LH → (DSt → LH → Prop) → Prop} : CoeFun (DGs X tg vs g) (fun _ => ∀ F Fr env l σ H d v Q, RepE X.K F env σ → Rep X.K F Fr l H → RelDs X.K F d v → g d env l Q → WGs X tg v σ H (LG X.K F Fr vs σ Q)) := ⟨DGs.run⟩
/-- what an iterator gives: the items ds, the heap may be any that holds -/
def JOk (K : PySem.W.Frag) (F : Hp) (J : It) (ds : List D) : Prop := ∀ (i : Nat) F' Fr l H, Same F F' → Rep K F' Fr l H →
  (ds.length ≤ i → J.stop i H) ∧ (∀ d, ds[i]? = some d → J.go i H ∧ ∀ x H', J.yld i H x H' → ∃ F2, Same F' F2 ∧ RelD K F2 d x ∧ Rep K F2 Fr l H')
def WI (X : Cx) (tg iter : Expr) : TI := fun σ H R => ∀ pins s, Inv X pins σ H s → wpAny (model X.prog X.w) X.A (eval iter X.env) (fun v s1 => wpAny (model X.prog X.w) X.A (pyIter v) (PIE X pins σ tg R) X.xe s1) X.xe s
theorem piW {X : Cx} {tg iter : Expr} : PI X tg iter (WI X tg iter) := ⟨fun pins s σ H R I h => h pins s I⟩
theorem _root_.L2.PI.wi {X : Cx} {tg iter : Expr} {t : TI} (h : PI X tg iter t) {σ : St} {H : Hp} {R : It → Hp → Prop} (q : t σ H R) : WI X tg iter σ H R := fun pins s I => h.run pins s σ H R I q
theorem WI.mono {X : Cx} {tg iter : Expr} {σ : St} {H : Hp} {R R' : It → Hp → Prop} (w : WI X tg iter σ H R) (h : ∀ J H, R J H → R' J H) : WI X tg iter σ H R' := fun pins s I => thn (w pins s I) fun _ _ q => thn q fun _ _ ⟨it, fp, tn, J, H', a, b, c, d, e, f⟩ => ⟨it, fp, tn, J, H', a, b, c, d, e, h _ _ f⟩
def LI (K : PySem.W.Frag) (F Fr : Hp) (R : List D → LH → Prop) : It → Hp → Prop := fun J H => ∃ F1 l1 ds, Same F F1 ∧ Rep K F1 Fr l1 H ∧ JOk K F1 J ds ∧ R ds l1
structure DI (X : Cx) (tg iter : Expr) (t : DTI) : Prop where
  run : ∀ F Fr env l σ H R, RepE X.K F env σ → Rep X.K F Fr l H → t env l R → WI X tg iter σ H (LI X.K F Fr R)
instance {X : Cx} {tg iter : Expr} {t : DTI} : CoeFun (DI X tg iter t) (fun _ => ∀ F Fr env l σ H R, RepE X.K F env σ → Rep X.K F Fr l H → t env l R → WI X tg iter σ H (LI X.K F Fr R)) := ⟨DI.run⟩
end DL

namespace DL
open PySem PySem.Spec PyProof.Rows L2

/-! ### data as the library's data -/
mutual
def toPy : D → PyData
  | .non => .none
  | .bl b => .bool b
  | .int i => .int i
  | .str x => .str x
  | .tup ds => .tuple (toPys ds)
  | .lst ds => .list (toPys ds)
  | .dT _ _ => .dict []
  | .scr _ => .dict []
  | .dK _ _ => .dict []
  | .ref _ => .dict []
  | .exc _ => .dict []
  | .exc1 _ _ => .dict []
def toPys : List D → List PyData
  | [] => []
  | d :: ds => toPy d :: toPys ds
end
theorem toPys_map : ∀ ds : List D, toPys ds = ds.map toPy
  | [] => rfl
  | d :: ds => by rw [toPys, toPys_map ds]; rfl
mutual
theorem RelD.dp {K : PySem.W.Frag} {F H : Hp} (h : Same F H) : ∀ {d : D} {v : V}, RelD K F d v → (toPy d).canLay0 = true → Dp K H v (toPy d)
  | _, _, .non, _ => .non
  | _, _, .bl b, _ => .bl b
  | _, _, .int b, _ => .int b
  | _, _, .str b, _ => .str b
  | _, _, .ref b, c => by rw [toPy, PyData.canLay0] at c; cases c
  | _, _, .scr b, c => by rw [toPy, PyData.canLay0] at c; cases c
  | _, _, .exc a b, c => by rw [toPy, PyData.canLay0] at c; cases c
  | _, _, .exc1 a b e f, c => by rw [toPy, PyData.canLay0] at c; cases c
  | _, _, .tup a b, c => by
    rw [toPy, PyData.canLay0] at c
    exact .tup (tq (h _ _ a)) (RelDs.dp h b c)
  | _, _, .lst a b, c => by
    rw [toPy, PyData.canLay0] at c
    exact .lst (.inl (.inl (h _ _ a))) (RelDs.dp h b c)
  | _, _, .dT a e b, c => by rw [toPy, PyData.canLay0] at c; cases c
  | _, _, .dK a e b, c => by rw [toPy, PyData.canLay0] at c; cases c
theorem RelDs.dp {K : PySem.W.Frag} {F H : Hp} (h : Same F H) : ∀ {ds : List D} {vs : List V}, RelDs K F ds vs → PyData.canLayAll0 (toPys ds) = true → DpAll K H vs (toPys ds)
  | _, _, .nil, _ => .nil
  | _, _, .cons a b, c => by
    rw [toPys, PyData.canLayAll0, Bool.and_eq_true] at c
    exact .cons (RelD.dp h a c.1) (RelDs.dp h b c.2)
end

/-! ### expressions -/
section
variable {X : Cx} {a b e : Expr} {ta tb tc te : DTE} {pos : Pos}
def dVar (i : Nat) : DTE := fun env l Q => match nthE env i with | some d => Q d l | none => False
def dC (d : D) : DTE := fun _ l Q => Q d l
theorem de_var (i : Nat) {x : Str} {pos : Pos} (hN : X.N[i]? = some x := by rfl) (hv : Vis X.env.scope x := by first | exact Or.inl rfl | exact Or.inr (Or.inl rfl) | exact Or.inr (Or.inr rfl)) (hd : (x == ("__debug__" : Str)) = false := by decide)
    (hcd : (x == ("__classdict__" : Str)) = false := by decide) : DE X (.Name x pos) (dVar i) := by
  refine ⟨?_⟩
  intro F Fr env l σ H Q he hr ht
  refine (pv i hN hv hd hcd).we ?_
  unfold dVar at ht
  cases q : nthE env i with
  | none => rw [q] at ht; exact ht.elim
  | some d =>
    rw [q] at ht
    obtain ⟨v, h1, h2⟩ := he.get q
    exact ⟨v, h1, LK.mk h2 hr ht⟩
theorem de_int {i j pos} : DE X (.Constant (.int i) j pos) (dC (.int i)) := ⟨fun F Fr env l σ H Q he hr ht => pe_int.we (LK.mk (.int i) hr ht)⟩
theorem de_bl {b j pos} : DE X (.Constant (.bool b) j pos) (dC (.bl b)) := ⟨fun F Fr env l σ H Q he hr ht => pe_bl.we (LK.mk (.bl b) hr ht)⟩
theorem de_non {j pos} : DE X (.Constant .none j pos) (dC .non) := ⟨fun F Fr env l σ H Q he hr ht => pe_non.we (LK.mk .non hr ht)⟩
theorem de_str {x j pos} : DE X (.Constant (.str x) j pos) (dC (.str x)) := ⟨fun F Fr env l σ H Q he hr ht => pe_str.we (LK.mk (.str x) hr ht)⟩
/-! operators, by values -/
def KOp (X : Cx) (r : R2) (k : D → D → LH → DK → Prop) : Prop := ∀ F Fr l H Q d e v u (Q' : VK), Rep X.K F Fr l H → RelD X.K F d v → RelD X.K F e u → (∀ v H, LK X.K F Fr Q v H → Q' v H) → k d e l Q → r v u H Q'
def KUn (X : Cx) (r : V → Hp → VK → Prop) (k : D → LH → DK → Prop) : Prop := ∀ F Fr l H Q d v (Q' : VK), Rep X.K F Fr l H → RelD X.K F d v → (∀ v H, LK X.K F Fr Q v H → Q' v H) → k d l Q → r v H Q'
def KCall (X : Cx) (r : List V → Hp → VK → Prop) (k : List D → LH → DK → Prop) : Prop := ∀ F Fr l H Q ds vs (Q' : VK), Rep X.K F Fr l H → RelDs X.K F ds vs → (∀ v H, LK X.K F Fr Q v H → Q' v H) → k ds l Q → r vs H Q'
def dOp (k : D → D → LH → DK → Prop) (ta tb : DTE) : DTE := fun env l Q => ta env l fun x l1 => tb env l1 fun y l2 => k x y l2 Q
def dUn (k : D → LH → DK → Prop) (ta : DTE) : DTE := fun env l Q => ta env l fun x l1 => k x l1 Q
theorem two {F Fr : Hp} {env : DSt} {l : LH} {σ : St} {H : Hp} {Q : DK} {r : R2} {k : D → D → LH → DK → Prop} (hk : KOp X r k) (ha : DE X a ta) (hb : DE X b tb) (he : RepE X.K F env σ) (hr : Rep X.K F Fr l H) (ht : dOp k ta tb env l Q) :
    WE X a σ H fun x H1 => WE X b σ H1 fun y H2 => r x y H2 (LK X.K F Fr Q) := by
  refine (ha F Fr env l σ H _ he hr ht).mono fun x H1 ⟨F1, d, l1, s1, r1, R1, q1⟩ => ?_
  refine (hb F1 Fr env l1 σ H1 _ (he.mono s1) R1 q1).mono fun y H2 ⟨F2, d2, l2, s2, r2, R2, q2⟩ => ?_
  exact hk F2 Fr l2 H2 Q d d2 x y _ R2 (r1.mono s2) r2 (fun v H q => q.weak (s1.trans s2)) q2
theorem de_op {op : Operator} {r : R2} {k : D → D → LH → DK → Prop} (ho : OpR X (binaryOp op) r) (hk : KOp X r k) (ha : DE X a ta) (hb : DE X b tb) : DE X (.BinOp a op b pos) (dOp k ta tb) :=
  ⟨fun F Fr env l σ H Q he hr ht => (pe_op ho peW peW).we (two hk ha hb he hr ht)⟩
theorem de_cmp {op : CmpOp} {r : R2} {k : D → D → LH → DK → Prop} (ho : OpR X (compareOp op) r) (hk : KOp X r k) (ha : DE X a ta) (hb : DE X b tb) (hm : behindInMarks op b = false) : DE X (.Compare a [op] [b] pos) (dOp k ta tb) :=
  ⟨fun F Fr env l σ H Q he hr ht => (pe_cmpR ho peW peW hm).we (two hk ha hb he hr ht)⟩
theorem de_un {op : UnaryOp} {r : V → Hp → VK → Prop} {k : D → LH → DK → Prop} (ho : UnR X (unaryOp op) r) (hk : KUn X r k) (ha : DE X a ta) : DE X (.UnaryOp op a pos) (dUn k ta) := by
  refine ⟨?_⟩
  intro F Fr env l σ H Q he hr ht
  refine (pe_un ho peW).we ?_
  refine (ha F Fr env l σ H _ he hr ht).mono fun x H1 ⟨F1, d, l1, s1, r1, R1, q1⟩ => ?_
  exact hk F1 Fr l1 H1 Q d x _ R1 r1 (fun v H q => q.weak s1) q1
/-- a < b < c -/
def dChain (k k' : D → D → LH → DK → Prop) (ta tb tc : DTE) : DTE := fun env l Q => ta env l fun x l1 => tb env l1 fun y l2 => k x y l2 fun z l3 => match z with
  | .bl true => tc env l3 fun u l4 => k' y u l4 Q
  | .bl false => Q (.bl false) l3
  | _ => False
theorem de_chain {op op' : CmpOp} {r r' : R2} {k k' : D → D → LH → DK → Prop} {c : Expr} (ho : OpR X (compareOp op) r) (ho' : OpR X (compareOp op') r') (hk : KOp X r k) (hk' : KOp X r' k') (ha : DE X a ta) (hb : DE X b tb) (hc : DE X c tc) 
    (hm : lastMarks [op, op'] [b, c] = false := by rfl) : DE X (.Compare a [op, op'] [b, c] pos) (dChain k k' ta tb tc) := by
  refine ⟨?_⟩
  intro F Fr env l σ H Q he hr ht
  refine (pe_chain ho ho' peW peW peW hm).we ?_
  refine (ha F Fr env l σ H _ he hr ht).mono fun x H1 ⟨F1, d, l1, s1, r1, R1, q1⟩ => ?_
  refine (hb F1 Fr env l1 σ H1 _ (he.mono s1) R1 q1).mono fun y H2 ⟨F2, d2, l2, s2, r2, R2, q2⟩ => ?_
  refine hk F2 Fr l2 H2 _ d d2 x y _ R2 (r1.mono s2) r2 (fun v H3 q => ?_) q2
  obtain ⟨F3, d3, l3, s3, r3, R3, q3⟩ := q
  cases r3 with
  | bl z =>
    refine ⟨z, rfl, ?_⟩
    cases z with
    | true =>
      refine (hc F3 Fr env l3 σ H3 _ (((he.mono s1).mono s2).mono s3) R3 q3).mono fun w H4 ⟨F4, d4, l4, s4, r4, R4, q4⟩ => ?_
      exact hk' F4 Fr l4 H4 Q d2 d4 y w _ R4 (r2.mono (s3.trans s4)) r4 (fun v H q => q.weak (s1.trans (s2.trans (s3.trans s4)))) q4
    | false => exact ⟨F3, .bl false, l3, s1.trans (s2.trans s3), .bl false, R3, q3⟩
  | _ => exact q3.elim

/-! and, or, not, if as values -/
def dAnd (ta tb : DTE) : DTE := fun env l Q => ta env l fun x l1 => match x with
  | .bl true => tb env l1 Q
  | .bl false => Q (.bl false) l1
  | _ => False
def dOr (ta tb : DTE) : DTE := fun env l Q => ta env l fun x l1 => match x with
  | .bl true => Q (.bl true) l1
  | .bl false => tb env l1 Q
  | _ => False
theorem de_one {op} (h : DE X a ta) : DE X (.BoolOp op [a] pos) ta := ⟨fun F Fr env l σ H Q he hr ht => (pe_one peW).we (h F Fr env l σ H Q he hr ht)⟩
theorem de_and {rest : List Expr} (ha : DE X a ta) (hb : DE X (.BoolOp .And (b :: rest) pos) tb) : DE X (.BoolOp .And (a :: b :: rest) pos) (dAnd ta tb) := by
  refine ⟨?_⟩
  intro F Fr env l σ H Q he hr ht
  refine (pe_and peW peW).we ?_
  refine (ha F Fr env l σ H _ he hr ht).mono fun x H1 ⟨F1, d, l1, s1, r1, R1, q1⟩ => ?_
  cases r1 with
  | bl z =>
    refine ⟨z, rfl, ?_⟩
    cases z with
    | true => exact (hb F1 Fr env l1 σ H1 _ (he.mono s1) R1 q1).mono fun _ _ q => q.weak s1
    | false => exact ⟨F1, .bl false, l1, s1, .bl false, R1, q1⟩
  | _ => exact q1.elim
theorem de_or {rest : List Expr} (ha : DE X a ta) (hb : DE X (.BoolOp .Or (b :: rest) pos) tb) : DE X (.BoolOp .Or (a :: b :: rest) pos) (dOr ta tb) := by
  refine ⟨?_⟩
  intro F Fr env l σ H Q he hr ht
  refine (pe_or peW peW).we ?_
  refine (ha F Fr env l σ H _ he hr ht).mono fun x H1 ⟨F1, d, l1, s1, r1, R1, q1⟩ => ?_
  cases r1 with
  | bl z =>
    refine ⟨z, rfl, ?_⟩
    cases z with
    | false => exact (hb F1 Fr env l1 σ H1 _ (he.mono s1) R1 q1).mono fun _ _ q => q.weak s1
    | true => exact ⟨F1, .bl true, l1, s1, .bl true, R1, q1⟩
  | _ => exact q1.elim
def dNot (ta : DTE) : DTE := fun env l Q => ta env l fun x l1 => match x with
  | .bl b => Q (.bl (!b)) l1
  | _ => False
theorem de_not (ha : DE X a ta) : DE X (.UnaryOp .Not a pos) (dNot ta) := by
  refine ⟨?_⟩
  intro F Fr env l σ H Q he hr ht
  refine (pe_not peW).we ?_
  refine (ha F Fr env l σ H _ he hr ht).mono fun x H1 ⟨F1, d, l1, s1, r1, R1, q1⟩ => ?_
  cases r1 with
  | bl z => exact ⟨z, rfl, F1, .bl (!z), l1, s1, .bl _, R1, q1⟩
  | _ => exact q1.elim
/-- by a known truth -/
structure ifB (b : Bool) (A B : Prop) : Prop where
  t : b = true → A
  f : b = false → B
theorem ifB_T {A B : Prop} (h : ifB true A B) : A := h.t rfl
theorem ifB_F {A B : Prop} (h : ifB false A B) : B := h.f rfl
theorem ifB_true {A B : Prop} (h : A) : ifB true A B := ⟨fun _ => h, (fun e => nomatch e)⟩
theorem ifB_false {A B : Prop} (h : B) : ifB false A B := ⟨(fun e => nomatch e), fun _ => h⟩
theorem ifB_dec {c A B : Prop} [Decidable c] (h1 : c → A) (h2 : ¬ c → B) : ifB (decide c) A B := ⟨fun e => h1 (of_decide_eq_true e), fun e => h2 (of_decide_eq_false e)⟩
theorem ifB_by {b : Bool} {A B : Prop} (h1 : b = true → A) (h2 : b = false → B) : ifB b A B := ⟨h1, h2⟩
def dIf (tt : DTT) (ta tb : DTE) : DTE := fun env l Q => tt env l fun c l1 => ifB c (ta env l1 Q) (tb env l1 Q)
theorem de_if {c : Expr} {tt : DTT} (hc : DT X c tt) (ha : DE X a ta) (hb : DE X b tb) : DE X (.IfExp c a b pos) (dIf tt ta tb) := by
  refine ⟨?_⟩
  intro F Fr env l σ H Q he hr ht
  refine (pe_ifExp ptW peW peW).we ?_
  refine (hc F Fr env l σ H _ he hr ht).mono fun x H1 ⟨F1, l1, s1, R1, q1⟩ => ?_
  cases x with
  | true => exact L2.iteT ((ha F1 Fr env l1 σ H1 _ (he.mono s1) R1 (ifB_T q1)).mono fun _ _ q => q.weak s1)
  | false => exact L2.iteF ((hb F1 Fr env l1 σ H1 _ (he.mono s1) R1 (ifB_F q1)).mono fun _ _ q => q.weak s1)

/-! tests -/
def dTV (t : DTE) : DTT := fun env l Q => t env l fun x l1 => match x with
  | .bl b => Q b l1
  | _ => False
theorem dt_val (h : DE X e te) (hs : ∀ whole, isTrue e X.env whole = (do let v ← whole; standAt e.pos; holding [v] (truthy v)) := by intro _; rfl) : DT X e (dTV te) := by
  refine ⟨?_⟩
  intro F Fr env l σ H Q he hr ht
  refine (pt_val peW hs).wt ?_
  refine (h F Fr env l σ H _ he hr ht).mono fun x H1 ⟨F1, d, l1, s1, r1, R1, q1⟩ => ?_
  cases r1 with
  | bl z => exact ⟨z, rfl, F1, l1, s1, R1, q1⟩
  | _ => exact q1.elim
theorem dt_cmp {op : CmpOp} {r : R2} {k : D → D → LH → DK → Prop} (ho : OpR X (compareOp op) r) (hk : KOp X r k) (ha : DE X a ta) (hb : DE X b tb) (hm : behindInMarks op b = false) : DT X (.Compare a [op] [b] pos) (dTV (dOp k ta tb)) := by
  refine ⟨?_⟩
  intro F Fr env l σ H Q he hr ht
  refine (pt_cmpR ho peW peW hm).wt ?_
  have h2 : WE X a σ H fun x H1 => WE X b σ H1 fun y H2 => r x y H2 (LK X.K F Fr fun x l1 => match x with | .bl b => Q b l1 | _ => False) := two hk ha hb he hr ht
  refine (ha F Fr env l σ H _ he hr ht).mono fun x H1 ⟨F1, d, l1, s1, r1, R1, q1⟩ => ?_
  refine (hb F1 Fr env l1 σ H1 _ (he.mono s1) R1 q1).mono fun y H2 ⟨F2, d2, l2, s2, r2, R2, q2⟩ => ?_
  refine hk F2 Fr l2 H2 _ d d2 x y _ R2 (r1.mono s2) r2 (fun v H q => ?_) q2
  obtain ⟨F3, d3, l3, s3, r3, R3, q3⟩ := q
  cases r3 with
  | bl z => exact ⟨z, rfl, F3, l3, s1.trans (s2.trans s3), R3, q3⟩
  | _ => exact q3.elim
theorem dt_chain {op op' : CmpOp} {r r' : R2} {k k' : D → D → LH → DK → Prop} {c : Expr} (ho : OpR X (compareOp op) r) (ho' : OpR X (compareOp op') r') (hk : KOp X r k) (hk' : KOp X r' k') (ha : DE X a ta) (hb : DE X b tb) (hc : DE X c tc) 
    (hm : lastMarks [op, op'] [b, c] = false := by rfl) : DT X (.Compare a [op, op'] [b, c] pos) (dTV (dChain k k' ta tb tc)) := by
  refine ⟨?_⟩
  intro F Fr env l σ H Q he hr ht
  refine (pt_chain ho ho' peW peW peW hm).wt ?_
  have lift : ∀ {F' : Hp} {v : V} {H : Hp}, Same F F' → LK X.K F' Fr (fun x l1 => match x with | .bl b => Q b l1 | _ => False) v H → ∃ k, v = .bl k ∧ LB X.K F Fr Q k H := by
    intro F' v H s q
    obtain ⟨F3, d3, l3, s3, r3, R3, q3⟩ := q
    cases r3 with
    | bl z => exact ⟨z, rfl, F3, l3, s.trans s3, R3, q3⟩
    | _ => exact q3.elim
  show WE X a σ H fun x H1 => WE X b σ H1 fun y H2 => r x y H2 fun z H3 => ∃ k, z = .bl k ∧ _
  refine (ha F Fr env l σ H _ he hr ht).mono fun x H1 ⟨F1, d, l1, s1, r1, R1, q1⟩ => ?_
  refine (hb F1 Fr env l1 σ H1 _ (he.mono s1) R1 q1).mono fun y H2 ⟨F2, d2, l2, s2, r2, R2, q2⟩ => ?_
  refine hk F2 Fr l2 H2 _ d d2 x y _ R2 (r1.mono s2) r2 (fun v H3 q => ?_) q2
  obtain ⟨F3, d3, l3, s3, r3, R3, q3⟩ := q
  cases r3 with
  | bl z =>
    refine ⟨z, rfl, ?_⟩
    cases z with
    | true =>
      refine (hc F3 Fr env l3 σ H3 _ (((he.mono s1).mono s2).mono s3) R3 q3).mono fun w H4 ⟨F4, d4, l4, s4, r4, R4, q4⟩ => ?_
      exact hk' F4 Fr l4 H4 _ d2 d4 y w _ R4 (r2.mono (s3.trans s4)) r4 (fun v H q => lift (s1.trans (s2.trans (s3.trans s4))) q) q4
    | false => exact ⟨false, rfl, F3, l3, s1.trans (s2.trans s3), R3, q3⟩
  | _ => exact q3.elim
theorem dw_dt {t : DTT} (h : DW X e t) : DT X e t := ⟨fun F Fr env l σ H Q he hr ht pins s I => h F Fr env l σ H Q he hr ht _ pins s I⟩
def tAnd (t u : DTT) : DTT := fun env l Q => t env l fun c l1 => ifB c (u env l1 Q) (Q false l1)
def tOr (t u : DTT) : DTT := fun env l Q => t env l fun c l1 => ifB c (Q true l1) (u env l1 Q)
def tNot (t : DTT) : DTT := fun env l Q => t env l fun c l1 => Q (!c) l1
variable {tt tu : DTT}
theorem dw_and1 (ha : DT X a tt) : DW X (.BoolOp .And [a] pos) tt := ⟨fun F Fr env l σ H Q he hr ht => (pw_and1 ptW).ww (ha F Fr env l σ H Q he hr ht)⟩
theorem dw_or1 (ha : DT X a tt) : DW X (.BoolOp .Or [a] pos) tt := ⟨fun F Fr env l σ H Q he hr ht => (pw_or1 ptW).ww (ha F Fr env l σ H Q he hr ht)⟩
theorem dw_and {rest : List Expr} (ha : DT X a tt) (hb : DW X (.BoolOp .And (b :: rest) pos) tu) : DW X (.BoolOp .And (a :: b :: rest) pos) (tAnd tt tu) := by
  refine ⟨?_⟩
  intro F Fr env l σ H Q he hr ht
  refine (pw_and ptW pwW).ww ?_
  refine (ha F Fr env l σ H _ he hr ht).mono fun x H1 ⟨F1, l1, s1, R1, q1⟩ => ?_
  cases x with
  | true => exact L2.iteT ((hb F1 Fr env l1 σ H1 _ (he.mono s1) R1 (ifB_T q1)).mono fun _ _ q => q.weak s1)
  | false => exact L2.iteF ⟨F1, l1, s1, R1, ifB_F q1⟩
theorem dw_or {rest : List Expr} (ha : DT X a tt) (hb : DW X (.BoolOp .Or (b :: rest) pos) tu) : DW X (.BoolOp .Or (a :: b :: rest) pos) (tOr tt tu) := by
  refine ⟨?_⟩
  intro F Fr env l σ H Q he hr ht
  refine (pw_or ptW pwW).ww ?_
  refine (ha F Fr env l σ H _ he hr ht).mono fun x H1 ⟨F1, l1, s1, R1, q1⟩ => ?_
  cases x with
  | false => exact L2.iteF ((hb F1 Fr env l1 σ H1 _ (he.mono s1) R1 (ifB_F q1)).mono fun _ _ q => q.weak s1)
  | true => exact L2.iteT ⟨F1, l1, s1, R1, ifB_T q1⟩
theorem dt_not (ha : DT X a tt) : DT X (.UnaryOp .Not a pos) (tNot tt) := by
  refine ⟨?_⟩
  intro F Fr env l σ H Q he hr ht
  refine (pt_not ptW).wt ?_
  exact (ha F Fr env l σ H _ he hr ht).mono fun x H1 ⟨F1, l1, s1, R1, q1⟩ => ⟨F1, l1, s1, R1, q1⟩

/-! argument lists, displays -/
def aNil : DTA := fun _ l Q => Q [] l
def aCons (t : DTE) (u : DTA) : DTA := fun env l Q => t env l fun d l1 => u env l1 fun ds l2 => Q (d :: ds) l2
variable {es : List Expr} {u : DTA}
theorem da_nil : DA X [] aNil := ⟨fun F Fr env l σ H Q he hr ht => pa_nil.wa ⟨F, [], l, Same.refl F, .nil, hr, ht⟩⟩
theorem da_cons (ha : DE X e te) (hr : DA X es u) (hs : starEach (e :: es) X.env = (false, eval e X.env) :: starEach es X.env := by rfl) : DA X (e :: es) (aCons te u) := by
  refine ⟨?_⟩
  intro F Fr env l σ H Q he hR ht
  refine (pa_cons peW paW hs).wa ?_
  refine (ha F Fr env l σ H _ he hR ht).mono fun x H1 ⟨F1, d, l1, s1, r1, R1, q1⟩ => ?_
  refine (hr F1 Fr env l1 σ H1 _ (he.mono s1) R1 q1).mono fun xs H2 ⟨F2, ds, l2, s2, r2, R2, q2⟩ => ?_
  exact ⟨F2, d :: ds, l2, s1.trans s2, .cons (r1.mono s2) r2, R2, q2⟩
def dTup (t : DTA) : DTE := fun env l Q => t env l fun ds l1 => ds.length ≤ sizeLine ∧ Q (.tup ds) l1
def dLst (t : DTA) : DTE := fun env l Q => t env l fun ds l1 => ds.length ≤ sizeLine ∧ Q (.lst ds) l1
def dLstM (t : DTA) : DTE := fun env l Q => t env l fun ds l1 => ds.length ≤ sizeLine ∧ newL (.lst ds) l1 Q
theorem de_tup {x1} (h : DA X es u) : DE X (.Tuple es x1 pos) (dTup u) := by
  refine ⟨?_⟩
  intro F Fr env l σ H Q he hR ht
  refine (pe_tup paW).we ?_
  refine (h F Fr env l σ H _ he hR ht).mono fun x H1 ⟨F1, ds, l1, s1, r1, R1, q1, q2⟩ => ?_
  exact ⟨by rw [← r1.length]; exact q1, fun p np => (LK.tup np R1 r1 q2).weak s1⟩
theorem de_lst (h : DA X es u) : DE X (.List es pos) (dLst u) := by
  refine ⟨?_⟩
  intro F Fr env l σ H Q he hR ht
  refine (pe_lst paW).we ?_
  refine (h F Fr env l σ H _ he hR ht).mono fun x H1 ⟨F1, ds, l1, s1, r1, R1, q1, q2⟩ => ?_
  exact ⟨by rw [← r1.length]; exact q1, fun p np => (LK.lst np R1 r1 q2).weak s1⟩
theorem de_lstM (h : DA X es u) : DE X (.List es pos) (dLstM u) := by
  refine ⟨?_⟩
  intro F Fr env l σ H Q he hR ht
  refine (pe_lst paW).we ?_
  refine (h F Fr env l σ H _ he hR ht).mono fun x H1 ⟨F1, ds, l1, s1, r1, R1, q1, q2⟩ => ?_
  exact ⟨by rw [← r1.length]; exact q1, fun p np => (LK.mut np R1 r1 q2).weak s1⟩

/-! calls of built-ins, by values -/
def dCall (k : List D → LH → DK → Prop) (t : DTA) : DTE := fun env l Q => t env l fun ds l1 => k ds l1 Q
theorem callK {r : List V → Hp → VK → Prop} {k : List D → LH → DK → Prop} (hk : KCall X r k) (h : DA X es u) {F Fr : Hp} {env : DSt} {l : LH} {σ : St} {H : Hp} {Q : DK} (he : RepE X.K F env σ) (hR : Rep X.K F Fr l H) (ht : dCall k u env l Q) :
    WA X es σ H fun vs H1 => r vs H1 (LK X.K F Fr Q) :=
  (h F Fr env l σ H _ he hR ht).mono fun x H1 ⟨F1, ds, l1, s1, r1, R1, q1⟩ => hk F1 Fr l1 H1 Q ds x _ R1 r1 (fun _ _ q => q.weak s1) q1
theorem de_callB {id : String} {r : List V → Hp → VK → Prop} {k : List D → LH → DK → Prop} {x : Str} {p : Pos} (hc : CallR X (.builtin id) r) (hk : KCall X r k) (hg : Gl X x) (hm : X.mg x = none) (hv : bootBuiltins x = some (.builtin id)) (h : DA X (e :: es) u) (hn : x ≠ "__name__" := by decide) (hdb : (x == ("__debug__" : Str)) = false := by decide)
    (he : starEach (e :: es) X.env = (false, eval e X.env) :: starEach es X.env := by rfl) (hpl : (backTo pos (starEach es X.env)).any (·.1) = false := by rfl) : DE X (.Call (.Name x p) (e :: es) [] pos) (dCall k u) :=
  ⟨fun F Fr env l σ H Q hE hr ht => (pe_callB hc hg hm hv paW hn hdb he hpl).we (callK hk h hE hr ht)⟩
theorem de_callT {T : String} {r : List V → Hp → VK → Prop} {k : List D → LH → DK → Prop} {x : Str} {p : Pos} (hc : CallR X (.type T) r) (hk : KCall X r k) (hg : Gl X x) (hm : X.mg x = none) (hv : bootBuiltins x = some (.type T)) (h : DA X (e :: es) u) (hn : x ≠ "__name__" := by decide) (hdb : (x == ("__debug__" : Str)) = false := by decide)
    (he : starEach (e :: es) X.env = (false, eval e X.env) :: starEach es X.env := by rfl) (hpl : (backTo pos (starEach es X.env)).any (·.1) = false := by rfl) : DE X (.Call (.Name x p) (e :: es) [] pos) (dCall k u) :=
  ⟨fun F Fr env l σ H Q hE hr ht => (pe_callTy hc hg hm hv paW hn hdb he hpl).we (callK hk h hE hr ht)⟩
end
end DL

namespace DL
open PySem PySem.Spec PyProof.Rows L2

/-! ### the operators' readings -/
section
variable {X : Cx}
def kInt (f : Int → Int → Int) : D → D → LH → DK → Prop := fun x y l Q => match x, y with
  | .int i, .int j => Q (.int (f i j)) l
  | _, _ => False
def kIntC (C : Int → Int → Prop) (f : Int → Int → Int) : D → D → LH → DK → Prop := fun x y l Q => match x, y with
  | .int i, .int j => C i j ∧ Q (.int (f i j)) l
  | _, _ => False
def kIntB (f : Int → Int → Bool) : D → D → LH → DK → Prop := fun x y l Q => match x, y with
  | .int i, .int j => Q (.bl (f i j)) l
  | _, _ => False
theorem kInt_ok {f : Int → Int → Int} : KOp X (rI0 fun i j => .int (f i j)) (kInt f) := by
  intro F Fr l H Q d e v u Q' R rd re hq q
  cases rd <;> try exact q.elim
  cases re <;> try exact q.elim
  exact ⟨_, _, rfl, rfl, hq _ _ (LK.mk (.int _) R q)⟩
theorem kIntC_ok {C : Int → Int → Prop} {f : Int → Int → Int} : KOp X (rI C fun i j => .int (f i j)) (kIntC C f) := by
  intro F Fr l H Q d e v u Q' R rd re hq q
  cases rd <;> try exact q.elim
  cases re <;> try exact q.elim
  exact ⟨_, _, rfl, rfl, q.1, hq _ _ (LK.mk (.int _) R q.2)⟩
theorem kIntB_ok {f : Int → Int → Bool} : KOp X (rI0 fun i j => .bl (f i j)) (kIntB f) := by
  intro F Fr l H Q d e v u Q' R rd re hq q
  cases rd <;> try exact q.elim
  cases re <;> try exact q.elim
  exact ⟨_, _, rfl, rfl, hq _ _ (LK.mk (.bl _) R q)⟩

/-- + -/
def kAdd : D → D → LH → DK → Prop := fun x y l Q => match x, y with
  | .int i, .int j => Q (.int (i + j)) l
  | .tup xs, .tup ys => xs.length + ys.length ≤ sizeLine ∧ Q (.tup (xs ++ ys)) l
  | .lst xs, .lst ys => xs.length + ys.length ≤ sizeLine ∧ Q (.lst (xs ++ ys)) l
  | .str i, .str j => i.length + j.length ≤ sizeLine ∧ Q (.str (i ++ j)) l
  | _, _ => False
def rAdd4 (K : PySem.W.Frag) : R2 := fun x y H Q => rI0 (fun i j => .int (i + j)) x y H Q ∨ (rCatA K x y H Q ∨ (rCat x y H Q ∨ ∃ i j, x = .str i ∧ y = .str j ∧ i.length + j.length ≤ sizeLine ∧ Q (.str (i ++ j)) H))
theorem op_add4 : OpR X (binaryOp .Add) (rAdd4 X.K) := op_add.or (op_catA.or (op_cat.or op_add_str))
theorem kAdd_ok : KOp X (rAdd4 X.K) kAdd := by
  intro F Fr l H Q d e v u Q' R rd re hq q
  cases rd with
  | int i =>
    cases re <;> try exact q.elim
    exact .inl ⟨_, _, rfl, rfl, hq _ _ (LK.mk (.int _) R q)⟩
  | str i =>
    cases re <;> try exact q.elim
    exact .inr (.inr (.inr ⟨_, _, rfl, rfl, q.1, hq _ _ (LK.mk (.str _) R q.2)⟩))
  | @tup p vs ds h1 r1 =>
    cases re <;> try exact q.elim
    rename_i p2 vs2 ds2 h2 r2
    refine .inr (.inl ⟨p, p2, vs, vs2, rfl, rfl, tq (R.fz _ _ h1), tq (R.fz _ _ h2), by rw [← r1.length, ← r2.length]; exact q.1, fun e => ?_, fun _ e => ?_, fun _ _ p np => ?_⟩)
    · subst e
      cases r1
      exact hq _ _ (LK.mk (.tup h2 r2) R q.2)
    · subst e
      cases r2
      have q2 := q.2
      rw [List.append_nil] at q2
      exact hq _ _ (LK.mk (.tup h1 r1) R q2)
    · exact hq _ _ (LK.tup np R (r1.append r2) q.2)
  | @lst p vs ds h1 r1 =>
    cases re <;> try exact q.elim
    rename_i p2 vs2 ds2 h2 r2
    exact .inr (.inr (.inl ⟨p, p2, vs, vs2, rfl, rfl, R.fz _ _ h1, R.fz _ _ h2, by rw [← r1.length, ← r2.length]; exact q.1, fun p np => hq _ _ (LK.lst np R (r1.append r2) q.2)⟩))
  | _ => exact q.elim

/-- whole numbers -/
theorem op_mulA : OpR X (binaryOp .Mult) (rI IntMulOk fun i j => .int (i * j)) := opI fun _ _ _ _ _ _ _ hc q => mul_int q hc
def dAdd : DTE → DTE → DTE := dOp kAdd
def kSub : D → D → LH → DK → Prop := fun x y l Q => match x, y with
  | .int i, .int j => Q (.int (i - j)) l
  | _, _ => False
theorem kSub_ok : KOp X (rI0 fun i j => .int (i - j)) kSub := by
  intro F Fr l H Q d e v u Q' R rd re hq q
  cases rd <;> try exact q.elim
  cases re <;> try exact q.elim
  exact ⟨_, _, rfl, rfl, hq _ _ (LK.mk (by constructor) R q)⟩
def kMod : D → D → LH → DK → Prop := fun x y l Q => match x, y with
  | .int i, .int j => 0 < j ∧ Q (.int (i % j)) l
  | _, _ => False
theorem kMod_ok : KOp X (rI (fun _ j => 0 < j) fun i j => .int (i % j)) kMod := by
  intro F Fr l H Q d e v u Q' R rd re hq q
  cases rd <;> try exact q.elim
  cases re <;> try exact q.elim
  exact ⟨_, _, rfl, rfl, q.1, hq _ _ (LK.mk (by constructor) R q.2)⟩
def kDiv : D → D → LH → DK → Prop := fun x y l Q => match x, y with
  | .int i, .int j => (0 < j ∧ j.natAbs.log2 < 9000) ∧ Q (.int (i / j)) l
  | _, _ => False
theorem kDiv_ok : KOp X (rI CDivW fun i j => .int (i / j)) kDiv := by
  intro F Fr l H Q d e v u Q' R rd re hq q
  cases rd <;> try exact q.elim
  cases re <;> try exact q.elim
  exact ⟨_, _, rfl, rfl, q.1, hq _ _ (LK.mk (by constructor) R q.2)⟩
def kPow : D → D → LH → DK → Prop := fun x y l Q => match x, y with
  | .int i, .int j => (0 ≤ j ∧ j ≤ 1000000 ∧ i.natAbs < 2 ^ 64) ∧ Q (.int (i ^ j.toNat)) l
  | _, _ => False
theorem kPow_ok : KOp X (rI CPow fun i j => .int (i ^ j.toNat)) kPow := by
  intro F Fr l H Q d e v u Q' R rd re hq q
  cases rd <;> try exact q.elim
  cases re <;> try exact q.elim
  exact ⟨_, _, rfl, rfl, q.1, hq _ _ (LK.mk (by constructor) R q.2)⟩
def kLe : D → D → LH → DK → Prop := fun x y l Q => match x, y with
  | .int i, .int j => Q (.bl (decide (i ≤ j))) l
  | _, _ => False
theorem kLe_ok : KOp X (rI0 fun i j => .bl (decide (i ≤ j))) kLe := by
  intro F Fr l H Q d e v u Q' R rd re hq q
  cases rd <;> try exact q.elim
  cases re <;> try exact q.elim
  exact ⟨_, _, rfl, rfl, hq _ _ (LK.mk (by constructor) R q)⟩
def kGt : D → D → LH → DK → Prop := fun x y l Q => match x, y with
  | .int i, .int j => Q (.bl (decide (j < i))) l
  | _, _ => False
theorem kGt_ok : KOp X (rI0 fun i j => .bl (decide (j < i))) kGt := by
  intro F Fr l H Q d e v u Q' R rd re hq q
  cases rd <;> try exact q.elim
  cases re <;> try exact q.elim
  exact ⟨_, _, rfl, rfl, hq _ _ (LK.mk (by constructor) R q)⟩
def kGe : D → D → LH → DK → Prop := fun x y l Q => match x, y with
  | .int i, .int j => Q (.bl (decide (j ≤ i))) l
  | _, _ => False
theorem kGe_ok : KOp X (rI0 fun i j => .bl (decide (j ≤ i))) kGe := by
  intro F Fr l H Q d e v u Q' R rd re hq q
  cases rd <;> try exact q.elim
  cases re <;> try exact q.elim
  exact ⟨_, _, rfl, rfl, hq _ _ (LK.mk (by constructor) R q)⟩
def kLtI : D → D → LH → DK → Prop := fun x y l Q => match x, y with
  | .int i, .int j => Q (.bl (decide (i < j))) l
  | _, _ => False
theorem kLtI_ok : KOp X (rI0 fun i j => .bl (decide (i < j))) kLtI := by
  intro F Fr l H Q d e v u Q' R rd re hq q
  cases rd <;> try exact q.elim
  cases re <;> try exact q.elim
  exact ⟨_, _, rfl, rfl, hq _ _ (LK.mk (by constructor) R q)⟩
def dSub : DTE → DTE → DTE := dOp kSub
def dMod : DTE → DTE → DTE := dOp kMod
def dDiv : DTE → DTE → DTE := dOp kDiv
def dPow : DTE → DTE → DTE := dOp kPow
def dLe : DTE → DTE → DTE := dOp kLe
def dGt : DTE → DTE → DTE := dOp kGt
def dGe : DTE → DTE → DTE := dOp kGe
variable {a b e : Expr} {ta tb tc te : DTE} {pos : Pos}
theorem de_add (ha : DE X a ta) (hb : DE X b tb) : DE X (.BinOp a .Add b pos) (dAdd ta tb) := de_op op_add4 kAdd_ok ha hb
theorem de_sub (ha : DE X a ta) (hb : DE X b tb) : DE X (.BinOp a .Sub b pos) (dSub ta tb) := de_op op_sub kSub_ok ha hb
theorem de_mod (ha : DE X a ta) (hb : DE X b tb) : DE X (.BinOp a .Mod b pos) (dMod ta tb) := de_op op_mod kMod_ok ha hb
theorem de_div (ha : DE X a ta) (hb : DE X b tb) : DE X (.BinOp a .FloorDiv b pos) (dDiv ta tb) := de_op op_fdivW kDiv_ok ha hb
theorem de_pow (ha : DE X a ta) (hb : DE X b tb) : DE X (.BinOp a .Pow b pos) (dPow ta tb) := de_op op_pow kPow_ok ha hb
theorem de_le (ha : DE X a ta) (hb : DE X b tb) : DE X (.Compare a [.LtE] [b] pos) (dLe ta tb) := de_cmp op_le kLe_ok ha hb (nomark _)
theorem de_gt (ha : DE X a ta) (hb : DE X b tb) : DE X (.Compare a [.Gt] [b] pos) (dGt ta tb) := de_cmp op_gt kGt_ok ha hb (nomark _)
theorem de_ge (ha : DE X a ta) (hb : DE X b tb) : DE X (.Compare a [.GtE] [b] pos) (dGe ta tb) := de_cmp op_ge kGe_ok ha hb (nomark _)
theorem dt_le (ha : DE X a ta) (hb : DE X b tb) : DT X (.Compare a [.LtE] [b] pos) (dTV (dLe ta tb)) := dt_cmp op_le kLe_ok ha hb (nomark _)
theorem dt_gt (ha : DE X a ta) (hb : DE X b tb) : DT X (.Compare a [.Gt] [b] pos) (dTV (dGt ta tb)) := dt_cmp op_gt kGt_ok ha hb (nomark _)
theorem dt_ge (ha : DE X a ta) (hb : DE X b tb) : DT X (.Compare a [.GtE] [b] pos) (dTV (dGe ta tb)) := dt_cmp op_ge kGe_ok ha hb (nomark _)
theorem un_negK : KUn X (rU fun i => .int (-i)) (fun x l Q => match x with | .int i => Q (.int (-i)) l | _ => False) := by
  intro F Fr l H Q d v Q' R rd hq q
  cases rd <;> try exact q.elim
  exact ⟨_, rfl, hq _ _ (LK.mk (.int _) R q)⟩
def dNeg : DTE → DTE := dUn fun x l Q => match x with | .int i => Q (.int (-i)) l | _ => False
theorem de_neg (ha : DE X a ta) : DE X (.UnaryOp .USub a pos) (dNeg ta) := de_un un_neg un_negK ha

/-- < of numbers and of tuples of numbers -/
def intsOf : List D → Option (List Int)
  | [] => some []
  | .int i :: r => (intsOf r).map fun s => i :: s
  | _ :: _ => none
theorem intsOf_map : ∀ ns : List Int, intsOf (ns.map D.int) = some ns
  | [] => rfl
  | n :: ns => by
    show (intsOf (ns.map D.int)).map _ = _
    rw [intsOf_map ns]
    rfl
theorem intsOf_eq : ∀ {ds : List D} {ns : List Int}, intsOf ds = some ns → ds = ns.map D.int
  | [], _, h => by cases h; rfl
  | d :: r, ns, h => by
    cases d with
    | int i =>
      cases q : intsOf r with
      | none => rw [intsOf, q] at h; cases h
      | some s =>
        rw [intsOf, q] at h
        cases h
        rw [intsOf_eq q]
        rfl
    | _ => cases h
def kLt : D → D → LH → DK → Prop := fun x y l Q => match x, y with
  | .int i, .int j => Q (.bl (decide (i < j))) l
  | .tup xs, .tup ys => ∃ ns ms, xs = ns.map D.int ∧ ys = ms.map D.int ∧ Q (.bl (HT.lexLt ns ms)) l
  | _, _ => False
theorem op_lt2 (hu : X.A.units < cLine) : OpR X (compareOp .Lt) (fun x y H Q => rI0 (fun i j => .bl (decide (i < j))) x y H Q ∨ rLtT X.K x y H Q) := op_lt.or (op_ltT hu)
theorem kLt_ok : KOp X (fun x y H Q => rI0 (fun i j => .bl (decide (i < j))) x y H Q ∨ rLtT X.K x y H Q) kLt := by
  intro F Fr l H Q d e v u Q' R rd re hq q
  cases rd with
  | int i =>
    cases re <;> try exact q.elim
    exact .inl ⟨_, _, rfl, rfl, hq _ _ (LK.mk (.bl _) R q)⟩
  | @tup p vs ds h1 r1 =>
    cases re <;> try exact q.elim
    rename_i p2 vs2 ds2 h2 r2
    obtain ⟨ns, ms, rfl, rfl, q⟩ := q
    have e1 := r1.ints
    have e2 := r2.ints
    subst e1 e2
    exact .inr ⟨p, p2, ns, ms, rfl, rfl, tq (R.fz _ _ h1), tq (R.fz _ _ h2), hq _ _ (LK.mk (.bl _) R q)⟩
  | _ => exact q.elim
def dLt : DTE → DTE → DTE := dOp kLt
theorem de_lt (hu : X.A.units < cLine) (ha : DE X a ta) (hb : DE X b tb) : DE X (.Compare a [.Lt] [b] pos) (dLt ta tb) := de_cmp (op_lt2 hu) kLt_ok ha hb (nomark _)
theorem dt_lt (hu : X.A.units < cLine) (ha : DE X a ta) (hb : DE X b tb) : DT X (.Compare a [.Lt] [b] pos) (dTV (dLt ta tb)) := dt_cmp (op_lt2 hu) kLt_ok ha hb (nomark _)

/-- an object's content -/
def getO (l : LH) (a : Addr) (k : DO → Prop) : Prop := ∃ o, l a = some o ∧ k o
/-- == -/
def okD (d : D) : Prop := SeqAt.shaped (toPy d) = true
def eqD (d e : D) : Bool := PyData.eqv (toPy d) (toPy e)
/-- a list that may be written, as it stands -/
def resL (d : D) (l : LH) (k : D → Prop) : Prop := match d with
  | .ref a => getO l a fun o => match o with | .lst ds => k (.lst ds) | _ => False
  | d => k d
theorem resL_ok {K : PySem.W.Frag} {F Fr H : Hp} {l : LH} {d : D} {v : V} {k : D → Prop} (R : Rep K F Fr l H) (r : RelD K F d v) (q : resL d l k) : ∃ d', k d' ∧ ((toPy d').canLay0 = true → Dp K H v (toPy d')) := by
  cases r with
  | ref a =>
    obtain ⟨o, ho, q⟩ := q
    cases o with
    | lst ds =>
      obtain ⟨vs, r1, h1⟩ := (R.lv _ _ ho).2
      refine ⟨_, q, fun c => ?_⟩
      rw [toPy, PyData.canLay0] at c
      exact .lst (.inl (.inl h1)) (r1.dp R.fz c)
    | _ => exact q.elim
  | non => exact ⟨_, q, RelD.dp R.fz .non⟩
  | bl b => exact ⟨_, q, RelD.dp R.fz (.bl b)⟩
  | int b => exact ⟨_, q, RelD.dp R.fz (.int b)⟩
  | str b => exact ⟨_, q, RelD.dp R.fz (.str b)⟩
  | tup a b => exact ⟨_, q, RelD.dp R.fz (.tup a b)⟩
  | scr a => exact ⟨_, q, RelD.dp R.fz (.scr a)⟩
  | lst a b => exact ⟨_, q, RelD.dp R.fz (.lst a b)⟩
  | dT a b c => exact ⟨_, q, RelD.dp R.fz (.dT a b c)⟩
  | dK a b c => exact ⟨_, q, RelD.dp R.fz (.dK a b c)⟩
  | exc a b => exact ⟨_, q, RelD.dp R.fz (.exc a b)⟩
  | exc1 a b c d => exact ⟨_, q, RelD.dp R.fz (.exc1 a b c d)⟩
def kEq : D → D → LH → DK → Prop := fun x y l Q => resL x l fun x => resL y l fun y => okD x ∧ okD y ∧ Q (.bl (eqD x y)) l
def kNe : D → D → LH → DK → Prop := fun x y l Q => resL x l fun x => resL y l fun y => okD x ∧ okD y ∧ Q (.bl (!eqD x y)) l
theorem kEq_ok : KOp X (rEqD X.K) kEq := by
  intro F Fr l H Q d e v u Q' R rd re hq q
  obtain ⟨d', q, h1⟩ := resL_ok R rd q
  obtain ⟨e', q, h2⟩ := resL_ok R re q
  obtain ⟨c1, c2, q⟩ := q
  exact ⟨_, _, h1 (SeqAt.canLay_of_shaped c1), h2 (SeqAt.canLay_of_shaped c2), c1, c2, hq _ _ (LK.mk (.bl _) R q)⟩
theorem kNe_ok : KOp X (rNeD X.K) kNe := by
  intro F Fr l H Q d e v u Q' R rd re hq q
  obtain ⟨d', q, h1⟩ := resL_ok R rd q
  obtain ⟨e', q, h2⟩ := resL_ok R re q
  obtain ⟨c1, c2, q⟩ := q
  exact ⟨_, _, h1 (SeqAt.canLay_of_shaped c1), h2 (SeqAt.canLay_of_shaped c2), c1, c2, hq _ _ (LK.mk (.bl _) R q)⟩
def dEq : DTE → DTE → DTE := dOp kEq
def dNe : DTE → DTE → DTE := dOp kNe
theorem de_eq (hu : X.A.units + 64 < cLine) (ha : DE X a ta) (hb : DE X b tb) : DE X (.Compare a [.Eq] [b] pos) (dEq ta tb) := de_cmp (op_eqD hu) kEq_ok ha hb (nomark _)
theorem dt_eq (hu : X.A.units + 64 < cLine) (ha : DE X a ta) (hb : DE X b tb) : DT X (.Compare a [.Eq] [b] pos) (dTV (dEq ta tb)) := dt_cmp (op_eqD hu) kEq_ok ha hb (nomark _)
theorem de_ne (hu : X.A.units + 64 < cLine) (ha : DE X a ta) (hb : DE X b tb) : DE X (.Compare a [.NotEq] [b] pos) (dNe ta tb) := de_cmp (op_neD hu) kNe_ok ha hb (nomark _)
theorem dt_ne (hu : X.A.units + 64 < cLine) (ha : DE X a ta) (hb : DE X b tb) : DT X (.Compare a [.NotEq] [b] pos) (dTV (dNe ta tb)) := dt_cmp (op_neD hu) kNe_ok ha hb (nomark _)
/-- is None -/
def kIsN : D → D → LH → DK → Prop := fun x y l Q => match y with | .non => Q (.bl (match x with | .non => true | _ => false)) l | _ => False
def kNotN : D → D → LH → DK → Prop := fun x y l Q => match y with | .non => Q (.bl (match x with | .non => false | _ => true)) l | _ => False
theorem kIsN_ok : KOp X (fun x y H Q => y = .non ∧ Q (.bl (decide (x = .non))) H) kIsN := by
  intro F Fr l H Q d e v u Q' R rd re hq q
  cases re <;> try exact q.elim
  refine ⟨rfl, ?_⟩
  cases rd <;> exact hq _ _ (LK.mk (.bl _) R q)
theorem kNotN_ok : KOp X (fun x y H Q => y = .non ∧ Q (.bl (!decide (x = .non))) H) kNotN := by
  intro F Fr l H Q d e v u Q' R rd re hq q
  cases re <;> try exact q.elim
  refine ⟨rfl, ?_⟩
  cases rd <;> exact hq _ _ (LK.mk (.bl _) R q)
def dIsN : DTE → DTE → DTE := dOp kIsN
def dNotN : DTE → DTE → DTE := dOp kNotN
theorem de_isN (ha : DE X a ta) (hb : DE X b tb) : DE X (.Compare a [.Is] [b] pos) (dIsN ta tb) := de_cmp op_isN kIsN_ok ha hb (nomark _)
theorem dt_isN (ha : DE X a ta) (hb : DE X b tb) : DT X (.Compare a [.Is] [b] pos) (dTV (dIsN ta tb)) := dt_cmp op_isN kIsN_ok ha hb (nomark _)
theorem de_notN (ha : DE X a ta) (hb : DE X b tb) : DE X (.Compare a [.IsNot] [b] pos) (dNotN ta tb) := de_cmp op_notN kNotN_ok ha hb (nomark _)
theorem dt_notN (ha : DE X a ta) (hb : DE X b tb) : DT X (.Compare a [.IsNot] [b] pos) (dTV (dNotN ta tb)) := dt_cmp op_notN kNotN_ok ha hb (nomark _)

/-! ### subscripts -/
/-- by a place of any sign -/
def getI {α : Type} (xs : List α) (i : Int) : Option α := atI xs i
theorem atI_rel {K : PySem.W.Frag} {F : Hp} {ds : List D} {vs : List V} {i : Int} {d : D} (r : RelDs K F ds vs) (h : atI ds i = some d) : ∃ v, atI vs i = some v ∧ RelD K F d v := by
  unfold atI at h ⊢
  rw [← r.length]
  cases q : ixN ds.length i with
  | none => rw [q] at h; cases h
  | some j =>
    rw [q] at h
    exact r.get h
def kIx : D → D → LH → DK → Prop := fun x y l Q => match x, y with
  | .tup ds, .int i => ∃ d, atI ds i = some d ∧ Q d l
  | .lst ds, .int i => ∃ d, atI ds i = some d ∧ Q d l
  | .ref a, .int i => getO l a fun o => match o with | .lst ds => ∃ d, atI ds i = some d ∧ Q d l | _ => False
  | .scr ns, .int i => ∃ d, atI (ns.map D.int) i = some d ∧ Q d l
  | .str z, .int i => z.length ≤ sizeLine ∧ ∃ c, atI z.cps.toList i = some c ∧ Q (.str ⟨#[c]⟩) l
  | _, _ => False
theorem kIx_ok : KOp X (rIx X.K) kIx := by
  intro F Fr l H Q d e v u Q' R rd re hq q
  cases rd with
  | @tup p vs ds h1 r1 =>
    cases re <;> try exact q.elim
    obtain ⟨d, hd, q⟩ := q
    obtain ⟨v, hv, rv⟩ := atI_rel r1 hd
    exact .inr (.inl ⟨p, vs, _, v, rfl, rfl, tq (R.fz _ _ h1), hv, hq _ _ (LK.mk rv R q)⟩)
  | @lst p vs ds h1 r1 =>
    cases re <;> try exact q.elim
    obtain ⟨d, hd, q⟩ := q
    obtain ⟨v, hv, rv⟩ := atI_rel r1 hd
    exact .inl ⟨p, vs, _, v, rfl, rfl, .inl (.inl (R.fz _ _ h1)), hv, hq _ _ (LK.mk rv R q)⟩
  | @scr p ns h1 =>
    cases re <;> try exact q.elim
    obtain ⟨d, hd, q⟩ := q
    obtain ⟨v, hv, rv⟩ := atI_rel (relDs_ints (K := X.K) (F := F) ns) hd
    exact .inl ⟨p, _, _, v, rfl, rfl, sqL_mono R.fz h1, hv, hq _ _ (LK.mk rv R q)⟩
  | ref a =>
    cases re <;> try exact q.elim
    obtain ⟨o, ho, q⟩ := q
    cases o with
    | lst ds =>
      obtain ⟨d, hd, q⟩ := q
      obtain ⟨vs, r1, h1⟩ := (R.lv _ _ ho).2
      obtain ⟨v, hv, rv⟩ := atI_rel r1 hd
      exact .inl ⟨a, vs, _, v, rfl, rfl, .inl (.inl h1), hv, hq _ _ (LK.mk rv R q)⟩
    | _ => exact q.elim
  | str z =>
    cases re <;> try exact q.elim
    obtain ⟨hz, c, hc, q⟩ := q
    exact .inr (.inr ⟨_, _, c, rfl, rfl, hz, hc, hq _ _ (LK.mk (.str _) R q)⟩)
  | _ => exact q.elim
def dIx : DTE → DTE → DTE := dOp kIx
theorem de_ix (ha : DE X a ta) (hb : DE X b tb) (hs : PlainIx b := by exact fun _ _ => rfl) : DE X (.Subscript a b pos) (dIx ta tb) :=
  ⟨fun F Fr env l σ H Q he hr ht => (pe_ix ix_seq peW peW hs).we (two kIx_ok ha hb he hr ht)⟩
/-- slices -/
def cutD (ds : List D) (lo hi : Option Int) : List D := (ds.drop (HT.sIx ds.length 0 lo)).take (HT.sIx ds.length ds.length hi - HT.sIx ds.length 0 lo)
theorem cut_rel {K : PySem.W.Frag} {F : Hp} {ds : List D} {vs : List V} (r : RelDs K F ds vs) (lo hi : Option Int) : RelDs K F (cutD ds lo hi) (cutV vs lo hi) := by
  unfold cutD cutV
  rw [← r.length]
  exact (r.drop _).take _
theorem cut_whole (ds : List D) (lo hi : Option Int) (h : HT.sIx ds.length 0 lo = 0 ∧ HT.sIx ds.length ds.length hi = ds.length) : cutD ds lo hi = ds := by
  unfold cutD
  rw [h.1, h.2, List.drop_zero, Nat.sub_zero, List.take_length]
abbrev DTO := DSt → LH → (Option Int → LH → Prop) → Prop
def LO (K : PySem.W.Frag) (F Fr : Hp) (Q : Option Int → LH → Prop) : Option Int → Hp → Prop := fun v H => ∃ F' l, Same F F' ∧ Rep K F' Fr l H ∧ Q v l
def WO (X : Cx) (e : Option Expr) : TO := fun σ H Q => ∀ pins s, Inv X pins σ H s → wpAny (model X.prog X.w) X.A (evalPart e X.env) (fun u s' => ∃ o H', Inv X pins σ H' s' ∧ IsPart u o ∧ Q o H') X.xe s
theorem poW {e : Option Expr} : PO X e (WO X e) := ⟨fun pins s _ _ _ I h => h pins s I⟩
theorem WO.mono {e : Option Expr} {σ : St} {H : Hp} {Q Q' : Option Int → Hp → Prop} (w : WO X e σ H Q) (h : ∀ v H, Q v H → Q' v H) : WO X e σ H Q' := fun pins s I => thn (w pins s I) fun _ _ ⟨o, H, a, b, c⟩ => ⟨o, H, a, b, h _ _ c⟩
structure DP (X : Cx) (e : Option Expr) (t : DTO) : Prop where
  run : ∀ F Fr env l σ H Q, RepE X.K F env σ → Rep X.K F Fr l H → t env l Q → WO X e σ H (LO X.K F Fr Q)
instance {X : Cx} {e : Option Expr} {t : DTO} : CoeFun (DP X e t) (fun _ => ∀ F Fr env l σ H Q, RepE X.K F env σ → Rep X.K F Fr l H → t env l Q → WO X e σ H (LO X.K F Fr Q)) := ⟨DP.run⟩
def oNo : DTO := fun _ l Q => Q none l
def oSm (t : DTE) : DTO := fun env l Q => t env l fun d l1 => match d with | .int i => Q (some i) l1 | _ => False
theorem dp_no : DP X none oNo := ⟨fun F Fr env l σ H Q he hr ht pins s I => po_none.run pins s σ H _ I ⟨F, l, Same.refl F, hr, ht⟩⟩
theorem dp_sm (h : DE X e te) : DP X (some e) (oSm te) := by
  refine ⟨?_⟩
  intro F Fr env l σ H Q he hr ht pins s I
  refine (po_some (peW (X := X) (e := e))).run pins s σ H _ I ?_
  refine (h F Fr env l σ H _ he hr ht).mono fun x H1 ⟨F1, d, l1, s1, r1, R1, q1⟩ => ?_
  cases r1 with
  | int i => exact ⟨i, rfl, F1, l1, s1, R1, q1⟩
  | _ => exact q1.elim
def kSl (x : D) (lo hi : Option Int) (l : LH) (Q : DK) : Prop := match x with
  | .tup ds => Q (.tup (cutD ds lo hi)) l
  | .lst ds => Q (.lst (cutD ds lo hi)) l
  | .scr ns => Q (.lst (cutD (ns.map D.int) lo hi)) l
  | .ref a => getO l a fun o => match o with | .lst ds => Q (.lst (cutD ds lo hi)) l | _ => False
  | _ => False
def dSl (te : DTE) (tl tu : DTO) : DTE := fun env l Q => te env l fun x l1 => tl env l1 fun lo l2 => tu env l2 fun hi l3 => kSl x lo hi l3 Q
def rSl2 (K : PySem.W.Frag) : V → Option Int → Option Int → Hp → VK → Prop := fun x lo hi H Q => rSlL K x lo hi H Q ∨ rSlA K x lo hi H Q
variable {lo hi : Option Expr} {tl tu : DTO} {p2 : Pos}
theorem de_sl (he : DE X e te) (hl : DP X lo tl) (hu : DP X hi tu) : DE X (.Subscript e (.Slice lo hi none p2) pos) (dSl te tl tu) := by
  refine ⟨?_⟩
  intro F Fr env l σ H Q hE hR ht
  refine (pe_slice (sl_list.or sl_tupA) peW poW poW).we ?_
  refine (he F Fr env l σ H _ hE hR ht).mono fun x H1 ⟨F1, d, l1, s1, r1, R1, q1⟩ => ?_
  refine (hl F1 Fr env l1 σ H1 _ (hE.mono s1) R1 q1).mono fun i H2 ⟨F2, l2, s2, R2, q2⟩ => ?_
  refine (hu F2 Fr env l2 σ H2 _ ((hE.mono s1).mono s2) R2 q2).mono fun j H3 ⟨F3, l3, s3, R3, q3⟩ => ?_
  have r3 := r1.mono (s2.trans s3)
  have S := s1.trans (s2.trans s3)
  cases r3 with
  | @tup p vs ds h1 rr =>
    refine .inr ⟨p, vs, rfl, tq (R3.fz _ _ h1), fun c => ?_, fun c p np => (LK.tup np R3 (cut_rel rr i j) q3).weak S⟩
    rw [← rr.length] at c
    have q4 : Q (.tup (cutD ds i j)) l3 := q3
    rw [cut_whole ds i j c] at q4
    exact (LK.mk (.tup h1 rr) R3 q4).weak S
  | @lst p vs ds h1 rr => exact .inl ⟨p, vs, rfl, .inl (.inl (R3.fz _ _ h1)), fun p np => (LK.lst np R3 (cut_rel rr i j) q3).weak S⟩
  | @scr p ns h1 => exact .inl ⟨p, _, rfl, sqL_mono R3.fz h1, fun p np => (LK.lst np R3 (cut_rel (relDs_ints ns) i j) q3).weak S⟩
  | ref a =>
    obtain ⟨o, ho, q3⟩ := q3
    cases o with
    | lst ds =>
      obtain ⟨vs, r1, h1⟩ := (R3.lv _ _ ho).2
      exact .inl ⟨a, vs, rfl, .inl (.inl h1), fun p np => (LK.lst np R3 (cut_rel r1 i j) q3).weak S⟩
    | _ => exact q3.elim
  | _ => exact q3.elim
end
end DL

namespace DL
open PySem PySem.Spec PyProof.Rows L2
/-! tuple * int, whatever the int -/
theorem tuple_mulSame (l : Addr) (items : Array Value) (n : Nat) (dd : Option Addr) (sl : Array (Option Value)) (x : Int) (u : Tok) (c0 : (decide (x < -(2 ^ 63)) || decide (x ≥ 2 ^ 63)) = false) (c1 : (items.isEmpty || x == 1) = true) :
    Meets (Builtin.«tuple.__mul__» ⟨[.ref l, .int x u], []⟩) (fun _ R s => s.heap.get? l = some { cls := .type "tuple", dict := dd, data := .seq items n, slots := sl } ∧ R (.ok (.ret (Value.ref l))) s) :=
  .of_wp fun prog w A R s h => by
    obtain ⟨hp, g, d, tk, os⟩ := s
    obtain ⟨hl, h⟩ := h
    have f1 := AutoSeq1.idx_int
    wp_walk using wpAny_loadPart' hl
    repeat (first
      | (refine wpAny_ite_false (decide_eq_false (by rw [c0]; exact Bool.false_ne_true)) ?_; wp_walk using wpAny_loadPart' hl)
      | (refine wpAny_ite_true (decide_eq_true (by rw [c1])) ?_; wp_walk using wpAny_loadPart' hl))
    exact ⟨_, rfl, h⟩
theorem tuple_mulNone (l : Addr) (items : Array Value) (n : Nat) (dd : Option Addr) (sl : Array (Option Value)) (x : Int) (u : Tok) (c0 : (decide (x < -(2 ^ 63)) || decide (x ≥ 2 ^ 63)) = false) (c1 : (items.isEmpty || x == 1) = false) (c2 : (decide (x ≤ 0) || items.isEmpty) = true) :
    Meets (Builtin.«tuple.__mul__» ⟨[.ref l, .int x u], []⟩) (fun _ R s => s.heap.get? l = some { cls := .type "tuple", dict := dd, data := .seq items n, slots := sl } ∧
      R (.ok (.ret (Value.ref s.heap.objs.size))) { s with heap := s.heap.push { cls := Value.type "tuple", data := Data.seq #[] }, toks := s.toks }) :=
  .of_wp fun prog w A R s h => by
    obtain ⟨hp, g, d, tk, os⟩ := s
    obtain ⟨hl, h⟩ := h
    have f1 := AutoSeq1.idx_int
    wp_walk using wpAny_loadPart' hl
    repeat (first
      | (refine wpAny_ite_false (decide_eq_false (by rw [c0]; exact Bool.false_ne_true)) ?_; wp_walk using wpAny_loadPart' hl)
      | (refine wpAny_ite_false (decide_eq_false (by rw [c1]; exact Bool.false_ne_true)) ?_; wp_walk using wpAny_loadPart' hl)
      | (refine wpAny_ite_true (decide_eq_true (by rw [c2])) ?_; wp_walk using wpAny_loadPart' hl))
    exact ⟨_, rfl, h⟩
def rMulT (K : PySem.W.Frag) : R2 := fun x y H Q => ∃ l k xs, x = .ref l ∧ y = .int k ∧ SqT K H l xs ∧ -(2 ^ 63) ≤ k ∧ k < 2 ^ 63 ∧ xs.length * k.toNat ≤ sizeLine ∧
  ((xs = [] ∨ k = 1) → Q (.ref l) H) ∧ (¬ (xs = [] ∨ k = 1) → ∀ p, H p = none → Q (.ref p) (upd H p (.tup (List.replicate k.toNat xs).flatten)))
section
variable {X : Cx}
theorem op_mulT : OpR X (binaryOp .Mult) (rMulT X.K) := by
  intro pins s σ H x y v u Q I rx ry h
  obtain ⟨l, k, xs, rfl, rfl, hT, h1, h2, hz, q1, q2⟩ := h
  cases rx
  obtain ⟨t, rfl⟩ := ry
  obtain ⟨its, r, ⟨⟨cls, dd, data, sl⟩, ho, hc, n, hd⟩, hs⟩ := I.tuple hT
  simp only at hc hd
  subst hc hd
  have hle : its.length = xs.length := r.length.symm
  have hsz0 : its.toArray.size = xs.length := by rw [List.size_toArray, hle]
  have c0 : (decide (k < -(2 ^ 63)) || decide (k ≥ 2 ^ 63)) = false := by
    rw [decide_eq_false (by omega), decide_eq_false (by omega)] <;> rfl
  refine wpAny_binaryOp_repeat_ref (T := "tuple") (U := "int") (by decide) ⟨_, ho, rfl⟩ (fun s' => typeIs_int s' k t) noFill_tuple_mul F.fills_int_mul F.slot_int_rmul repeat_tuple F.slot_int_index.lookup
    (call_meets F.slot_int_rmul (typeIs_int s k t) F.entry_int_rmul (F.args_int_rmul_2 _ _) (int_rmul_tuple k t l its.toArray n dd sl)
      ⟨ho, rfl, ⟨_, ho, rfl⟩, ?_⟩)
  have hemp : its.toArray.isEmpty = decide (xs = []) := by
    cases r with
    | nil => rfl
    | cons _ _ => rfl
  by_cases hw : xs = [] ∨ k = 1
  · refine call_meets F.slot_tuple_mul ⟨_, ho, rfl⟩ F.entry_tuple_mul (F.args_tuple_mul_2 _ _) (tuple_mulSame l its.toArray n dd sl k t c0 ?_) ⟨ho, ?_⟩
    · rw [hemp]
      rcases hw with e | e
      · rw [decide_eq_true e]; rfl
      · rw [e, beq_self_eq_true, Bool.or_true]
    · exact ⟨.ref l, H, I, rfl, q1 hw⟩
  · have hne : xs ≠ [] := fun e => hw (.inl e)
    have hi : its.toArray.isEmpty = false := by rw [hemp]; exact decide_eq_false hne
    have c1 : (its.toArray.isEmpty || k == 1) = false := by
      rw [hi, Bool.false_or]
      exact beq_eq_false_iff_ne.mpr fun e => hw (.inr e)
    have new : ∀ (ws : Array Value), Vals (List.replicate k.toNat xs).flatten ws.toList → EP X pins σ Q (.ref s.heap.objs.size) { s with heap := s.heap.push { cls := Value.type "tuple", data := Data.seq ws }, toks := s.toks } := fun ws rv => by
      refine ⟨.ref s.heap.objs.size, _, I.laid (t' := s.toks) (o := .tup (List.replicate k.toNat xs).flatten) (fun b ob q => Heap.get?_push_of_some _ q) (Nat.le_refl _) ?_, rfl, q2 hw _ (I.hok.fresh (Nat.le_refl _))⟩
      exact ⟨by rw [PyProof.Rows.lm_len_rep_flat, Nat.mul_comm]; exact hz, ws.toList, rv, IsTup.new _ _⟩
    by_cases hk : k ≤ 0
    · refine call_meets F.slot_tuple_mul ⟨_, ho, rfl⟩ F.entry_tuple_mul (F.args_tuple_mul_2 _ _) (tuple_mulNone l its.toArray n dd sl k t c0 c1 (by rw [decide_eq_true hk, Bool.true_or])) ⟨ho, ?_⟩
      have e0 : k.toNat = 0 := by omega
      exact new #[] (by rw [e0]; exact .nil)
    · have hN : xs.length * k.toNat ≤ 16777216 := by rw [← sizeLine_eq]; exact hz
      have hm : ((its.toArray.size : Nat) : Int) * k ≤ 16777216 := by
        rw [hsz0]
        have e1 : ((k.toNat : Nat) : Int) = k := by omega
        have e2 : ((xs.length : Nat) : Int) * k = ((xs.length * k.toNat : Nat) : Int) := by rw [← e1]; simp
        rw [e2]
        generalize xs.length * k.toNat = z at hN ⊢
        omega
      have flen : (List.replicate k.toNat its).flatten.length ≤ sizeLine := by
        rw [PyProof.Rows.lm_len_rep_flat, hle, Nat.mul_comm]
        exact hz
      have c2 : (decide (k ≤ 0) || its.toArray.isEmpty) = false := by
        rw [hi, Bool.or_false]
        exact decide_eq_false (by omega)
      have c4 : Builtin.Tuple.tupleTooMany (((its.toArray.size : Nat) : Int) * k) = false := by
        unfold Builtin.Tuple.tupleTooMany
        rw [sizeLine_eq]
        exact decide_eq_false (by omega)
      refine call_meets F.slot_tuple_mul ⟨_, ho, rfl⟩ F.entry_tuple_mul (F.args_tuple_mul_2 _ _) (tuple_mulW l its.toArray n dd sl k t c0 c1 c2 (by omega) c4 (by rw [size_rep, List.size_toArray]; exact flen)) ⟨ho, ?_⟩
      rw [size_rep]
      exact new _ (r.rep k.toNat)
/-- * -/
def kMul : D → D → LH → DK → Prop := fun x y l Q => match x, y with
  | .int i, .int j => IntMulOk i j ∧ Q (.int (i * j)) l
  | .tup xs, .int k => (-(2 ^ 63) ≤ k ∧ k < 2 ^ 63 ∧ xs.length * k.toNat ≤ sizeLine) ∧ Q (.tup (List.replicate k.toNat xs).flatten) l
  | .lst xs, .int k => (-(2 ^ 63) ≤ k ∧ k < 2 ^ 63 ∧ xs.length * k.toNat ≤ sizeLine) ∧ Q (.lst (List.replicate k.toNat xs).flatten) l
  | _, _ => False
def kMulM : D → D → LH → DK → Prop := fun x y l Q => match x, y with
  | .lst xs, .int k => (-(2 ^ 63) ≤ k ∧ k < 2 ^ 63 ∧ xs.length * k.toNat ≤ sizeLine) ∧ newL (.lst (List.replicate k.toNat xs).flatten) l Q
  | _, _ => False
theorem RelDs.rep {K : PySem.W.Frag} {F : Hp} {xs : List D} {us : List V} (h : RelDs K F xs us) : ∀ k : Nat, RelDs K F (List.replicate k xs).flatten (List.replicate k us).flatten
  | 0 => .nil
  | k + 1 => by
    rw [List.replicate_succ, List.replicate_succ, List.flatten_cons, List.flatten_cons]
    exact h.append (RelDs.rep h k)
def rMul3 (K : PySem.W.Frag) : R2 := fun x y H Q => rI IntMulOk (fun i j => .int (i * j)) x y H Q ∨ (rMulT K x y H Q ∨ rRep x y H Q)
theorem op_mul3 : OpR X (binaryOp .Mult) (rMul3 X.K) := op_mulA.or (op_mulT.or op_rep)
theorem kMul_ok : KOp X (rMul3 X.K) kMul := by
  intro F Fr l H Q d e v u Q' R rd re hq q
  cases rd with
  | int i =>
    cases re <;> try exact q.elim
    exact .inl ⟨_, _, rfl, rfl, q.1, hq _ _ (LK.mk (.int _) R q.2)⟩
  | @tup p vs ds h1 rr =>
    cases re <;> try exact q.elim
    rename_i k
    obtain ⟨⟨a1, a2, a3⟩, q⟩ := q
    refine .inr (.inl ⟨p, k, vs, rfl, rfl, tq (R.fz _ _ h1), a1, a2, by rw [← rr.length]; exact a3, fun c => ?_, fun c p np => hq _ _ (LK.tup np R (rr.rep _) q)⟩)
    have e : (List.replicate k.toNat ds).flatten = ds := by
      rcases c with c | c
      · subst c
        cases rr
        simp
      · subst c
        show (List.replicate 1 ds).flatten = ds
        simp
    rw [e] at q
    exact hq _ _ (LK.mk (.tup h1 rr) R q)
  | @lst p vs ds h1 rr =>
    cases re <;> try exact q.elim
    obtain ⟨⟨a1, a2, a3⟩, q⟩ := q
    exact .inr (.inr ⟨p, _, vs, rfl, rfl, R.fz _ _ h1, a1, a2, by rw [← rr.length]; exact a3, fun p np => hq _ _ (LK.lst np R (rr.rep _) q)⟩)
  | _ => exact q.elim
theorem kMulM_ok : KOp X (rMul3 X.K) kMulM := by
  intro F Fr l H Q d e v u Q' R rd re hq q
  cases rd with
  | @lst p vs ds h1 rr =>
    cases re <;> try exact q.elim
    obtain ⟨⟨a1, a2, a3⟩, q⟩ := q
    exact .inr (.inr ⟨p, _, vs, rfl, rfl, R.fz _ _ h1, a1, a2, by rw [← rr.length]; exact a3, fun p np => hq _ _ (LK.mut np R (rr.rep _) q)⟩)
  | _ => exact q.elim
variable {a b e : Expr} {ta tb tc te : DTE} {pos : Pos}
def dMul : DTE → DTE → DTE := dOp kMul
def dMulM : DTE → DTE → DTE := dOp kMulM
theorem de_mul (ha : DE X a ta) (hb : DE X b tb) : DE X (.BinOp a .Mult b pos) (dMul ta tb) := de_op op_mul3 kMul_ok ha hb
theorem de_mulM (ha : DE X a ta) (hb : DE X b tb) : DE X (.BinOp a .Mult b pos) (dMulM ta tb) := de_op op_mul3 kMulM_ok ha hb
end
end DL

namespace DL
open PySem PySem.Spec PyProof.Rows L2

/-! ### built-ins -/
section
variable {X : Cx}
def kLen : List D → LH → DK → Prop := fun ds l Q => match ds with
  | [.tup xs] => Q (.int xs.length) l
  | [.lst xs] => Q (.int xs.length) l
  | [.scr xs] => Q (.int xs.length) l
  | [.str z] => z.length ≤ sizeLine ∧ Q (.int z.length) l
  | [.ref a] => getO l a fun o => match o with | .lst xs => Q (.int xs.length) l | _ => False
  | _ => False
theorem call_len2 : CallR X (.builtin "len") (fun xs H Q => (∃ p ys, xs = [.ref p] ∧ (SqL X.K H p ys ∨ SqT X.K H p ys) ∧ Q (.int ys.length) H) ∨ ∃ z, xs = [.str z] ∧ z.length ≤ sizeLine ∧ Q (.int z.length) H) := call_len_seq.or call_len_str
theorem kLen_ok : KCall X (fun xs H Q => (∃ p ys, xs = [.ref p] ∧ (SqL X.K H p ys ∨ SqT X.K H p ys) ∧ Q (.int ys.length) H) ∨ ∃ z, xs = [.str z] ∧ z.length ≤ sizeLine ∧ Q (.int z.length) H) kLen := by
  intro F Fr l H Q ds vs Q' R rd hq q
  cases rd with
  | nil => exact q.elim
  | cons r1 rr =>
    cases rr with
    | cons _ _ => cases r1 <;> exact q.elim
    | nil =>
      cases r1 with
      | @tup p vs ds h1 r1 => exact .inl ⟨p, vs, rfl, .inr (tq (R.fz _ _ h1)), hq _ _ (LK.mk (.int _) R (by rw [← r1.length]; exact q))⟩
      | @lst p vs ds h1 r1 => exact .inl ⟨p, vs, rfl, .inl (.inl (.inl (R.fz _ _ h1))), hq _ _ (LK.mk (.int _) R (by rw [← r1.length]; exact q))⟩
      | @scr p ns h1 => exact .inl ⟨p, _, rfl, .inl (sqL_mono R.fz h1), hq _ _ (LK.mk (.int _) R (by rw [List.length_map]; exact q))⟩
      | str z => exact .inr ⟨_, rfl, q.1, hq _ _ (LK.mk (.int _) R q.2)⟩
      | ref a =>
        obtain ⟨o, ho, q⟩ := q
        cases o with
        | lst ds =>
          obtain ⟨vs, r1, h1⟩ := (R.lv _ _ ho).2
          exact .inl ⟨a, vs, rfl, .inl (.inl (.inl h1)), hq _ _ (LK.mk (.int _) R (by rw [← r1.length]; exact q))⟩
        | _ => exact q.elim
      | _ => exact q.elim
def kAbs : List D → LH → DK → Prop := fun ds l Q => match ds with
  | [.int i] => Q (.int (if i < 0 then -i else i)) l
  | _ => False
theorem kAbs_ok : KCall X (fun xs H Q => ∃ i, xs = [.int i] ∧ Q (.int (if i < 0 then -i else i)) H) kAbs := by
  intro F Fr l H Q ds vs Q' R rd hq q
  cases rd with
  | nil => exact q.elim
  | cons r1 rr =>
    cases rr with
    | cons _ _ => cases r1 <;> exact q.elim
    | nil =>
      cases r1 <;> try exact q.elim
      exact ⟨_, rfl, hq _ _ (LK.mk (.int _) R q)⟩
/-- int(n), int(flag) -/
def kInt1 : List D → LH → DK → Prop := fun ds l Q => match ds with
  | [.int i] => Q (.int i) l
  | [.bl b] => Q (.int (if b then 1 else 0)) l
  | _ => False
theorem kInt1_ok : KCall X (fun xs H Q => (∃ i, xs = [.int i] ∧ Q (.int i) H) ∨ ∃ k, xs = [.bl k] ∧ Q (.int (if k then 1 else 0)) H) kInt1 := by
  intro F Fr l H Q ds vs Q' R rd hq q
  cases rd with
  | nil => exact q.elim
  | cons r1 rr =>
    cases rr with
    | cons _ _ => cases r1 <;> exact q.elim
    | nil =>
      cases r1 <;> try exact q.elim
      · exact .inr ⟨_, rfl, hq _ _ (LK.mk (.int _) R q)⟩
      · exact .inl ⟨_, rfl, hq _ _ (LK.mk (.int _) R q)⟩
def kMax : List D → LH → DK → Prop := fun ds l Q => match ds with
  | [.int i, .int j] => Q (.int (if j > i then j else i)) l
  | _ => False
theorem kMax_ok : KCall X (fun xs H Q => ∃ i j, xs = [.int i, .int j] ∧ Q (.int (if j > i then j else i)) H) kMax := by
  intro F Fr l H Q ds vs Q' R rd hq q
  cases rd with
  | nil => exact q.elim
  | cons r1 rr =>
    cases r1 <;> try (cases rr <;> exact q.elim)
    cases rr with
    | nil => exact q.elim
    | cons r2 rr =>
      cases rr with
      | cons _ _ => cases r2 <;> exact q.elim
      | nil =>
        cases r2 <;> try exact q.elim
        exact ⟨_, _, rfl, hq _ _ (LK.mk (.int _) R q)⟩
def kMin : List D → LH → DK → Prop := fun ds l Q => match ds with
  | [.int i, .int j] => Q (.int (if j < i then j else i)) l
  | _ => False
theorem kMin_ok : KCall X (fun xs H Q => ∃ i j, xs = [.int i, .int j] ∧ Q (.int (if j < i then j else i)) H) kMin := by
  intro F Fr l H Q ds vs Q' R rd hq q
  cases rd with
  | nil => exact q.elim
  | cons r1 rr =>
    cases r1 <;> try (cases rr <;> exact q.elim)
    cases rr with
    | nil => exact q.elim
    | cons r2 rr =>
      cases rr with
      | cons _ _ => cases r2 <;> exact q.elim
      | nil =>
        cases r2 <;> try exact q.elim
        exact ⟨_, _, rfl, hq _ _ (LK.mk (.int _) R q)⟩
def kDivmod : List D → LH → DK → Prop := fun ds l Q => match ds with
  | [.int i, .int j] => CDiv i j ∧ Q (.tup [.int (i / j), .int (i % j)]) l
  | _ => False
theorem kDivmod_ok : KCall X (fun xs H Q => ∃ i j, xs = [.int i, .int j] ∧ CDiv i j ∧ ∀ p, H p = none → Q (.ref p) (upd H p (.tup [.int (i / j), .int (i % j)]))) kDivmod := by
  intro F Fr l H Q ds vs Q' R rd hq q
  cases rd with
  | nil => exact q.elim
  | cons r1 rr =>
    cases r1 <;> try (cases rr <;> exact q.elim)
    cases rr with
    | nil => exact q.elim
    | cons r2 rr =>
      cases rr with
      | cons _ _ => cases r2 <;> exact q.elim
      | nil =>
        cases r2 <;> try exact q.elim
        exact ⟨_, _, rfl, q.1, fun p np => hq _ _ (LK.tup np R (.cons (.int _) (.cons (.int _) .nil)) q.2)⟩
/-- list(x), tuple(x) -/
def kList (new : List D → LH → DK → Prop) : List D → LH → DK → Prop := fun ds l Q => match ds with
  | [.tup xs] => new xs l Q
  | [.lst xs] => new xs l Q
  | [.ref a] => getO l a fun o => match o with | .lst xs => new xs l Q | _ => False
  | _ => False
def nLst : List D → LH → DK → Prop := fun xs l Q => Q (.lst xs) l
def nMut : List D → LH → DK → Prop := fun xs l Q => newL (.lst xs) l Q
def nTup : List D → LH → DK → Prop := fun xs l Q => Q (.tup xs) l
def kListF := kList nLst
def kListM := kList nMut
def kTuple := kList nTup
theorem kList_ok {new : List D → LH → DK → Prop} (hn : ∀ {F Fr : Hp} {l : LH} {H : Hp} {Q : DK} {vs : List V} {ds : List D} {p : Addr}, H p = none → Rep X.K F Fr l H → RelDs X.K F ds vs → new ds l Q → LK X.K F Fr Q (.ref p) (upd H p (.lst vs))) :
    KCall X (fun xs H Q => ∃ p ys, xs = [.ref p] ∧ (SqL X.K H p ys ∨ SqT X.K H p ys) ∧ ∀ l, H l = none → Q (.ref l) (upd H l (.lst ys))) (kList new) := by
  intro F Fr l H Q ds vs Q' R rd hq q
  cases rd with
  | nil => exact q.elim
  | cons r1 rr =>
    cases rr with
    | cons _ _ => cases r1 <;> exact q.elim
    | nil =>
      cases r1 with
      | @tup p vs ds h1 r1 => exact ⟨p, vs, rfl, .inr (tq (R.fz _ _ h1)), fun p np => hq _ _ (hn np R r1 q)⟩
      | @lst p vs ds h1 r1 => exact ⟨p, vs, rfl, .inl (.inl (.inl (R.fz _ _ h1))), fun p np => hq _ _ (hn np R r1 q)⟩
      | ref a =>
        obtain ⟨o, ho, q⟩ := q
        cases o with
        | lst ds =>
          obtain ⟨vs, r1, h1⟩ := (R.lv _ _ ho).2
          exact ⟨a, vs, rfl, .inl (.inl (.inl h1)), fun p np => hq _ _ (hn np R r1 q)⟩
        | _ => exact q.elim
      | _ => exact q.elim
theorem kListF_ok : KCall X (fun xs H Q => ∃ p ys, xs = [.ref p] ∧ (SqL X.K H p ys ∨ SqT X.K H p ys) ∧ ∀ l, H l = none → Q (.ref l) (upd H l (.lst ys))) kListF := kList_ok fun np R r q => LK.lst np R r q
theorem kListM_ok : KCall X (fun xs H Q => ∃ p ys, xs = [.ref p] ∧ (SqL X.K H p ys ∨ SqT X.K H p ys) ∧ ∀ l, H l = none → Q (.ref l) (upd H l (.lst ys))) kListM := kList_ok fun np R r q => LK.mut np R r q
theorem kTuple_ok : KCall X (fun xs H Q => ∃ p ys, xs = [.ref p] ∧ ((SqL X.K H p ys ∧ ∀ l, H l = none → Q (.ref l) (upd H l (.tup ys))) ∨ (SqT X.K H p ys ∧ Q (.ref p) H))) kTuple := by
  intro F Fr l H Q ds vs Q' R rd hq q
  cases rd with
  | nil => exact q.elim
  | cons r1 rr =>
    cases rr with
    | cons _ _ => cases r1 <;> exact q.elim
    | nil =>
      cases r1 with
      | @tup p vs ds h1 r1 => exact ⟨p, vs, rfl, .inr ⟨tq (R.fz _ _ h1), hq _ _ (LK.mk (.tup h1 r1) R q)⟩⟩
      | @lst p vs ds h1 r1 => exact ⟨p, vs, rfl, .inl ⟨.inl (.inl (R.fz _ _ h1)), fun p np => hq _ _ (LK.tup np R r1 q)⟩⟩
      | ref a =>
        obtain ⟨o, ho, q⟩ := q
        cases o with
        | lst ds =>
          obtain ⟨vs, r1, h1⟩ := (R.lv _ _ ho).2
          exact ⟨a, vs, rfl, .inl ⟨.inl (.inl h1), fun p np => hq _ _ (LK.tup np R r1 q)⟩⟩
        | _ => exact q.elim
      | _ => exact q.elim
/-- all, any, sum over what a list holds -/
def blsOf : List D → Option (List Bool)
  | [] => some []
  | .bl i :: r => (blsOf r).map fun s => i :: s
  | _ :: _ => none
theorem blsOf_map : ∀ ns : List Bool, blsOf (ns.map D.bl) = some ns
  | [] => rfl
  | n :: ns => by
    show (blsOf (ns.map D.bl)).map _ = _
    rw [blsOf_map ns]
    rfl
def kAll : List D → LH → DK → Prop := fun ds l Q => match ds with
  | [.lst xs] => ∃ bs : List Bool, xs = bs.map D.bl ∧ Q (.bl (bs.all id)) l
  | _ => False
def kAny : List D → LH → DK → Prop := fun ds l Q => match ds with
  | [.lst xs] => ∃ bs : List Bool, xs = bs.map D.bl ∧ Q (.bl (bs.any id)) l
  | _ => False
theorem kAll_ok : KCall X (rAll X.K) kAll := by
  intro F Fr l H Q ds vs Q' R rd hq q
  cases rd with
  | nil => exact q.elim
  | cons r1 rr =>
    cases rr with
    | cons _ _ => cases r1 <;> exact q.elim
    | nil =>
      cases r1 <;> try exact q.elim
      rename_i h1 r1
      obtain ⟨bs, rfl, q⟩ := q
      have e := r1.bls
      subst e
      exact ⟨_, bs, rfl, .inl (.inl (R.fz _ _ h1)), hq _ _ (LK.mk (.bl _) R q)⟩
theorem kAny_ok : KCall X (rAny X.K) kAny := by
  intro F Fr l H Q ds vs Q' R rd hq q
  cases rd with
  | nil => exact q.elim
  | cons r1 rr =>
    cases rr with
    | cons _ _ => cases r1 <;> exact q.elim
    | nil =>
      cases r1 <;> try exact q.elim
      rename_i h1 r1
      obtain ⟨bs, rfl, q⟩ := q
      have e := r1.bls
      subst e
      exact ⟨_, bs, rfl, .inl (.inl (R.fz _ _ h1)), hq _ _ (LK.mk (.bl _) R q)⟩
def kSum : List D → LH → DK → Prop := fun ds l Q => match ds with
  | [.lst xs] => ∃ bs : List Int, xs = bs.map D.int ∧ Q (.int bs.sum) l
  | _ => False
theorem kSum_ok : KCall X (rSum X.K) kSum := by
  intro F Fr l H Q ds vs Q' R rd hq q
  cases rd with
  | nil => exact q.elim
  | cons r1 rr =>
    cases rr with
    | cons _ _ => cases r1 <;> exact q.elim
    | nil =>
      cases r1 <;> try exact q.elim
      rename_i h1 r1
      obtain ⟨bs, rfl, q⟩ := q
      have e := r1.ints
      subst e
      exact ⟨_, bs, rfl, .inl (.inl (R.fz _ _ h1)), hq _ _ (LK.mk (.int _) R q)⟩

/-! isinstance -/
inductive Ty | non | bl | int | str | tup | lst
def tyName : Ty → String
  | .non => "NoneType" | .bl => "bool" | .int => "int" | .str => "str" | .tup => "tuple" | .lst => "list"
def isTy : Ty → Ty → Bool
  | .non, .non | .bl, .bl | .int, .int | .str, .str | .tup, .tup | .lst, .lst | .bl, .int => true
  | _, _ => false
theorem isTy_ok : ∀ a b : Ty, kitB (tyName a) (tyName b) = some (isTy a b) := by
  intro a b
  cases a <;> cases b <;> decide +kernel
def tyK (d : D) (l : LH) (k : Ty → Prop) : Prop := match d with
  | .non => k .non | .bl _ => k .bl | .int _ => k .int | .str _ => k .str | .tup _ => k .tup | .lst _ => k .lst
  | .ref a => getO l a fun o => match o with | .lst _ => k .lst | _ => False
  | _ => False
theorem tyK_ok {K : PySem.W.Frag} {F Fr H : Hp} {l : LH} {d : D} {v : V} {k : Ty → Prop} (R : Rep K F Fr l H) (r : RelD K F d v) (q : tyK d l k) : ∃ t, k t ∧ TyX K H v (.type (tyName t)) := by
  cases r with
  | non => exact ⟨_, q, .base .non⟩
  | bl b => exact ⟨_, q, .base (.bl b)⟩
  | int i => exact ⟨_, q, .base (.int i)⟩
  | str i => exact ⟨_, q, .base (.str i)⟩
  | tup h1 r1 =>
    refine ⟨_, q, ?_⟩
    exact .base (.tup (R.fz _ _ h1))
  | lst h1 r1 => exact ⟨_, q, .base (.lst (R.fz _ _ h1))⟩
  | ref a =>
    obtain ⟨o, ho, q⟩ := q
    cases o with
    | lst ds =>
      obtain ⟨vs, r1, h1⟩ := (R.lv _ _ ho).2
      exact ⟨_, q, .base (.lst h1)⟩
    | _ => exact q.elim
  | _ => exact q.elim
variable {a b e : Expr} {ta tb tc te : DTE} {pos : Pos} {es : List Expr} {u : DTA}
def dIsI (T : Ty) (te : DTE) : DTE := fun env l Q => te env l fun d l1 => tyK d l1 fun t => Q (.bl (isTy t T)) l1
theorem ClsVty (n : String) : ClsV (.ty n) (.type n) := by constructor
theorem de_isI {x y : Str} {p p2 : Pos} (T : Ty) (hx : x = "isinstance" := by rfl) (hg : Gl X x) (hm : X.mg x = none) (hv : bootBuiltins x = some (.builtin "isinstance")) (hg2 : Gl X y) (hm2 : X.mg y = none) (hv2 : bootBuiltins y = some (.type (tyName T))) (hn2 : y ≠ "__name__") (hd2 : (y == ("__debug__" : Str)) = false) (h : DE X e te)
    (he : starEach (e :: [.Name y p2]) X.env = (false, eval e X.env) :: starEach [.Name y p2] X.env := by rfl) : DE X (.Call (.Name x p) [e, .Name y p2] [] pos) (dIsI T te) := by
  refine ⟨?_⟩
  intro F Fr env l σ H Q hE hR ht
  subst hx
  refine (pe_callB call_isi hg hm hv (pa_cons peW (pa_cons (pe_bltn (v := .ty (tyName T)) hg2 hm2 hv2 rfl hn2 hd2) pa_nil) he) (by decide) (by decide) he).we ?_
  refine (h F Fr env l σ H _ hE hR ht).mono fun x H1 ⟨F1, d, l1, s1, r1, R1, q1⟩ => ?_
  obtain ⟨t, q2, ty⟩ := tyK_ok R1 r1 q1
  exact ⟨x, .ty (tyName T), _, _, isTy t T, rfl, ClsVty _, ty, kit_ty (isTy_ok t T), F1, _, l1, s1, .bl _, R1, q2⟩

theorem de_len (hg : Gl X "len") (hm : X.mg "len" = none) {p : Pos} (h : DE X e te) (he : starEach [e] X.env = (false, eval e X.env) :: starEach [] X.env := by rfl) : DE X (.Call (.Name "len" p) [e] [] pos) (dCall kLen (aCons te aNil)) :=
  de_callB call_len2 kLen_ok hg hm PySem.boot_len (da_cons h da_nil he) (by decide) (by decide) he
end
end DL

namespace DL
open PySem PySem.Spec PyProof.Rows L2

/-! ### targets -/
theorem wipe_len (σ : St) (vs : List Nat) : (L2.wipe σ vs).length = σ.length := wipe_length σ vs
theorem wipe_set {i : Nat} {x : Option V} : ∀ {vs : List Nat} {σ : St}, i ∈ vs → L2.wipe (σ.set i x) vs = L2.wipe σ vs := by
  have key : ∀ (vs : List Nat) (σ : St), (i ∈ vs → L2.wipe (σ.set i x) vs = L2.wipe σ vs) ∧ (i ∉ vs → L2.wipe (σ.set i x) vs = (L2.wipe σ vs).set i x) := by
    intro vs
    induction vs with
    | nil => exact fun σ => ⟨fun h => by simp at h, fun _ => rfl⟩
    | cons v vs ih =>
      intro σ
      obtain ⟨h1, h2⟩ := ih σ
      constructor
      · intro h
        show (L2.wipe (σ.set i x) vs).set v none = (L2.wipe σ vs).set v none
        by_cases hi : i ∈ vs
        · rw [h1 hi]
        · have e : i = v := by
            rcases List.mem_cons.mp h with e | e
            · exact e
            · exact absurd e hi
          subst e
          rw [h2 hi, List.set_set]
      · intro h
        simp only [List.mem_cons, not_or] at h
        show (L2.wipe (σ.set i x) vs).set v none = ((L2.wipe σ vs).set v none).set i x
        rw [h2 h.2, List.set_comm _ _ h.1]
  intro vs σ h
  exact (key vs σ).1 h
section
variable {X : Cx}
def gName (i : Nat) : DTG := fun d env l Q => setK env i d fun env' => Q env' l
theorem dg_name {i : Nat} {x : Str} {pos : Pos} {vs : List Nat} (hN : X.N.Nodup) (hi : X.N[i]? = some x) (hx : Loc X.env.scope x) (hv : i ∈ vs) (hf : X.fn x = true ∨ X.env.scope.names.lookup x = some .local := by first | exact .inl rfl | exact .inr rfl | assumption) : DG X (.Name x pos) vs (gName i) := by
  refine ⟨?_⟩
  intro F Fr env l σ H d v Q he hr hd ht
  refine (pg_name hN hi hx hf).wg ?_
  unfold gName at ht
  rw [setK_eq] at ht
  exact ⟨wipe_set hv, F, _, l, Same.refl F, he.set hd i, hr, ht⟩
def gNil : List D → DSt → LH → (DSt → LH → Prop) → Prop := fun ds env l Q => match ds with | [] => Q env l | _ => False
def gCons (g : DTG) (u : List D → DSt → LH → (DSt → LH → Prop) → Prop) : List D → DSt → LH → (DSt → LH → Prop) → Prop := fun ds env l Q => match ds with
  | d :: r => g d env l fun env1 l1 => u r env1 l1 Q
  | [] => False
def gTup (n : Nat) (u : List D → DSt → LH → (DSt → LH → Prop) → Prop) : DTG := fun d env l Q => match d with
  | .tup ds => ds.length = n ∧ u ds env l Q
  | .lst ds => ds.length = n ∧ u ds env l Q
  | .ref a => getO l a fun o => match o with | .lst ds => ds.length = n ∧ u ds env l Q | _ => False
  | _ => False
theorem dgs_nil {vs : List Nat} : DGs X [] vs gNil := by
  refine ⟨?_⟩
  intro F Fr env l σ H d v Q he hr hd ht
  cases hd with
  | nil => exact pgs_nil.wgs ⟨rfl, rfl, F, env, l, Same.refl F, he, hr, ht⟩
  | cons _ _ => exact ht.elim
theorem LS.weak' {K : PySem.W.Frag} {F F1 Fr : Hp} (h : Same F F1) {Q : DSt → LH → Prop} {v : St} {H : Hp} : LS K F1 Fr Q v H → LS K F Fr Q v H := fun q => q.weak h
theorem dgs_cons {e : Expr} {es : List Expr} {vs : List Nat} {g : DTG} {u : List D → DSt → LH → (DSt → LH → Prop) → Prop} (h1 : DG X e vs g) (h2 : DGs X es vs u)
    (hm : (assignEach (e :: es) X.env).map (·.2) = assign e X.env :: (assignEach es X.env).map (·.2) := by rfl) : DGs X (e :: es) vs (gCons g u) := by
  refine ⟨?_⟩
  intro F Fr env l σ H d v Q he hr hd ht
  cases hd with
  | nil => exact ht.elim
  | cons r1 rr =>
    refine (pgs_cons pgW pgsW hm).wgs ?_
    refine ⟨_, _, rfl, ?_⟩
    refine (h1 F Fr env l σ H _ _ _ he hr r1 ht).mono fun σ1 H1 ⟨w1, F1, env1, l1, s1, he1, R1, q1⟩ => ?_
    refine (h2 F1 Fr env1 l1 σ1 H1 _ _ _ he1 R1 (rr.mono s1) q1).mono fun σ2 H2 ⟨w2, q2⟩ => ?_
    exact ⟨w2.trans w1, q2.weak s1⟩
theorem dg_tup {es : List Expr} {k n : Nat} {pos : Pos} {vs : List Nat} {u : List D → DSt → LH → (DSt → LH → Prop) → Prop} (hc : X.calm = true) (h : DGs X es vs u)
    (hn : (assignEach es X.env).length = n := by rfl) (hst : (assignEach es X.env).findIdx? (·.1) = none := by rfl) : DG X (.Tuple es k pos) vs (gTup n u) := by
  refine ⟨?_⟩
  intro F Fr env l σ H d v Q he hr hd ht
  cases hd with
  | @tup p vs ds h1 rr =>
    refine (pg_tup hc pgsW hn hst).wg ?_
    exact ⟨p, _, rfl, tq (hr.fz _ _ h1), by rw [← rr.length]; exact ht.1, h F Fr env l σ H _ _ _ he hr rr ht.2⟩
  | @lst p vs ds h1 rr =>
    refine (pg_unl hc pgsW hn hst).wg ?_
    exact ⟨p, _, rfl, .inl (.inl (hr.fz _ _ h1)), by rw [← rr.length]; exact ht.1, h F Fr env l σ H _ _ _ he hr rr ht.2⟩
  | ref a =>
    obtain ⟨o, ho, ht⟩ := ht
    cases o with
    | lst ds =>
      obtain ⟨vs, rr, h1⟩ := (hr.lv _ _ ho).2
      refine (pg_unl hc pgsW hn hst).wg ?_
      exact ⟨a, _, rfl, .inl (.inl h1), by rw [← rr.length]; exact ht.1, h F Fr env l σ H _ _ _ he hr rr ht.2⟩
    | _ => exact ht.elim
  | _ => exact ht.elim
/-- o[i] = v -/
def gSub (to ti : DTE) (k : D → D → D → LH → (LH → Prop) → Prop) : DTG := fun d env l Q => to env l fun o l1 => ti env l1 fun i l2 => k o i d l2 fun l3 => Q env l3
def KSet (X : Cx) (t : TSet) (k : D → D → D → LH → (LH → Prop) → Prop) : Prop := ∀ F Fr l H (Q : LH → Prop) o i d ov iv v (Q' : Hp → Prop), Rep X.K F Fr l H → RelD X.K F o ov → RelD X.K F i iv → RelD X.K F d v → (∀ H, LH' X.K F Fr Q H → Q' H) → k o i d l Q → t ov iv v H Q'
theorem dg_sub {o i : Expr} {to ti : DTE} {t : TSet} {k : D → D → D → LH → (LH → Prop) → Prop} {pos : Pos} {vs : List Nat} (hs : PSet X t) (hk : KSet X t k) (ho : DE X o to) (hi : DE X i ti)
    (ha : ∀ v, assign (.Subscript o i pos) X.env v = (do
      let ov ← holding [v] (eval o X.env)
      let iv ← holding [v, ov] (eval i X.env)
      standAt pos
      holding [v, ov, iv] (setItem ov iv v)
      release [v, ov, iv] []) := by intro _; rfl) : DG X (.Subscript o i pos) vs (gSub to ti k) := by
  refine ⟨?_⟩
  intro F Fr env l σ H d v Q he hr hd ht
  refine (pg_sub peW peW hs ha).wg ?_
  refine (ho F Fr env l σ H _ he hr ht).mono fun x H1 ⟨F1, d1, l1, s1, r1, R1, q1⟩ => ?_
  refine (hi F1 Fr env l1 σ H1 _ (he.mono s1) R1 q1).mono fun y H2 ⟨F2, d2, l2, s2, r2, R2, q2⟩ => ?_
  refine hk F2 Fr l2 H2 _ d1 d2 d x y v _ R2 (r1.mono s2) r2 (hd.mono (s1.trans s2)) (fun H3 q => ?_) q2
  obtain ⟨F3, l3, s3, R3, q3⟩ := q
  exact ⟨rfl, F3, env, l3, s1.trans (s2.trans s3), he.mono (s1.trans (s2.trans s3)), R3, q3⟩
def kSetL : D → D → D → LH → (LH → Prop) → Prop := fun o i d l Q => match o, i with
  | .ref a, .int k => getO l a fun u => match u with | .lst ds => ∃ j, ixN ds.length k = some j ∧ Q (uL l a (.lst (ds.set j d))) | _ => False
  | _, _ => False
theorem kSetL_ok : KSet X rSetL kSetL := by
  intro F Fr l H Q o i d ov iv v Q' R ro ri rd hq q
  cases ro <;> try exact q.elim
  cases ri <;> try exact q.elim
  obtain ⟨u, ho, q⟩ := q
  cases u with
  | lst ds =>
    obtain ⟨j, hj, q⟩ := q
    obtain ⟨vs, rr, h1⟩ := (R.lv _ _ ho).2
    exact ⟨_, vs, _, j, rfl, rfl, h1, by rw [← rr.length]; exact hj, hq _ ⟨F, _, Same.refl F, R.write ho rfl (show DOk X.K F _ _ (.lst (ds.set j d)) from ⟨_, rr.set rd j, upd_same⟩), q⟩⟩
  | _ => exact q.elim
def gIx (to ti : DTE) : DTG := gSub to ti kSetL

/-! ### statements -/
section
variable {e : Expr} {te : DTE} {st : Stmt} {rest : List Stmt} {t u : DTS} {pos : Pos}
def sSeq (t u : DTS) : DTS := fun E env l => t ⟨u E, E.rt, E.bk, E.ct⟩ env l
def sNext : DTS := fun E env l => E.nx env l
def sBreak : DTS := fun E env l => E.bk env l
def sCont : DTS := fun E env l => E.ct env l
theorem dss_nil : DSs X [] sNext := ⟨fun F Fr env l σ H E he hr ht => pss_nil.wss ⟨F, env, l, Same.refl F, he, hr, ht⟩⟩
theorem dss_one (h : DS X st t) : DSs X [st] t := ⟨fun F Fr env l σ H E he hr ht => (pss_one psW).wss (h F Fr env l σ H E he hr ht)⟩
theorem dss_cons (h1 : DS X st t) (h2 : DSs X rest u) : DSs X (st :: rest) (sSeq t u) := by
  refine ⟨?_⟩
  intro F Fr env l σ H E he hr ht
  refine (pss_cons psW pssW).wss ?_
  refine (h1 F Fr env l σ H _ he hr ht).mono (fun σ1 H1 ⟨F1, env1, l1, s1, he1, R1, q1⟩ => ?_) (fun _ _ q => q) (fun _ _ q => q) (fun _ _ q => q)
  exact (h2 F1 Fr env1 l1 σ1 H1 E he1 R1 q1).mono (fun _ _ q => LS.weak s1 q) (fun _ _ q => LK.weak s1 q) (fun _ _ q => LS.weak s1 q) (fun _ _ q => LS.weak s1 q)
theorem ds_pass : DS X (.Pass pos) sNext := ⟨fun F Fr env l σ H E he hr ht => ps_pass.ws ⟨F, env, l, Same.refl F, he, hr, ht⟩⟩
theorem ds_break : DS X (.Break pos) sBreak := ⟨fun F Fr env l σ H E he hr ht => ps_break.ws ⟨F, env, l, Same.refl F, he, hr, ht⟩⟩
theorem ds_cont : DS X (.Continue pos) sCont := ⟨fun F Fr env l σ H E he hr ht => ps_continue.ws ⟨F, env, l, Same.refl F, he, hr, ht⟩⟩
def sRet (te : DTE) : DTS := fun E env l => te env l E.rt
theorem ds_ret (h : DE X e te) : DS X (.Return (some e) pos) (sRet te) := ⟨fun F Fr env l σ H E he hr ht => (ps_ret peW).ws (h F Fr env l σ H _ he hr ht)⟩
def sRetN : DTS := fun E _ l => E.rt .non l
theorem ds_retN : DS X (.Return none pos) sRetN := ⟨fun F Fr env l σ H E he hr ht => ps_retN.ws (LK.mk .non hr ht)⟩
def sExpr (te : DTE) : DTS := fun E env l => te env l fun _ l1 => E.nx env l1
theorem ds_expr (h : DE X e te) (hs : swapsWith e none pos.line X.env = pure false := by rfl) : DS X (.Expr e pos) (sExpr te) := by
  refine ⟨?_⟩
  intro F Fr env l σ H E he hr ht
  refine (ps_expr peW hs).ws ?_
  exact (h F Fr env l σ H _ he hr ht).mono fun x H1 ⟨F1, d, l1, s1, r1, R1, q1⟩ => ⟨F1, env, l1, s1, he.mono s1, R1, q1⟩
def sIf (tt : DTT) (t u : DTS) : DTS := fun E env l => tt env l fun c l1 => ifB c (t E env l1) (u E env l1)
theorem ds_if {c : Expr} {a b : List Stmt} {tt : DTT} (hc : DT X c tt) (ha : DSs X a t) (hb : DSs X b u) : DS X (.If c a b pos) (sIf tt t u) := by
  refine ⟨?_⟩
  intro F Fr env l σ H E he hr ht
  refine (ps_if ptW pssW pssW).ws ?_
  refine (hc F Fr env l σ H _ he hr ht).mono fun x H1 ⟨F1, l1, s1, R1, q1⟩ => ?_
  cases x with
  | true => exact L2.iteT ((ha F1 Fr env l1 σ H1 E (he.mono s1) R1 (ifB_T q1)).mono (fun _ _ q => LS.weak s1 q) (fun _ _ q => LK.weak s1 q) (fun _ _ q => LS.weak s1 q) (fun _ _ q => LS.weak s1 q))
  | false => exact L2.iteF ((hb F1 Fr env l1 σ H1 E (he.mono s1) R1 (ifB_F q1)).mono (fun _ _ q => LS.weak s1 q) (fun _ _ q => LK.weak s1 q) (fun _ _ q => LS.weak s1 q) (fun _ _ q => LS.weak s1 q))
def sAsg (te : DTE) (g : DTG) : DTS := fun E env l => te env l fun d l1 => g d env l1 E.nx
theorem ds_asg {tg : Expr} {g : DTG} {vs : List Nat} (h : DE X e te) (hg : DG X tg vs g) (hs : swapsWithSole [tg] e pos.line X.env = pure false := by rfl) (hw : swappedStores [tg] e X.env = pure none := by rfl)
    (h1 : (assignEach [tg] X.env).map (·.2) = [assign tg X.env] := by rfl) : DS X (.Assign [tg] e pos) (sAsg te g) := by
  refine ⟨?_⟩
  intro F Fr env l σ H E he hr ht
  refine (ps_asg peW pgW hs hw h1).ws ?_
  refine (h F Fr env l σ H _ he hr ht).mono fun x H1 ⟨F1, d, l1, s1, r1, R1, q1⟩ => ?_
  exact (hg F1 Fr env l1 σ H1 _ _ _ (he.mono s1) R1 r1 q1).mono fun σ2 H2 ⟨_, q2⟩ => LS.weak s1 q2
def sSet (i : Nat) (te : DTE) : DTS := fun E env l => te env l fun d l1 => setK env i d fun env' => E.nx env' l1
theorem ds_set {i : Nat} {x : Str} {pos' : Pos} (hN : X.N.Nodup) (hi : X.N[i]? = some x) (hx : Loc X.env.scope x) (h : DE X e te) (hs : swapsWith e (some (.Name x pos')) pos.line X.env = pure false := by rfl) (hf : X.fn x = true ∨ X.env.scope.names.lookup x = some .local := by first | exact .inl rfl | exact .inr rfl | assumption) : DS X (.Assign [.Name x pos'] e pos) (sSet i te) := by
  refine ⟨?_⟩
  intro F Fr env l σ H E he hr ht
  refine (ps_set hN hi hx peW hs hf).ws ?_
  refine (h F Fr env l σ H _ he hr ht).mono fun x H1 ⟨F1, d, l1, s1, r1, R1, q1⟩ => ?_
  replace q1 : setK env i d fun env' => E.nx env' l1 := q1
  rw [setK_eq] at q1
  exact ⟨F1, _, l1, s1, (he.mono s1).set r1 i, R1, q1⟩
/-- a, b = e1, e2 of plain local names -/
def sPar (i j : Nat) (ta : DTA) : DTS := fun E env l => ta env l fun ds l1 => match ds with
  | [v, w] => setK env i v fun env1 => setK env1 j w fun env2 => E.nx env2 l1
  | _ => False
theorem ds_par {i j : Nat} {x y : Str} {a b : Expr} {ta : DTA} {px py pt : Pos} {kt k2 pt2} (hc : X.calm = true) (hN : X.N.Nodup) (hi : X.N[i]? = some x) (hj : X.N[j]? = some y) (hij : i ≠ j)
    (hx : X.env.scope.names.lookup x = some .local) (hy : X.env.scope.names.lookup y = some .local) (ha : DA X [a, b] ta)
    (hw : swappedStores [.Tuple [.Name x px, .Name y py] kt pt] (.Tuple [a, b] k2 pt2) X.env = pure (some [x, y]))
    (hs : swapsWithSole [.Tuple [.Name x px, .Name y py] kt pt] (.Tuple [a, b] k2 pt2) pos.line X.env = pure false := by rfl) :
    DS X (.Assign [.Tuple [.Name x px, .Name y py] kt pt] (.Tuple [a, b] k2 pt2) pos) (sPar i j ta) := by
  refine ⟨?_⟩
  intro F Fr env l σ H E he hr ht
  refine (ps_par hc hN hi hj hij hx hy paW hw hs).ws ?_
  refine (ha F Fr env l σ H _ he hr ht).mono fun vs H1 ⟨F1, ds, l1, s1, r1, R1, q1⟩ => ?_
  cases r1 with
  | nil => exact q1.elim
  | cons ra rr =>
    cases rr with
    | nil => exact q1.elim
    | cons rb rr =>
      cases rr with
      | cons _ _ => exact q1.elim
      | nil =>
        replace q1 : setK env i _ _ := q1
        rw [setK_eq, setK_eq] at q1
        exact ⟨_, _, rfl, F1, _, l1, s1, ((he.mono s1).set ra i).set rb j, R1, q1⟩
/-- x op= e -/
def KIp (X : Cx) (ti : TIp) (k : D → D → LH → DK → Prop) : Prop := KOp X ti k
def sAug (i : Nat) (te : DTE) (k : D → D → LH → DK → Prop) : DTS := fun E env l => match nthE env i with
  | some d => te env l fun y l1 => k d y l1 fun z l2 => setK env i z fun env' => E.nx env' l2
  | none => False
theorem ds_aug {i : Nat} {x : Str} {op : Operator} {ti : TIp} {k : D → D → LH → DK → Prop} {pos' : Pos} (hN : X.N.Nodup) (hi : X.N[i]? = some x) (hx : Loc X.env.scope x) (ho : PIp X op ti) (hk : KOp X ti k) (h : DE X e te) (hf : X.fn x = true ∨ X.env.scope.names.lookup x = some .local := by first | exact .inl rfl | exact .inr rfl | assumption) :
    DS X (.AugAssign (.Name x pos') op e pos) (sAug i te k) := by
  refine ⟨?_⟩
  intro F Fr env l σ H E he hr ht
  refine (ps_aug hN hi hx peW ho hf).ws ?_
  unfold sAug at ht
  cases q : nthE env i with
  | none => rw [q] at ht; exact ht.elim
  | some d =>
    rw [q] at ht
    obtain ⟨v, h1, h2⟩ := he.get q
    refine ⟨v, h1, ?_⟩
    refine (h F Fr env l σ H _ he hr ht).mono fun x H1 ⟨F1, d1, l1, s1, r1, R1, q1⟩ => ?_
    refine hk F1 Fr l1 H1 _ d d1 v x _ R1 (h2.mono s1) r1 (fun w H2 ⟨F2, d2, l2, s2, r2, R2, q2⟩ => ?_) q1
    replace q2 : setK env i d2 fun env' => E.nx env' l2 := q2
    rw [setK_eq] at q2
    exact ⟨F2, _, l2, s1.trans s2, (he.mono (s1.trans s2)).set r2 i, R2, q2⟩

/-! ### loops -/
def forL (g : DTG) (tb : DTS) : List D → DTS
  | [], E, env, l => E.nx env l
  | d :: ds, E, env, l => g d env l fun env1 l1 => tb ⟨forL g tb ds E, E.rt, E.nx, forL g tb ds E⟩ env1 l1
def sFor (ti : DTI) (g : DTG) (tb : DTS) : DTS := fun E env l => ti env l fun ds l1 => forL g tb ds E env l1
theorem ds_for {tg iter : Expr} {body : List Stmt} {ti : DTI} {g : DTG} {tb : DTS} {vs : List Nat} (hp : PassesOwn (model X.prog X.w) X.A X.env X.xe) (hc : X.calm = true) (hi : DI X tg iter ti) (hg : DG X tg vs g) (hb : DSs X body tb)
    (hs : ∀ x, foldedSetIterable iter X.env x = pure x := by intro _; rfl) : DS X (.For tg iter body [] pos) (sFor ti g tb) := by
  refine ⟨?_⟩
  intro F Fr env l σ H E he hr ht
  refine (ps_for hp hc piW pgW pssW hs).ws ?_
  refine (hi F Fr env l σ H _ he hr ht).mono fun J H1 ⟨F1, l1, ds, s1, R1, jk, q1⟩ => ?_
  refine ⟨fun i m σ H => m = ds.length - i ∧ i ≤ ds.length ∧ ∃ F' env l, Same F1 F' ∧ RepE X.K F' env σ ∧ Rep X.K F' Fr l H ∧ forL g tb (ds.drop i) E env l, ⟨_, rfl, Nat.zero_le _, F1, env, l1, Same.refl _, he.mono s1, R1, q1⟩, ?_⟩
  rintro i m σ H ⟨rfl, hi, F2, env, l, s2, he2, R2, q2⟩
  obtain ⟨j1, j2⟩ := jk i F2 Fr l H s2 R2
  by_cases hlt : i < ds.length
  · rw [List.drop_eq_getElem_cons hlt] at q2
    obtain ⟨go, y⟩ := j2 ds[i] (List.getElem?_eq_getElem hlt)
    refine .inr ⟨go, fun σ H => ∃ F' env l, Same F1 F' ∧ RepE X.K F' env σ ∧ Rep X.K F' Fr l H ∧ forL g tb (ds.drop (i + 1)) E env l, fun σ' H' h => ⟨_, by omega, rfl, hlt, h⟩, fun x H' hy => ?_⟩
    obtain ⟨F3, s3, rx, R3⟩ := y x H' hy
    refine (hg F3 Fr env l σ H' _ _ _ (he2.mono s3) R3 rx q2).mono fun σ4 H4 ⟨_, F4, env4, l4, s4, he4, R4, q4⟩ => ?_
    have S : Same F1 F4 := s2.trans (s3.trans s4)
    refine (hb F4 Fr env4 l4 σ4 H4 _ he4 R4 q4).mono (fun σ5 H5 q => ?_) (fun _ _ q => LK.weak (s1.trans S) q) (fun _ _ q => LS.weak (s1.trans S) q) (fun σ5 H5 q => ?_)
    · obtain ⟨F5, env5, l5, s5, he5, R5, q5⟩ := q
      exact ⟨F5, env5, l5, S.trans s5, he5, R5, q5⟩
    · obtain ⟨F5, env5, l5, s5, he5, R5, q5⟩ := q
      exact ⟨F5, env5, l5, S.trans s5, he5, R5, q5⟩
  · have e : i = ds.length := by omega
    subst e
    rw [List.drop_length] at q2
    exact .inl ⟨j1 (Nat.le_refl _), F2, env, l, s1.trans s2, he2, R2, q2⟩
/-- while: by an invariant and a measure -/
def sWhile (tt : DTT) (tb : DTS) : DTS := fun E env l => ∃ W : Nat → DSt → LH → Prop, (∃ m, W m env l) ∧ ∀ m env l, W m env l →
  tt env l fun c l1 => ifB c (tb ⟨fun env l => ∃ m', m' < m ∧ W m' env l, E.rt, E.nx, fun env l => ∃ m', m' < m ∧ W m' env l⟩ env l1) (E.nx env l1)
theorem ds_while {c : Expr} {body : List Stmt} {tt : DTT} {tb : DTS} (hp : PassesOwn (model X.prog X.w) X.A X.env X.xe) (hc : DT X c tt) (hb : DSs X body tb) : DS X (.While c body [] pos) (sWhile tt tb) := by
  refine ⟨?_⟩
  intro F Fr env l σ H E he hr ht
  obtain ⟨W, ⟨m, w0⟩, step⟩ := ht
  refine (ps_while hp ptW pssW).ws ?_
  refine ⟨fun m σ H => ∃ F' env l, Same F F' ∧ RepE X.K F' env σ ∧ Rep X.K F' Fr l H ∧ W m env l, ⟨m, F, env, l, Same.refl F, he, hr, w0⟩, ?_⟩
  rintro m σ H ⟨F1, env, l, s1, he1, R1, w1⟩
  refine (hc F1 Fr env l σ H _ he1 R1 (step m env l w1)).mono fun x H1 ⟨F2, l2, s2, R2, q2⟩ => ?_
  have S := s1.trans s2
  cases x with
  | true =>
    refine L2.iteT ⟨fun σ H => ∃ m', m' < m ∧ ∃ F' env l, Same F F' ∧ RepE X.K F' env σ ∧ Rep X.K F' Fr l H ∧ W m' env l, fun σ' H' h => h, ?_⟩
    refine (hb F2 Fr env l2 σ H1 _ (he1.mono s2) R2 (ifB_T q2)).mono (fun σ5 H5 q => ?_) (fun _ _ q => LK.weak S q) (fun _ _ q => LS.weak S q) (fun σ5 H5 q => ?_)
    · obtain ⟨F5, env5, l5, s5, he5, R5, m', hm, q5⟩ := q
      exact ⟨m', hm, F5, env5, l5, S.trans s5, he5, R5, q5⟩
    · obtain ⟨F5, env5, l5, s5, he5, R5, m', hm, q5⟩ := q
      exact ⟨m', hm, F5, env5, l5, S.trans s5, he5, R5, q5⟩
  | false => exact L2.iteF ⟨F2, env, l2, S, he1.mono s2, R2, ifB_F q2⟩
end
end
end DL

namespace DL
open PySem PySem.Spec PyProof.Rows L2

/-! ### what is walked -/
section
variable {X : Cx} {tg : Expr}
theorem it_list {pins : List (Addr × Obj)} {σ : St} {H : Hp} {s : Shared} {R : It → Hp → Prop} {E : Value → Shared → Prop} {a : Addr} {xs : List V} (I : Inv X pins σ H s) (hq : SqL X.K H a xs) (q : R (Itl X.K a) H) :
    wpAny (model X.prog X.w) X.A (pyIter (.ref a)) (PIE X pins σ tg R) E s := by
  obtain ⟨its, rv, p, hz⟩ := I.list hq
  refine wpAny_pyIter_list p.isList ?_
  refine ⟨s.heap.objs.size, [s.heap.objs.size], _, _, H, rfl, I.kept (t' := s.toks) fun b o e => Heap.get?_push_of_some _ e, turn_list a _, ⟨_, Heap.get?_push_size _ rfl, rfl, rfl⟩, fun b hb => ?_, q⟩
  have e : b = s.heap.objs.size := by simpa using hb
  subst e
  exact I.fpOk (Nat.le_refl _) (I.hok.fresh (Nat.le_refl _))
theorem it_tup {pins : List (Addr × Obj)} {σ : St} {H : Hp} {s : Shared} {R : It → Hp → Prop} {E : Value → Shared → Prop} {a : Addr} {xs : List V} (I : Inv X pins σ H s) (hq : SqT X.K H a xs) (q : R (Itt X.K a) H) :
    wpAny (model X.prog X.w) X.A (pyIter (.ref a)) (PIE X pins σ tg R) E s := by
  obtain ⟨its, rv, p, hz⟩ := I.tuple hq
  refine wpAny_pyIter_tuple (show s.heap.IsTuple a its.toArray from p) ?_
  refine ⟨s.heap.objs.size, [s.heap.objs.size], _, _, H, rfl, I.kept (t' := s.toks) fun b o e => Heap.get?_push_of_some _ e, turn_tuple a _, ⟨_, Heap.get?_push_size _ rfl, rfl, rfl⟩, fun b hb => ?_, q⟩
  have e : b = s.heap.objs.size := by simpa using hb
  subst e
  exact I.fpOk (Nat.le_refl _) (I.hok.fresh (Nat.le_refl _))
theorem sqL_inj {K : PySem.W.Frag} {H : Hp} {a : Addr} {xs ys : List V} (h : H a = some (.lst xs)) (h' : SqL K H a ys) (hk : K.lookup a = none) : xs = ys := by
  rcases h' with (e | ⟨o, e⟩) | ⟨o, its, n, e, _⟩
  · rw [h] at e; cases e; rfl
  · rw [h] at e; cases e
  · rw [hk] at e; cases e
end
/-- an iterator that gives the items of ds, whatever the reading of its own -/
theorem jok_list {K : PySem.W.Frag} {F : Hp} {a : Addr} {vs : List V} {ds : List D} (h : SqL K F a vs) (r : RelDs K F ds vs) : JOk K F (Itl K a) ds := by
  intro i F' Fr l H s R
  have q : SqL K H a vs := sqL_mono R.fz (sqL_mono s h)
  refine ⟨fun hi => ⟨vs, q, by rw [← r.length]; exact hi⟩, fun d hd => ?_⟩
  obtain ⟨v, hv, rv⟩ := r.get hd
  refine ⟨⟨vs, v, q, hv⟩, fun x H' y => ?_⟩
  obtain ⟨e, y⟩ := y
  subst e
  have e := y vs q
  rw [hv] at e
  cases e
  exact ⟨F', Same.refl _, rv.mono s, R⟩
theorem jok_tup {K : PySem.W.Frag} {F : Hp} {a : Addr} {vs : List V} {ds : List D} (h : SqT K F a vs) (r : RelDs K F ds vs) : JOk K F (Itt K a) ds := by
  intro i F' Fr l H s R
  have q : SqT K H a vs := sqT_mono R.fz (sqT_mono s h)
  refine ⟨fun hi => ⟨vs, q, by rw [← r.length]; exact hi⟩, fun d hd => ?_⟩
  obtain ⟨v, hv, rv⟩ := r.get hd
  refine ⟨⟨vs, v, q, hv⟩, fun x H' y => ?_⟩
  obtain ⟨e, y⟩ := y
  subst e
  have e := y vs q
  rw [hv] at e
  cases e
  exact ⟨F', Same.refl _, rv.mono s, R⟩
section
variable {X : Cx} {tg e e2 : Expr} {te : DTE} {ta : DTA}
def iSeq (te : DTE) : DTI := fun env l R => te env l fun d l1 => match d with
  | .lst ds => R ds l1
  | .tup ds => R ds l1
  | .scr ns => R (ns.map D.int) l1
  | _ => False
theorem di_seq (h : DE X e te) : DI X tg e (iSeq te) := by
  refine ⟨?_⟩
  intro F Fr env l σ H R he hr ht pins s I
  refine thn (h F Fr env l σ H _ he hr ht pins s I) fun v s1 ⟨x, H1, I1, r1, F1, d, l1, s1', rd, R1, q1⟩ => ?_
  cases rd with
  | @tup p vs ds h1 rr => cases r1; exact it_tup I1 (tq (R1.fz _ _ h1)) ⟨F1, l1, ds, s1', R1, jok_tup (tq h1) rr, q1⟩
  | @lst p vs ds h1 rr => cases r1; exact it_list I1 (.inl (.inl (R1.fz _ _ h1))) ⟨F1, l1, ds, s1', R1, jok_list (.inl (.inl h1)) rr, q1⟩
  | @scr p ns h1 => cases r1; exact it_list I1 (sqL_mono R1.fz h1) ⟨F1, l1, _, s1', R1, jok_list h1 (relDs_ints ns), q1⟩
  | _ => exact q1.elim
def rgD (lo : Int) (n : Nat) : List D := (List.range n).map fun i => D.int (lo + (i : Nat))
theorem jok_rng {K : PySem.W.Frag} {F : Hp} (lo : Int) (n : Nat) : JOk K F (Itr lo n) (rgD lo n) := by
  intro i F' Fr l H s R
  refine ⟨fun hi => by
    show n ≤ i
    simpa [rgD] using hi, fun d hd => ?_⟩
  have hi : i < n := by
    have := (List.getElem?_eq_some_iff.mp hd).1
    simpa [rgD] using this
  refine ⟨hi, fun x H' y => ?_⟩
  obtain ⟨e, y⟩ := y
  subst e y
  have e : d = .int (lo + (i : Nat)) := by
    unfold rgD at hd
    rw [List.getElem?_map, List.getElem?_range hi] at hd
    exact (Option.some.inj hd).symm
  subst e
  exact ⟨F', Same.refl _, .int _, R⟩
def iRg1 (ta : DTA) : DTI := fun env l R => ta env l fun ds l1 => match ds with
  | [.int j] => (-(2 ^ 62) ≤ j ∧ j < 2 ^ 62) ∧ R (rgD 0 j.toNat) l1
  | _ => False
def iRg2 (ta : DTA) : DTI := fun env l R => ta env l fun ds l1 => match ds with
  | [.int i, .int j] => (-(2 ^ 62) ≤ i ∧ i < 2 ^ 62 ∧ -(2 ^ 62) ≤ j ∧ j < 2 ^ 62) ∧ R (rgD i (j - i).toNat) l1
  | _ => False
theorem di_range1 {p pos : Pos} (hg : Gl X "range") (hm : X.mg "range" = none) (ha : DA X [e] ta) (hs : starEach [e] X.env = [(false, eval e X.env)] := by rfl) : DI X tg (.Call (.Name "range" p) [e] [] pos) (iRg1 ta) := by
  refine ⟨?_⟩
  intro F Fr env l σ H R he hr ht
  refine (pi_range1 hg hm paW hs).wi ?_
  refine (ha F Fr env l σ H _ he hr ht).mono fun vs H1 ⟨F1, ds, l1, s1, r1, R1, q1⟩ => ?_
  cases r1 with
  | nil => exact q1.elim
  | cons ra rr =>
    cases rr with
    | cons _ _ => cases ra <;> exact q1.elim
    | nil =>
      cases ra <;> try exact q1.elim
      exact ⟨_, rfl, q1.1.1, q1.1.2, F1, l1, _, s1, R1, jok_rng 0 _, q1.2⟩
theorem di_range2 {p pos : Pos} (hg : Gl X "range") (hm : X.mg "range" = none) (ha : DA X [e, e2] ta) (hs : starEach [e, e2] X.env = [(false, eval e X.env), (false, eval e2 X.env)] := by rfl) (hs2 : starEach [e2] X.env = [(false, eval e2 X.env)] := by rfl) : DI X tg (.Call (.Name "range" p) [e, e2] [] pos) (iRg2 ta) := by
  refine ⟨?_⟩
  intro F Fr env l σ H R he hr ht
  refine (pi_range2 hg hm paW hs hs2).wi ?_
  refine (ha F Fr env l σ H _ he hr ht).mono fun vs H1 ⟨F1, ds, l1, s1, r1, R1, q1⟩ => ?_
  cases r1 with
  | nil => exact q1.elim
  | cons ra rr =>
    cases ra <;> try (cases rr <;> exact q1.elim)
    cases rr with
    | nil => exact q1.elim
    | cons rb rr =>
      cases rr with
      | cons _ _ => cases rb <;> exact q1.elim
      | nil =>
        cases rb <;> try exact q1.elim
        exact ⟨_, _, rfl, q1.1, F1, l1, _, s1, R1, jok_rng _ _, q1.2⟩
def enumD : Nat → List D → List D
  | _, [] => []
  | i, d :: ds => .tup [.int (i : Nat), d] :: enumD (i + 1) ds
theorem enumD_get : ∀ (ds : List D) (k i : Nat), (enumD k ds)[i]? = (ds[i]?).map fun d => D.tup [.int ((k + i : Nat) : Int), d]
  | [], _, _ => by simp [enumD]
  | d :: ds, k, 0 => by simp [enumD]
  | d :: ds, k, i + 1 => by
    show (enumD (k + 1) ds)[i]? = _
    rw [enumD_get ds (k + 1) i, Nat.add_right_comm, Nat.add_assoc]
    rfl
theorem enumD_length : ∀ (ds : List D) (k : Nat), (enumD k ds).length = ds.length
  | [], _ => rfl
  | d :: ds, k => by rw [enumD, List.length_cons, enumD_length ds, List.length_cons]
theorem jok_enum {K : PySem.W.Frag} {F : Hp} {a : Addr} {vs : List V} {ds : List D} (h : SqL K F a vs) (r : RelDs K F ds vs) : JOk K F (Ite K a) (enumD 0 ds) := by
  intro i F' Fr l H s R
  have q : SqL K H a vs := sqL_mono R.fz (sqL_mono s h)
  refine ⟨fun hi => ⟨vs, q, by rw [← r.length]; rw [enumD_length] at hi; exact hi⟩, fun d hd => ?_⟩
  rw [enumD_get] at hd
  cases e0 : ds[i]? with
  | none => rw [e0] at hd; cases hd
  | some d0 =>
    rw [e0] at hd
    cases hd
    obtain ⟨v, hv, rv⟩ := r.get e0
    refine ⟨⟨vs, v, q, hv⟩, fun x H' y => ?_⟩
    obtain ⟨T, x0, rfl, nT, rfl, y⟩ := y
    have e := y vs q
    rw [hv] at e
    cases e
    rw [Nat.zero_add]
    exact ⟨_, same_upd (R.F_none nT), relTup (R.F_none nT) (.cons (.int _) (.cons (rv.mono s) .nil)), R.laid nT _⟩
def iEnum (ta : DTA) : DTI := fun env l R => ta env l fun ds l1 => match ds with
  | [.lst xs] => R (enumD 0 xs) l1
  | [.scr ns] => R (enumD 0 (ns.map D.int)) l1
  | _ => False
theorem di_enum {p pos tpos : Pos} {elts : List Expr} {kk : Nat} (hg : Gl X "enumerate") (hm : X.mg "enumerate" = none) (ha : DA X [e] ta) (hs : starEach [e] X.env = [(false, eval e X.env)] := by rfl) : DI X (.Tuple elts kk tpos) (.Call (.Name "enumerate" p) [e] [] pos) (iEnum ta) := by
  refine ⟨?_⟩
  intro F Fr env l σ H R he hr ht
  refine (pi_enum hg hm paW hs).wi ?_
  refine (ha F Fr env l σ H _ he hr ht).mono fun vs H1 ⟨F1, ds, l1, s1, r1, R1, q1⟩ => ?_
  cases r1 with
  | nil => exact q1.elim
  | cons ra rr =>
    cases rr with
    | cons _ _ => cases ra <;> exact q1.elim
    | nil =>
      cases ra with
      | @scr p ns h1 => exact ⟨p, _, rfl, sqL_mono R1.fz h1, F1, l1, _, s1, R1, jok_enum h1 (relDs_ints ns), q1⟩
      | @lst p vs ds h1 rr => exact ⟨p, _, rfl, .inl (.inl (R1.fz _ _ h1)), F1, l1, _, s1, R1, jok_enum (.inl (.inl h1)) rr, q1⟩
      | _ => exact q1.elim
theorem rev_get {α : Type} (xs : List α) (i : Nat) (h : i < xs.length) : xs.reverse[i]? = xs[xs.length - 1 - i]? := by
  rw [List.getElem?_reverse h]
theorem jok_rev {K : PySem.W.Frag} {F : Hp} {a : Addr} {vs : List V} {ds : List D} (h : SqL K F a vs) (r : RelDs K F ds vs) : JOk K F (Itv K a vs.length) ds.reverse := by
  intro i F' Fr l H s R
  have q : SqL K H a vs := sqL_mono R.fz (sqL_mono s h)
  refine ⟨fun hi => by rw [List.length_reverse, r.length] at hi; exact hi, fun d hd => ?_⟩
  have hi : i < ds.length := by
    have := (List.getElem?_eq_some_iff.mp hd).1
    rwa [List.length_reverse] at this
  rw [rev_get _ _ hi] at hd
  obtain ⟨v, hv, rv⟩ := r.get hd
  rw [r.length] at hv
  refine ⟨⟨by rw [← r.length]; exact hi, vs, v, q, hv⟩, fun x H' y => ?_⟩
  obtain ⟨e, y⟩ := y
  subst e
  have e := y vs q
  rw [hv] at e
  cases e
  exact ⟨F', Same.refl _, rv.mono s, R⟩
theorem jok_revT {K : PySem.W.Frag} {F : Hp} {a : Addr} {vs : List V} {ds : List D} (h : SqT K F a vs) (r : RelDs K F ds vs) : JOk K F (RT.ItvT K a vs.length) ds.reverse := by
  intro i F' Fr l H s R
  have q : SqT K H a vs := sqT_mono R.fz (sqT_mono s h)
  refine ⟨fun hi => by rw [List.length_reverse, r.length] at hi; exact hi, fun d hd => ?_⟩
  have hi : i < ds.length := by
    have := (List.getElem?_eq_some_iff.mp hd).1
    rwa [List.length_reverse] at this
  rw [rev_get _ _ hi] at hd
  obtain ⟨v, hv, rv⟩ := r.get hd
  rw [r.length] at hv
  refine ⟨⟨by rw [← r.length]; exact hi, vs, v, q, hv⟩, fun x H' y => ?_⟩
  obtain ⟨e, y⟩ := y
  subst e
  have e := y vs q
  rw [hv] at e
  cases e
  exact ⟨F', Same.refl _, rv.mono s, R⟩
def iRev (te : DTE) : DTI := fun env l R => te env l fun d l1 => match d with
  | .lst xs => R xs.reverse l1
  | .tup xs => R xs.reverse l1
  | _ => False
theorem di_rev {p pos : Pos} (hg : Gl X "reversed") (hm : X.mg "reversed" = none) (h : DE X e te) (hs : starEach [e] X.env = (false, eval e X.env) :: starEach [] X.env := by rfl) : DI X tg (.Call (.Name "reversed" p) [e] [] pos) (iRev te) := by
  refine ⟨?_⟩
  intro F Fr env l σ H R he hr ht
  refine (RT.pi_revA hg hm peW hs).wi ?_
  refine (h F Fr env l σ H _ he hr ht).mono fun x H1 ⟨F1, d, l1, s1, r1, R1, q1⟩ => ?_
  cases r1 with
  | @tup p vs ds h1 rr => exact ⟨p, vs, rfl, .inr ⟨tq (R1.fz _ _ h1), F1, l1, _, s1, R1, jok_revT (tq h1) rr, q1⟩⟩
  | @lst p vs ds h1 rr => exact ⟨p, vs, rfl, .inl ⟨.inl (.inl (R1.fz _ _ h1)), F1, l1, _, s1, R1, jok_rev (.inl (.inl h1)) rr, q1⟩⟩
  | _ => exact q1.elim
def zipD : List D → List D → List D
  | a :: as, b :: bs => .tup [a, b] :: zipD as bs
  | _, _ => []
theorem zipD_get : ∀ (as bs : List D) (i : Nat), (zipD as bs)[i]? = match as[i]?, bs[i]? with | some a, some b => some (D.tup [a, b]) | _, _ => none
  | [], bs, i => by simp [zipD]
  | a :: as, [], i => by
    simp only [zipD, List.getElem?_nil]
    split <;> simp_all
  | a :: as, b :: bs, 0 => by simp [zipD]
  | a :: as, b :: bs, i + 1 => by
    show (zipD as bs)[i]? = _
    rw [zipD_get as bs i]
    rfl
theorem jok_zip {K : PySem.W.Frag} {F : Hp} {a b : Addr} {vs us : List V} {ds es : List D} (h : SqL K F a vs) (r : RelDs K F ds vs) (h' : SqL K F b us) (r' : RelDs K F es us) : JOk K F (Itz K a b) (zipD ds es) := by
  intro i F' Fr l H s R
  have q : SqL K H a vs := sqL_mono R.fz (sqL_mono s h)
  have q' : SqL K H b us := sqL_mono R.fz (sqL_mono s h')
  constructor
  · intro hi
    have e : (zipD ds es)[i]? = none := List.getElem?_eq_none hi
    rw [zipD_get] at e
    refine ⟨vs, us, q, q', ?_⟩
    rw [← r.length, ← r'.length]
    cases e1 : ds[i]? with
    | none => exact .inl (List.getElem?_eq_none_iff.mp e1)
    | some _ =>
      cases e2 : es[i]? with
      | none => exact .inr (List.getElem?_eq_none_iff.mp e2)
      | some _ => rw [e1, e2] at e; cases e
  · intro d hd
    rw [zipD_get] at hd
    cases e1 : ds[i]? with
    | none => rw [e1] at hd; cases hd
    | some d1 =>
      cases e2 : es[i]? with
      | none => rw [e1, e2] at hd; cases hd
      | some d2 =>
        rw [e1, e2] at hd
        cases hd
        obtain ⟨v, hv, rv⟩ := r.get e1
        obtain ⟨u, hu, ru⟩ := r'.get e2
        refine ⟨⟨vs, us, v, u, q, q', hv, hu⟩, fun x H' y => ?_⟩
        obtain ⟨T, x0, y0, rfl, nT, rfl, y1, y2⟩ := y
        have f1 := y1 vs q
        have f2 := y2 us q'
        rw [hv] at f1
        rw [hu] at f2
        cases f1
        cases f2
        exact ⟨_, same_upd (R.F_none nT), relTup (R.F_none nT) (.cons (rv.mono s) (.cons (ru.mono s) .nil)), R.laid nT _⟩
theorem jok_zipT {K : PySem.W.Frag} {F : Hp} {a b : Addr} {vs us : List V} {ds es : List D} (h : SqT K F a vs) (r : RelDs K F ds vs) (h' : SqT K F b us) (r' : RelDs K F es us) : JOk K F (RZ.ItzT K a b) (zipD ds es) := by
  intro i F' Fr l H s R
  have q : SqT K H a vs := sqT_mono R.fz (sqT_mono s h)
  have q' : SqT K H b us := sqT_mono R.fz (sqT_mono s h')
  constructor
  · intro hi
    have e : (zipD ds es)[i]? = none := List.getElem?_eq_none hi
    rw [zipD_get] at e
    refine ⟨vs, us, q, q', ?_⟩
    rw [← r.length, ← r'.length]
    cases e1 : ds[i]? with
    | none => exact .inl (List.getElem?_eq_none_iff.mp e1)
    | some _ =>
      cases e2 : es[i]? with
      | none => exact .inr (List.getElem?_eq_none_iff.mp e2)
      | some _ => rw [e1, e2] at e; cases e
  · intro d hd
    rw [zipD_get] at hd
    cases e1 : ds[i]? with
    | none => rw [e1] at hd; cases hd
    | some d1 =>
      cases e2 : es[i]? with
      | none => rw [e1, e2] at hd; cases hd
      | some d2 =>
        rw [e1, e2] at hd
        cases hd
        obtain ⟨v, hv, rv⟩ := r.get e1
        obtain ⟨u, hu, ru⟩ := r'.get e2
        refine ⟨⟨vs, us, v, u, q, q', hv, hu⟩, fun x H' y => ?_⟩
        obtain ⟨T, x0, y0, rfl, nT, rfl, y1, y2⟩ := y
        have f1 := y1 vs q
        have f2 := y2 us q'
        rw [hv] at f1
        rw [hu] at f2
        cases f1
        cases f2
        exact ⟨_, same_upd (R.F_none nT), relTup (R.F_none nT) (.cons (rv.mono s) (.cons (ru.mono s) .nil)), R.laid nT _⟩
def iZip (ta : DTA) : DTI := fun env l R => ta env l fun ds l1 => match ds with
  | [.lst xs, .lst ys] => R (zipD xs ys) l1
  | [.tup xs, .tup ys] => R (zipD xs ys) l1
  | _ => False
theorem di_zip {p pos tpos : Pos} {elts : List Expr} {kk : Nat} (hg : Gl X "zip") (hm : X.mg "zip" = none) (ha : DA X [e, e2] ta)
    (hs : starEach [e, e2] X.env = (false, eval e X.env) :: starEach [e2] X.env := by rfl) (hpl : (backTo pos (starEach [e2] X.env)).any (·.1) = false := by rfl) : DI X (.Tuple elts kk tpos) (.Call (.Name "zip" p) [e, e2] [] pos) (iZip ta) := by
  refine ⟨?_⟩
  intro F Fr env l σ H R he hr ht
  refine (RZ.pi_zipA hg hm paW hs hpl).wi ?_
  refine (ha F Fr env l σ H _ he hr ht).mono fun vs H1 ⟨F1, ds, l1, s1, r1, R1, q1⟩ => ?_
  cases r1 with
  | nil => exact q1.elim
  | cons ra rr =>
    cases rr with
    | nil => cases ra <;> exact q1.elim
    | cons rb rr =>
      cases rr with
      | cons _ _ => cases ra <;> cases rb <;> exact q1.elim
      | nil =>
        cases ra with
        | @tup p vs ds h1 rr =>
          cases rb with
          | @tup p2 vs2 ds2 h2 rr2 => exact ⟨p, p2, _, _, rfl, .inr ⟨tq (R1.fz _ _ h1), tq (R1.fz _ _ h2), F1, l1, _, s1, R1, jok_zipT (tq h1) rr (tq h2) rr2, q1⟩⟩
          | _ => exact q1.elim
        | @lst p vs ds h1 rr =>
          cases rb with
          | @lst p2 vs2 ds2 h2 rr2 => exact ⟨p, p2, _, _, rfl, .inl ⟨.inl (.inl (R1.fz _ _ h1)), .inl (.inl (R1.fz _ _ h2)), F1, l1, _, s1, R1, jok_zip (.inl (.inl h1)) rr (.inl (.inl h2)) rr2, q1⟩⟩
          | _ => exact q1.elim
        | _ => cases rb <;> exact q1.elim
end
end DL

namespace DL
open PySem PySem.Spec PyProof.Rows L2

/-! ### comprehensions -/
theorem wipe_wipe (σ : St) (vs : List Nat) : L2.wipe (L2.wipe σ vs) vs = L2.wipe σ vs := by
  have key : ∀ us : List Nat, (∀ u ∈ us, u ∈ vs) → L2.wipe (L2.wipe σ us) vs = L2.wipe σ vs := by
    intro us
    induction us with
    | nil => exact fun _ => rfl
    | cons u us ih =>
      intro h
      show L2.wipe ((L2.wipe σ us).set u none) vs = _
      rw [wipe_set (h u List.mem_cons_self)]
      exact ih fun w hw => h w (List.mem_cons_of_mem _ hw)
  exact key vs fun _ h => h
def compL (g : DTG) (tt : DTT) (te : DTE) (vs : List Nat) : List D → DSt → LH → (List D → LH → Prop) → Prop
  | [], _, l, Q => Q [] l
  | d :: ds, env, l, Q => wipeK vs env fun env0 => g d env0 l fun env1 l1 => tt env1 l1 fun c l2 =>
      ifB c (te env1 l2 fun r l3 => compL g tt te vs ds env l3 fun rs l4 => Q (r :: rs) l4) (compL g tt te vs ds env l2 Q)
def tYes : DTT := fun _ l Q => Q true l
/-- ifs of a comprehension -/
def DTs (X : Cx) (ifs : List Expr) (t : DTT) : Prop := ∃ T : TT, PTs X ifs T ∧ ∀ F Fr env l σ H Q, RepE X.K F env σ → Rep X.K F Fr l H → t env l Q → T σ H (LB X.K F Fr Q)
theorem dts_nil {X : Cx} : DTs X [] tYes := ⟨_, pts_nil, fun F Fr env l σ H Q he hr ht => ⟨F, l, Same.refl F, hr, ht⟩⟩
theorem dts_one {X : Cx} {c : Expr} {t : DTT} (h : DT X c t) : DTs X [c] t := ⟨_, pts_one ptW, fun F Fr env l σ H Q he hr ht => h F Fr env l σ H Q he hr ht⟩
def WTs (X : Cx) (ifs : List Expr) : TT := fun σ H Q => ∀ pins s, Inv X pins σ H s → wpAny (model X.prog X.w) X.A (forIn ifs true fun c r => if r = true then do let ok ← isTrue c X.env (eval c X.env); pure (ForInStep.yield ok) else pure (ForInStep.yield r)) (TP X pins σ Q) X.xe s
section
variable {X : Cx}
theorem ptsW {ifs : List Expr} : PTs X ifs (WTs X ifs) := ⟨fun pins s _ _ _ I h => h pins s I⟩
theorem WTs.mono {ifs : List Expr} {σ : St} {H : Hp} {Q Q' : Bool → Hp → Prop} (w : WTs X ifs σ H Q) (h : ∀ v H, Q v H → Q' v H) : WTs X ifs σ H Q' := fun pins s I => thn (w pins s I) fun _ _ ⟨H, a, b⟩ => ⟨H, a, h _ _ b⟩
theorem DTs.w {ifs : List Expr} {t : DTT} (h : DTs X ifs t) : ∀ F Fr env l σ H Q, RepE X.K F env σ → Rep X.K F Fr l H → t env l Q → WTs X ifs σ H (LB X.K F Fr Q) := by
  obtain ⟨T, hT, h⟩ := h
  exact fun F Fr env l σ H Q he hr ht pins s I => hT.run pins s σ H _ I (h F Fr env l σ H Q he hr ht)
variable {elt tg iter : Expr} {ifs : List Expr} {scope : Scope} {own : List (Str × Nat)} {pos : Pos} {ti : DTI} {g : DTG} {tt : DTT} {te : DTE}
/-- the loop of a comprehension, its own readings given as the strongest ones in any block -/
theorem comp_core {F Fr : Hp} {env : DSt} {l : LH} {σ : St} {H : Hp} {Qf : List D → LH → Prop} {Qd : VK} {vs : List Nat} {G : TG} {TT' : TT} {TE' : TE} (he : RepE X.K F env σ) (hr : Rep X.K F Fr l H)
    (hi : DI X tg iter ti)
    (hg : ∀ F Fr env l σ H d v Q, RepE X.K F env σ → Rep X.K F Fr l H → RelD X.K F d v → g d env l Q → G v σ H (LG X.K F Fr vs σ Q))
    (hgm : ∀ v σ H Q Q', G v σ H Q → (∀ σ H, Q σ H → Q' σ H) → G v σ H Q')
    (ht : ∀ F Fr env l σ H Q, RepE X.K F env σ → Rep X.K F Fr l H → tt env l Q → TT' σ H (LB X.K F Fr Q))
    (htm : ∀ σ H Q Q', TT' σ H Q → (∀ b H, Q b H → Q' b H) → TT' σ H Q')
    (hE : ∀ F Fr env l σ H Q, RepE X.K F env σ → Rep X.K F Fr l H → te env l Q → TE' σ H (LK X.K F Fr Q))
    (hEm : ∀ σ H Q Q', TE' σ H Q → (∀ v H, Q v H → Q' v H) → TE' σ H Q')
    (hd : ∀ F' Fr' l' H' D acc vacc, Same F F' → Fr' = upd Fr D (.lst vacc) → Fr D = none → RelDs X.K F' acc vacc → Rep X.K F' Fr' l' H' → Qf acc l' → Qd (.ref D) H')
    (q : ti env l fun ds l1 => ds.length ≤ sizeLine ∧ compL g tt te vs ds env l1 Qf) : tLc (WI X tg iter) G TT' TE' vs σ H Qd := by
  refine (hi F Fr env l σ H _ he hr q).mono fun J H1 ⟨F1, l1, ds, s1, R1, jk, hz, q1⟩ => ?_
  intro p nD
  have nFr : Fr p = none := R1.Fr_none nD
  refine ⟨fun i m H => m = ds.length - i ∧ i ≤ ds.length ∧ ∃ F' l acc vacc, Same F1 F' ∧ Rep X.K F' (upd Fr p (.lst vacc)) l H ∧ RelDs X.K F' acc vacc ∧ acc.length ≤ i ∧ compL g tt te vs (ds.drop i) env l fun rs l' => Qf (acc ++ rs) l',
    ⟨_, rfl, Nat.zero_le _, F1, l1, [], [], Same.refl _, R1.take nD _, .nil, Nat.le_refl _, q1⟩, ?_⟩
  rintro i m H ⟨rfl, hi, F2, l2, acc, vacc, s2, R2, ra, hl, q2⟩
  obtain ⟨j1, j2⟩ := jk i F2 _ l2 H s2 R2
  by_cases hlt : i < ds.length
  · rw [List.drop_eq_getElem_cons hlt] at q2
    obtain ⟨go, y⟩ := j2 ds[i] (List.getElem?_eq_getElem hlt)
    refine .inr ⟨go, fun H => ∃ F' l acc vacc, Same F1 F' ∧ Rep X.K F' (upd Fr p (.lst vacc)) l H ∧ RelDs X.K F' acc vacc ∧ acc.length ≤ i + 1 ∧ compL g tt te vs (ds.drop (i + 1)) env l fun rs l' => Qf (acc ++ rs) l', fun H' h => ⟨_, by omega, rfl, hlt, h⟩, fun x H' hy => ?_⟩
    obtain ⟨F3, s3, rx, R3⟩ := y x H' hy
    replace q2 : wipeK vs env _ := q2
    rw [wipeK_eq] at q2
    have he3 : RepE X.K F3 (wipeE env vs) (L2.wipe σ vs) := (((he.mono s1).mono s2).mono s3).wipe vs
    refine hgm _ _ _ _ _ (hg F3 _ _ l2 _ H' _ _ _ he3 R3 rx q2) fun σ4 H4 ⟨w4, F4, env4, l4, s4, he4, R4, q4⟩ => ?_
    refine ⟨w4.trans (wipe_wipe σ vs), ?_⟩
    refine htm _ _ _ _ (ht F4 _ env4 l4 σ4 H4 _ he4 R4 q4) fun c H5 ⟨F5, l5, s5, R5, q5⟩ => ?_
    have S5 : Same F2 F5 := s3.trans (s4.trans s5)
    cases c with
    | false =>
      exact L2.iteF ⟨F5, l5, acc, vacc, s2.trans S5, R5, ra.mono S5, Nat.le_succ_of_le hl, ifB_F q5⟩
    | true =>
      refine L2.iteT (hEm _ _ _ _ (hE F5 _ env4 l5 σ4 H5 _ (he4.mono s5) R5 (ifB_T q5)) fun v H6 ⟨F6, d6, l6, s6, r6, R6, q6⟩ => ?_)
      have S6 : Same F2 F6 := S5.trans s6
      have ra6 := ra.mono S6
      refine ⟨vacc, R6.fr p _ upd_same, ?_, F6, l6, acc ++ [d6], vacc ++ [v], s2.trans S6, R6.turn _, ra6.append (.cons r6 .nil), ?_, ?_⟩
      · rw [← ra6.length]; omega
      · rw [List.length_append]; exact Nat.succ_le_succ hl
      · have e : (fun (rs : List D) l' => Qf (acc ++ [d6] ++ rs) l') = fun rs l' => Qf (acc ++ (d6 :: rs)) l' := by
          funext rs l'
          rw [List.append_assoc]
          rfl
        rw [e]
        exact q6
  · have e : i = ds.length := by omega
    subst e
    rw [List.drop_length] at q2
    replace q2 : Qf (acc ++ []) l2 := q2
    rw [List.append_nil] at q2
    exact .inl ⟨j1 (Nat.le_refl _), hd F2 _ l2 H p acc vacc (s1.trans s2) rfl nFr ra R2 q2⟩
def dLc (ti : DTI) (g : DTG) (tt : DTT) (te : DTE) (vs : List Nat) : DTE := fun env l Q => ti env l fun ds l1 => ds.length ≤ sizeLine ∧ compL g tt te vs ds env l1 fun rs l2 => Q (.lst rs) l2
def dLcM (ti : DTI) (g : DTG) (tt : DTT) (te : DTE) (vs : List Nat) : DTE := fun env l Q => ti env l fun ds l1 => ds.length ≤ sizeLine ∧ compL g tt te vs ds env l1 fun rs l2 => newL (.lst rs) l2 Q
theorem lc_end {F Fr F' Fr' : Hp} {l' : LH} {H' : Hp} {p : Addr} {acc : List D} {vacc : List V} {Q : DK} (s : Same F F') (e : Fr' = upd Fr p (.lst vacc)) (n : Fr p = none) (ra : RelDs X.K F' acc vacc) (R : Rep X.K F' Fr' l' H') (q : Q (.lst acc) l') : LK X.K F Fr Q (.ref p) H' := by
  subst e
  have nF : F' p = none := (R.fd p _ upd_same).1
  exact ⟨upd F' p (.lst vacc), .lst acc, l', s.trans (same_upd nF), relLst nF ra, R.give n, q⟩
theorem lc_endM {F Fr F' Fr' : Hp} {l' : LH} {H' : Hp} {p : Addr} {acc : List D} {vacc : List V} {Q : DK} (s : Same F F') (e : Fr' = upd Fr p (.lst vacc)) (n : Fr p = none) (ra : RelDs X.K F' acc vacc) (R : Rep X.K F' Fr' l' H') (q : newL (.lst acc) l' Q) : LK X.K F Fr Q (.ref p) H' := by
  subst e
  exact ⟨F', .ref p, _, s, .ref p, R.giveL n (show DOk X.K F' H' p (.lst acc) from ⟨vacc, ra, R.fr p _ upd_same⟩), q p (R.fd p _ upd_same).2⟩
section
variable (hc : X.calm = true) (hN : X.N.Nodup) (hi : DI X tg iter ti) (ok : BlkOk X.N X.env.scope scope own)
    (hg : ∀ (s : Shared) (H : Hp) (C : Addr) (cl : List (Str × Addr)) (fp : List Addr), DG (X.blk s H scope (compEnvC scope cl C X.env) fp) tg (own.map (·.2)) g)
    (ht : ∀ (s : Shared) (H : Hp) (C : Addr) (cl : List (Str × Addr)) (fp : List Addr), DTs (X.blk s H scope (compEnvC scope cl C X.env) fp) ifs tt)
    (he : ∀ (s : Shared) (H : Hp) (C : Addr) (cl : List (Str × Addr)) (fp : List Addr), DE (X.blk s H scope (compEnvC scope cl C X.env) fp) elt te)
include hi hg ht he
/-- the readings of the parts, whatever the block -/
def AG (X : Cx) (scope : Scope) (tg : Expr) : TG := fun v σ H Q => ∀ (s : Shared) (H0 : Hp) (C : Addr) (cl : List (Str × Addr)) (fp : List Addr), WG (X.blk s H0 scope (compEnvC scope cl C X.env) fp) tg v σ H Q
def AT (X : Cx) (scope : Scope) (ifs : List Expr) : TT := fun σ H Q => ∀ (s : Shared) (H0 : Hp) (C : Addr) (cl : List (Str × Addr)) (fp : List Addr), WTs (X.blk s H0 scope (compEnvC scope cl C X.env) fp) ifs σ H Q
def AE (X : Cx) (scope : Scope) (elt : Expr) : TE := fun σ H Q => ∀ (s : Shared) (H0 : Hp) (C : Addr) (cl : List (Str × Addr)) (fp : List Addr), WE (X.blk s H0 scope (compEnvC scope cl C X.env) fp) elt σ H Q
theorem comp_any {F Fr : Hp} {env : DSt} {l : LH} {σ : St} {H : Hp} {Qf : List D → LH → Prop} {Qd : VK} (hE : RepE X.K F env σ) (hr : Rep X.K F Fr l H)
    (hd : ∀ F' Fr' l' H' D acc vacc, Same F F' → Fr' = upd Fr D (.lst vacc) → Fr D = none → RelDs X.K F' acc vacc → Rep X.K F' Fr' l' H' → Qf acc l' → Qd (.ref D) H')
    (q : ti env l fun ds l1 => ds.length ≤ sizeLine ∧ compL g tt te (own.map (·.2)) ds env l1 Qf) : tLc (WI X tg iter) (AG X scope tg) (AT X scope ifs) (AE X scope elt) (own.map (·.2)) σ H Qd :=
  comp_core hE hr hi (fun F Fr env l σ H d v Q a b c d' s H0 C cl fp => hg s H0 C cl fp F Fr env l σ H d v Q a b c d') (fun v σ H Q Q' w h s H0 C cl fp => (w s H0 C cl fp).mono h)
    (fun F Fr env l σ H Q a b c s H0 C cl fp => (ht s H0 C cl fp).w F Fr env l σ H Q a b c) (fun σ H Q Q' w h s H0 C cl fp => (w s H0 C cl fp).mono h)
    (fun F Fr env l σ H Q a b c s H0 C cl fp => he s H0 C cl fp F Fr env l σ H Q a b c) (fun σ H Q Q' w h s H0 C cl fp => (w s H0 C cl fp).mono h) hd q
include hc hN ok
theorem de_lc (hs : ∀ x, foldedSetIterable iter X.env x = pure x := by intro _; rfl) : DE X (.ListComp elt [⟨tg, iter, ifs, 0⟩] scope pos) (dLc ti g tt te (own.map (·.2))) := by
  refine ⟨?_⟩
  intro F Fr env l σ H Q hE hr q
  refine (pe_lc (g := AG X scope tg) (tt := AT X scope ifs) (te := AE X scope elt) hc hN piW ok (fun s H0 C cl fp => ⟨fun pins s' σ' H' v u Q' I r h => h s H0 C cl fp pins s' u I r⟩) (fun s H0 C cl fp => ⟨fun pins s' σ' H' Q' I h => h s H0 C cl fp pins s' I⟩) (fun s H0 C cl fp => ⟨fun pins s' σ' H' Q' I h => h s H0 C cl fp pins s' I⟩) hs).we ?_
  exact comp_any hi hg ht he hE hr (fun F' Fr' l' H' p acc vacc s e n ra R q => lc_end s e n ra R q) q
theorem de_lcM (hs : ∀ x, foldedSetIterable iter X.env x = pure x := by intro _; rfl) : DE X (.ListComp elt [⟨tg, iter, ifs, 0⟩] scope pos) (dLcM ti g tt te (own.map (·.2))) := by
  refine ⟨?_⟩
  intro F Fr env l σ H Q hE hr q
  refine (pe_lc (g := AG X scope tg) (tt := AT X scope ifs) (te := AE X scope elt) hc hN piW ok (fun s H0 C cl fp => ⟨fun pins s' σ' H' v u Q' I r h => h s H0 C cl fp pins s' u I r⟩) (fun s H0 C cl fp => ⟨fun pins s' σ' H' Q' I h => h s H0 C cl fp pins s' I⟩) (fun s H0 C cl fp => ⟨fun pins s' σ' H' Q' I h => h s H0 C cl fp pins s' I⟩) hs).we ?_
  exact comp_any hi hg ht he hE hr (fun F' Fr' l' H' p acc vacc s e n ra R q => lc_endM s e n ra R q) q
/-- y = [..] of a plain local name, on one line -/
theorem ds_setLc {i : Nat} {y : Str} {py spos : Pos} (hy : X.N[i]? = some y) (hyl : X.env.scope.names.lookup y = some .local) (hsw : swapsWith (.ListComp elt [⟨tg, iter, ifs, 0⟩] scope pos) (some (.Name y py)) spos.line X.env = pure true)
    (hs : ∀ x, foldedSetIterable iter X.env x = pure x := by intro _; rfl) : DS X (.Assign [.Name y py] (.ListComp elt [⟨tg, iter, ifs, 0⟩] scope pos) spos) (sSet i (dLc ti g tt te (own.map (·.2)))) := by
  refine ⟨?_⟩
  intro F Fr env l σ H E hE hr q
  refine (ps_setLc (g := AG X scope tg) (tt := AT X scope ifs) (te := AE X scope elt) hc hN hy hyl hsw piW ok (fun s H0 C cl fp => ⟨fun pins s' σ' H' v u Q' I r h => h s H0 C cl fp pins s' u I r⟩) (fun s H0 C cl fp => ⟨fun pins s' σ' H' Q' I h => h s H0 C cl fp pins s' I⟩) (fun s H0 C cl fp => ⟨fun pins s' σ' H' Q' I h => h s H0 C cl fp pins s' I⟩) hs).ws ?_
  refine comp_any hi hg ht he hE hr (fun F' Fr' l' H' p acc vacc s e n ra R q => ?_) q
  obtain ⟨F2, d, l2, s2, r2, R2, q2⟩ := lc_end (Q := fun d l1 => setK env i d fun env' => E.nx env' l1) s e n ra R q
  rw [setK_eq] at q2
  exact ⟨F2, _, l2, s2, (hE.mono s2).set r2 i, R2, q2⟩
theorem ds_setLcM {i : Nat} {y : Str} {py spos : Pos} (hy : X.N[i]? = some y) (hyl : X.env.scope.names.lookup y = some .local) (hsw : swapsWith (.ListComp elt [⟨tg, iter, ifs, 0⟩] scope pos) (some (.Name y py)) spos.line X.env = pure true)
    (hs : ∀ x, foldedSetIterable iter X.env x = pure x := by intro _; rfl) : DS X (.Assign [.Name y py] (.ListComp elt [⟨tg, iter, ifs, 0⟩] scope pos) spos) (sSet i (dLcM ti g tt te (own.map (·.2)))) := by
  refine ⟨?_⟩
  intro F Fr env l σ H E hE hr q
  refine (ps_setLc (g := AG X scope tg) (tt := AT X scope ifs) (te := AE X scope elt) hc hN hy hyl hsw piW ok (fun s H0 C cl fp => ⟨fun pins s' σ' H' v u Q' I r h => h s H0 C cl fp pins s' u I r⟩) (fun s H0 C cl fp => ⟨fun pins s' σ' H' Q' I h => h s H0 C cl fp pins s' I⟩) (fun s H0 C cl fp => ⟨fun pins s' σ' H' Q' I h => h s H0 C cl fp pins s' I⟩) hs).ws ?_
  refine comp_any hi hg ht he hE hr (fun F' Fr' l' H' p acc vacc s e n ra R q => ?_) q
  obtain ⟨F2, d, l2, s2, r2, R2, q2⟩ := lc_endM (Q := fun d l1 => setK env i d fun env' => E.nx env' l1) s e n ra R q
  rw [setK_eq] at q2
  exact ⟨F2, _, l2, s2, (hE.mono s2).set r2 i, R2, q2⟩
end
end

/-! ### defs -/
abbrev DSp := List D → LH → DK → Prop
def spOf (K : PySem.W.Frag) (dsp : DSp) : Sp := fun vs H Q _ => ∃ F Fr ds l Qd, RelDs K F ds vs ∧ Rep K F Fr l H ∧ dsp ds l Qd ∧ ∀ v H', LK K F Fr Qd v H' → Q v H'
/-- what a def's body makes of the arguments -/
def fnD (tb : DTS) (np nl : Nat) : DSp := fun ds l Q => ds.length = np ∧ tb ⟨fun _ l => Q .non l, Q, fun _ _ => False, fun _ _ => False⟩ (ds.map some ++ List.replicate nl none) l
/-- a call: not looked into -/
structure callD (sp : DSp) (ds : List D) (l : LH) (Q : DK) : Prop where
  run : sp ds l Q
def dDef (sp : DSp) (t : DTA) : DTE := fun env l Q => t env l fun ds l1 => callD sp ds l1 Q
section
variable {X : Cx} {e : Expr} {es : List Expr} {t : DTA} {pos p : Pos} {x : Str}
/-- a def keeps its reading, called where no repr is under way -/
structure FnG (P : Program) (w : World) (K : PySem.W.Frag) (mg : Str → Option Value) (base : Heap) (k : Nat) (f : Addr) (fd : FuncData) (ps : List Str) (dsp : DSp) : Prop where
  len : ∀ ds l Q, dsp ds l Q → ds.length = ps.length
  run : ∀ (A : Around) (outer : List Env) (s : Shared) (H : Hp) (args : Args) (us : List Value) (vs : List V) (Q : VK) (E : XK), Room k A → A.guards = some [] → Env0 P w K mg base A outer s H → BindsTo s fd args (ps.zip us) → Vals vs us → spOf K dsp vs H Q E →
    codeAny (model P w) A (.call (.ref f) args) (CR CX0 outer P w H s Q E) s
theorem FnG.mono {P : Program} {w : World} {K : PySem.W.Frag} {mg : Str → Option Value} {base : Heap} {j k : Nat} {f : Addr} {fd : FuncData} {ps : List Str} {dsp : DSp} (G : FnG P w K mg base j f fd ps dsp) (h : j ≤ k) : FnG P w K mg base k f fd ps dsp :=
  ⟨G.len, fun A outer s H args us vs Q E hr => G.run A outer s H args us vs Q E (hr.mono h)⟩
theorem FnG.imp {P : Program} {w : World} {K : PySem.W.Frag} {mg : Str → Option Value} {base : Heap} {k : Nat} {f : Addr} {fd : FuncData} {ps : List Str} {dsp dsp' : DSp} (G : FnG P w K mg base k f fd ps dsp) (h : ∀ ds l Q, dsp' ds l Q → dsp ds l Q) : FnG P w K mg base k f fd ps dsp' :=
  ⟨fun ds l Q q => G.len ds l Q (h _ _ _ q), fun A outer s H args us vs Q E hr hg e hb r ⟨F, Fr, ds, l, Qd, a, b, c, d⟩ => G.run A outer s H args us vs Q E hr hg e hb r ⟨F, Fr, ds, l, Qd, a, b, h _ _ _ c, d⟩⟩
theorem de_call {k : Nat} {f : Addr} {fd : FuncData} {ps : List Str} {dsp : DSp} (G : FnG X.prog X.w X.K X.mg X.base k f fd ps dsp) (hr : Room k X.A) (hgd : X.A.guards = some []) (hg : Gl X x) (hm : X.mg x = some (.ref f)) (hk : PySem.W.keepIn X.K (.ref f) = true) (hb : Binds X.K fd ps []) (ha : DA X (e :: es) t)
    (hdb : (x == ("__debug__" : Str)) = false := by decide) (he : starEach (e :: es) X.env = (false, eval e X.env) :: starEach es X.env := by rfl) (hpl : (backTo pos (starEach es X.env)).any (·.1) = false := by rfl) : DE X (.Call (.Name x p) (e :: es) [] pos) (dDef dsp t) := by
  refine ⟨?_⟩
  intro F Fr env l σ H Q hE hR ht pins s I
  refine wpAny_Call_Name_kw (ld_glob I hg hm ?_ hdb)
  refine PySem.W.callWith_K (h₀ := X.base) I.ok.mod.kin hk (thn (ha F Fr env l σ H _ hE hR ht pos pins s I) fun us s1 ⟨vs, H1, I1, r, F1, ds, l1, s1', r1, R1, q1⟩ => ⟨I1.kIn, ?_⟩) he hpl
  have hsp : spOf X.K dsp vs H1 (LK X.K F Fr Q) E0 := ⟨F1, Fr, ds, l1, Q, r1, R1, q1.run, fun v H' q => q.weak s1'⟩
  have hl : (us ++ []).length = ps.length := by rw [List.append_nil, ← r.length, ← r1.length]; exact G.len _ _ _ q1.run
  have hbd := hb s1 us I1.kIn hl
  rw [List.append_nil] at hbd
  refine wpAny_call (codeAny_mono (G.run X.A X.stack s1 H1 ⟨us, []⟩ us vs _ E0 hr hgd I1.env0 hbd r hsp) fun res s' hq => ?_)
  cases res with
  | error _ => exact hq.elim
  | ok fl =>
    cases fl with
    | ret u => exact I1.after hq
    | next => exact hq.elim
    | brk => exact hq.elim
    | cont => exact hq.elim
theorem fn_ok {P : Program} {w : World} {K : PySem.W.Frag} {mg : Str → Option Value} {base : Heap} {x qual : Str} {st : Stmt} {f : Addr} {fd : FuncData} {N ps : List Str} {k nl : Nat} {tb : DTS} (G : Fun K x qual st f fd) (S : FnScope N ps (defScope st)) (hn : nl = N.length - ps.length)
    (hb : ∀ (cdv : Value) (A : Around) (outer : List Env) (s : Shared) (H : Hp) (E : XK), Room k (A.deeper (envOfC qual (defScope st) s.heap.objs.size f cdv)) → (A.deeper (envOfC qual (defScope st) s.heap.objs.size f cdv)).guards = some [] → DSs (cxOf CX0 P w K mg base N qual (defScope st) f cdv A outer s H E).nox (defBody st) tb) :
    FnG P w K mg base (k + 1) f fd ps (fnD tb ps.length nl) := by
  obtain ⟨oc, od, kV, doc, pm, an, cdv, ct, osl, rfl, lk, hcd⟩ := G.ex
  refine ⟨fun ds l Q h => h.1, fun A outer s H args us vs Q E hr hgd e0 hbd r hsp => ?_⟩
  obtain ⟨F, Fr, ds, l, Qd, rd, R, ⟨h1, q⟩, hq⟩ := hsp
  have hlen : vs.length = ps.length := by rw [← rd.length, h1]
  have inK : K.In s.heap := e0.mod.kin.keeps fun b o e => (e0.bs b o e).1
  have hlim : s.heap.NoLimit := e0.mod.nolimit.keeps fun b o e => (e0.bs b o e).1
  have kinds : ∀ y ∈ ps.zip us, (defScope st).names.lookup y.1 = some .local ∨ ((defScope st).names.lookup y.1 = some .cell ∧ ((cellsFrom (s.heap.objs.size + 1) (defScope st).names []).lookup y.1).isSome = true) := by
    rintro ⟨n, v⟩ hy
    exact (S.par n (List.of_mem_zip hy).1).imp id fun q => ⟨q, PySem.W.cellsFrom_some _ _ _ (.inl q)⟩
  refine codeAny_call_function hr.depth (inK _ _ lk) rfl S.co S.gen rfl (PySem.W.codeRec_of inK hcd) (hbd _ _ _ _ (wpAny_newFunctionEnv_cells S.kind kinds fun env he s1 ic => ?_))
  subst he
  refine ⟨hlim.keeps ic.toInCall.keep, codeAny_func ?_⟩
  have I : Inv (cxOf CX0 P w K mg base N qual (defScope st) f cdv A outer s H E) [] (start N vs) H s1 := inv_start S hr.hd e0 hlen r ic
  have est : L2.start N vs = vs.map some ++ List.replicate nl none := by
    unfold L2.start
    rw [hn, hlen]
  have body : WSs (cxOf CX0 P w K mg base N qual (defScope st) f cdv A outer s H E).nox (defBody st) (LE K F Fr ⟨fun _ l => Qd .non l, Qd, fun _ _ => False, fun _ _ => False⟩) (L2.start N vs) H := by
    rw [est]
    exact hb cdv A outer s H E (hr.deeper _) hgd F Fr _ l _ H _ (RepE.start rd nl) R q
  refine thn (pssW.nox.run [] s1 _ H _ I body) fun fl s' hs => ?_
  have fin : ∀ {σ' : St} {H' : Hp} {v : V} {u : Value}, Inv (cxOf CX0 P w K mg base N qual (defScope st) f cdv A outer s H E) [] σ' H' s' → RelV v u → Q v H' → CE outer P w H s Q u s' := fun J rv q => ⟨_, _, J.os, J.bare, J.base, J.hok, rv, q⟩
  cases fl with
  | ret u => obtain ⟨v, σ', H', J, rv, q⟩ := hs; exact fin J rv (hq v H' q)
  | next =>
    obtain ⟨σ', H', J, F', e', l', s', re, R', q⟩ := hs
    exact fin (v := .non) (u := .none) J rfl (hq .non H' ⟨F', .non, l', s', .non, R', q⟩)
  | brk => obtain ⟨σ', H', J, F', e', l', s', re, R', q⟩ := hs; exact q.elim
  | cont => obtain ⟨σ', H', J, F', e', l', s', re, R', q⟩ := hs; exact q.elim
end

/-! ### methods of a list that may be written -/
section
variable {X : Cx} {o e : Expr} {es : List Expr} {to : DTE} {t : DTA}
def atRef (x : D) (l : LH) (k : Addr → Prop) : Prop := match x with
  | .ref a => getO l a fun u => match u with | .lst _ => k a | _ => False
  | _ => False
def KMt (X : Cx) (r : V → List V → Hp → VK → Prop) (k : Addr → List D → LH → DK → Prop) : Prop := ∀ F Fr l H Q a ds vs (Q' : VK), Rep X.K F Fr l H → RelDs X.K F ds vs → (∀ v H, LK X.K F Fr Q v H → Q' v H) → k a ds l Q → r (.ref a) vs H Q'
def dMt0 (k : Addr → List D → LH → DK → Prop) (to : DTE) : DTE := fun env l Q => to env l fun x l1 => atRef x l1 fun a => k a [] l1 Q
def dMt (k : Addr → List D → LH → DK → Prop) (to : DTE) (t : DTA) : DTE := fun env l Q => to env l fun x l1 => atRef x l1 fun a => t env l1 fun ds l2 => k a ds l2 Q
theorem atRef_ok {K : PySem.W.Frag} {F Fr H : Hp} {l : LH} {d : D} {v : V} {k : Addr → Prop} (R : Rep K F Fr l H) (r : RelD K F d v) (q : atRef d l k) : ∃ a, v = .ref a ∧ k a ∧ tyV K "list" (.ref a) H := by
  cases r with
  | ref a =>
    obtain ⟨u, ho, q⟩ := q
    cases u with
    | lst ds =>
      obtain ⟨vs, r1, h1⟩ := (R.lv _ _ ho).2
      exact ⟨a, rfl, q, .inl ⟨rfl, vs, .inl (.inl h1)⟩⟩
    | _ => exact q.elim
  | _ => exact q.elim
theorem de_mt0 {name : Str} {id : String} {r : V → List V → Hp → VK → Prop} {k : Addr → List D → LH → DK → Prop} {apos cpos : Pos} (slot : Slot "list" name id) (hty : typeOf (.builtin id) = pure (.type "method_descriptor")) (hm : MtR X id r) (hk : KMt X r k) (ho : DE X o to)
    (hbase : attributeBase o name X.env (eval o X.env) = eval o X.env := by rfl) (hline : (apos.endLine == cpos.line) = true := by rfl) : DE X (.Call (.Attribute o name apos) [] [] cpos) (dMt0 k to) := by
  refine ⟨?_⟩
  intro F Fr env l σ H Q hE hR ht
  refine (pe_bm0 PySem.F.plainAttrs_list slot hty hm peW hbase hline).we ?_
  refine (ho F Fr env l σ H _ hE hR ht).mono fun x H1 ⟨F1, d, l1, s1, r1, R1, q1⟩ => ?_
  obtain ⟨a, rfl, q2, ty⟩ := atRef_ok R1 r1 q1
  exact ⟨ty, hk F1 Fr l1 H1 Q a [] [] _ R1 .nil (fun _ _ q => q.weak s1) q2⟩
theorem de_mt {name : Str} {id : String} {r : V → List V → Hp → VK → Prop} {k : Addr → List D → LH → DK → Prop} {apos cpos : Pos} (slot : Slot "list" name id) (hty : typeOf (.builtin id) = pure (.type "method_descriptor")) (hm : MtR X id r) (hk : KMt X r k) (ho : DE X o to) (ha : DA X (e :: es) t)
    (hbase : attributeBase o name X.env (eval o X.env) = eval o X.env := by rfl)
    (hfew : ((backTo cpos (starEach (e :: es) X.env)).all (fun x => !x.1) && (backToKw cpos (keywordEach [] X.env)).all (fun x => x.1.isSome)
      && decide ((e :: es).length + ([] : List Keyword).length + (if ([] : List Keyword).isEmpty then 0 else 1) < 30)) = true := by rfl)
    (hline : (apos.endLine == cpos.line) = true := by rfl) (hs : starEach (e :: es) X.env = (false, eval e X.env) :: starEach es X.env := by rfl) (hplain : (backTo cpos (starEach es X.env)).any (·.1) = false := by rfl) :
    DE X (.Call (.Attribute o name apos) (e :: es) [] cpos) (dMt k to t) := by
  refine ⟨?_⟩
  intro F Fr env l σ H Q hE hR ht
  refine (pe_bm PySem.F.plainAttrs_list slot hty hm peW paW hbase hfew hline hs hplain).we ?_
  refine (ho F Fr env l σ H _ hE hR ht).mono fun x H1 ⟨F1, d, l1, s1, r1, R1, q1⟩ => ?_
  obtain ⟨a, rfl, q2, ty⟩ := atRef_ok R1 r1 q1
  refine ⟨ty, ?_⟩
  refine (ha F1 Fr env l1 σ H1 _ (hE.mono s1) R1 q2).mono fun vs H2 ⟨F2, ds, l2, s2, r2, R2, q3⟩ => ?_
  exact hk F2 Fr l2 H2 Q a ds vs _ R2 r2 (fun _ _ q => q.weak (s1.trans s2)) q3
theorem LK.wr {K : PySem.W.Frag} {F Fr H : Hp} {l : LH} {Q : DK} {a : Addr} {o : DO} {ds : List D} {vs : List V} (R : Rep K F Fr l H) (h : l a = some o) (nf : isFz o = false) (r : RelDs K F ds vs) {d : D} {v : V} (rd : RelD K F d v) (q : Q d (uL l a (.lst ds))) : LK K F Fr Q v (upd H a (.lst vs)) :=
  ⟨F, d, _, Same.refl F, rd, R.write h nf (show DOk K F _ a (.lst ds) from ⟨vs, r, upd_same⟩), q⟩
def kAppend : Addr → List D → LH → DK → Prop := fun a ds l Q => match ds with
  | [d] => getO l a fun u => match u with | .lst xs => xs.length < sizeLine ∧ Q .non (uL l a (.lst (xs ++ [d]))) | _ => False
  | _ => False
theorem kAppend_ok : KMt X rAppend kAppend := by
  intro F Fr l H Q a ds vs Q' R rd hq q
  cases rd with
  | nil => exact q.elim
  | cons r1 rr =>
    cases rr with
    | cons _ _ => exact q.elim
    | nil =>
      obtain ⟨u, ho, q⟩ := q
      cases u with
      | lst xs =>
        obtain ⟨ws, rw', h1⟩ := (R.lv _ _ ho).2
        exact ⟨a, ws, _, rfl, rfl, h1, by rw [← rw'.length]; exact q.1, hq _ _ (LK.wr R ho rfl (rw'.append (.cons r1 .nil)) .non q.2)⟩
      | _ => exact q.elim
def kPop : Addr → List D → LH → DK → Prop := fun a ds l Q => match ds with
  | [] => getO l a fun u => match u with | .lst xs => ∃ d, xs[xs.length - 1]? = some d ∧ Q d (uL l a (.lst xs.dropLast)) | _ => False
  | _ => False
theorem RelDs.dropLast {K : PySem.W.Frag} {F : Hp} {ds : List D} {vs : List V} (r : RelDs K F ds vs) : RelDs K F ds.dropLast vs.dropLast := by
  rw [List.dropLast_eq_take, List.dropLast_eq_take, r.length]
  exact r.take _
theorem kPop_ok : KMt X rPop kPop := by
  intro F Fr l H Q a ds vs Q' R rd hq q
  cases rd with
  | cons _ _ => exact q.elim
  | nil =>
    obtain ⟨u, ho, q⟩ := q
    cases u with
    | lst xs =>
      obtain ⟨ws, rw', h1⟩ := (R.lv _ _ ho).2
      obtain ⟨d, hd, q⟩ := q
      obtain ⟨v, hv, rv⟩ := rw'.get hd
      rw [rw'.length] at hv
      exact ⟨a, ws, v, rfl, rfl, h1, hv, hq _ _ (LK.wr R ho rfl rw'.dropLast rv q)⟩
    | _ => exact q.elim
def kExtend : Addr → List D → LH → DK → Prop := fun a ds l Q => match ds with
  | [.lst ys] => getO l a fun u => match u with | .lst xs => xs.length + ys.length ≤ sizeLine ∧ Q .non (uL l a (.lst (xs ++ ys))) | _ => False
  | _ => False
theorem kExtend_ok : KMt X rExtend kExtend := by
  intro F Fr l H Q a ds vs Q' R rd hq q
  cases rd with
  | nil => exact q.elim
  | cons r1 rr =>
    cases rr with
    | cons _ _ => cases r1 <;> exact q.elim
    | nil =>
      cases r1 with
      | @lst p ys es h2 r2 =>
        obtain ⟨u, ho, q⟩ := q
        cases u with
        | lst xs =>
          obtain ⟨ws, rw', h1⟩ := (R.lv _ _ ho).2
          exact ⟨a, p, ws, _, rfl, rfl, h1, R.fz _ _ h2, by rw [← rw'.length, ← r2.length]; exact q.1, hq _ _ (LK.wr R ho rfl (rw'.append r2) .non q.2)⟩
        | _ => exact q.elim
      | _ => exact q.elim
def kReverse : Addr → List D → LH → DK → Prop := fun a ds l Q => match ds with
  | [] => getO l a fun u => match u with | .lst xs => Q .non (uL l a (.lst xs.reverse)) | _ => False
  | _ => False
theorem kReverse_ok : KMt X rReverse kReverse := by
  intro F Fr l H Q a ds vs Q' R rd hq q
  cases rd with
  | cons _ _ => exact q.elim
  | nil =>
    obtain ⟨u, ho, q⟩ := q
    cases u with
    | lst xs =>
      obtain ⟨ws, rw', h1⟩ := (R.lv _ _ ho).2
      exact ⟨a, ws, rfl, rfl, h1, hq _ _ (LK.wr R ho rfl rw'.reverse .non q)⟩
    | _ => exact q.elim
def kClear : Addr → List D → LH → DK → Prop := fun a ds l Q => match ds with
  | [] => getO l a fun u => match u with | .lst xs => Q .non (uL l a (.lst [])) | _ => False
  | _ => False
theorem kClear_ok : KMt X rClear kClear := by
  intro F Fr l H Q a ds vs Q' R rd hq q
  cases rd with
  | cons _ _ => exact q.elim
  | nil =>
    obtain ⟨u, ho, q⟩ := q
    cases u with
    | lst xs =>
      obtain ⟨ws, rw', h1⟩ := (R.lv _ _ ho).2
      exact ⟨a, ws, rfl, rfl, h1, hq _ _ (LK.wr R ho rfl .nil .non q)⟩
    | _ => exact q.elim
theorem de_append {apos cpos : Pos} (ho : DE X o to) (h : DE X e te) (hbase : attributeBase o "append" X.env (eval o X.env) = eval o X.env := by rfl) (hline : (apos.endLine == cpos.line) = true := by rfl) (hs : starEach [e] X.env = (false, eval e X.env) :: starEach [] X.env := by rfl)
    (hfew : ((backTo cpos (starEach [e] X.env)).all (fun x => !x.1) && (backToKw cpos (keywordEach [] X.env)).all (fun x => x.1.isSome)
      && decide (([e] : List Expr).length + ([] : List Keyword).length + (if ([] : List Keyword).isEmpty then 0 else 1) < 30)) = true := by rfl) : DE X (.Call (.Attribute o "append" apos) [e] [] cpos) (dMt kAppend to (aCons te aNil)) :=
  de_mt PySem.F.slot_list_append PySem.F.type_list_append mt_append kAppend_ok ho (da_cons h da_nil hs) hbase hfew hline hs
/-- what may be written is given out as what is never written any more -/
def frzK (d : D) (l : LH) (Q : DK) : Prop := match d with
  | .ref a => getO l a fun u => match u with | .lst ds => Q (.lst ds) (dL l a) | _ => False
  | d => Q d l
def dFrz (te : DTE) : DTE := fun env l Q => te env l fun d l1 => frzK d l1 Q
theorem de_frz (h : DE X e te) : DE X e (dFrz te) := by
  refine ⟨?_⟩
  intro F Fr env l σ H Q hE hR ht
  refine (h F Fr env l σ H _ hE hR ht).mono fun x H1 ⟨F1, d, l1, s1, r1, R1, q1⟩ => ?_
  cases r1 with
  | ref a =>
    obtain ⟨u, ho, q⟩ := q1
    cases u with
    | lst ds =>
      obtain ⟨vs, rr, h1⟩ := (R1.lv _ _ ho).2
      have n := (R1.lv _ _ ho).1 rfl
      exact ⟨upd F1 a (.lst vs), .lst ds, _, s1.trans (same_upd n), relLst n rr, R1.freeze ho rfl h1, q⟩
    | _ => exact q.elim
  | non => exact ⟨F1, _, l1, s1, .non, R1, q1⟩
  | bl b => exact ⟨F1, _, l1, s1, .bl b, R1, q1⟩
  | int b => exact ⟨F1, _, l1, s1, .int b, R1, q1⟩
  | str b => exact ⟨F1, _, l1, s1, .str b, R1, q1⟩
  | tup a b => exact ⟨F1, _, l1, s1, .tup a b, R1, q1⟩
  | scr a => exact ⟨F1, _, l1, s1, .scr a, R1, q1⟩
  | lst a b => exact ⟨F1, _, l1, s1, .lst a b, R1, q1⟩
  | dT a b c => exact ⟨F1, _, l1, s1, .dT a b c, R1, q1⟩
  | dK a b c => exact ⟨F1, _, l1, s1, .dK a b c, R1, q1⟩
  | exc a b => exact ⟨F1, _, l1, s1, .exc a b, R1, q1⟩
  | exc1 a b c d => exact ⟨F1, _, l1, s1, .exc1 a b c d, R1, q1⟩
end
end DL

namespace DL
open PySem PySem.Spec PyProof.Rows L2
/-- a place where a reading stands still -/
structure Stop (p : Prop) : Prop where
  run : p
def nS (t : DTS) : DTS := fun E env l => Stop (t E env l)
def nE (t : DTE) : DTE := fun env l Q => Stop (t env l Q)
theorem dss_nS {X : Cx} {b : List Stmt} {t : DTS} (h : DSs X b t) : DSs X b (nS t) := ⟨fun F Fr env l σ H E he hr ht => h F Fr env l σ H E he hr ht.run⟩
theorem de_nE {X : Cx} {e : Expr} {t : DTE} (h : DE X e t) : DE X e (nE t) := ⟨fun F Fr env l σ H Q he hr ht => h F Fr env l σ H Q he hr ht.run⟩
section
variable {X : Cx} {pos : Pos}
/-- a, b, c = e1, e2, e3 of plain local names -/
def tPar3 (i j k : Nat) (ta : TA) : TS := fun D σ H => ta σ H fun vs H1 => ∃ u v w, vs = [u, v, w] ∧ D.nx (((σ.set i (some u)).set j (some v)).set k (some w)) H1
theorem ps_par3 {i j k : Nat} {x y z : Str} {a b c : Expr} {ta : TA} {px py pz pt : Pos} {kt k2 pt2} (hc : X.calm = true) (hN : X.N.Nodup) (hi : X.N[i]? = some x) (hj : X.N[j]? = some y) (hk : X.N[k]? = some z) (hij : i ≠ j) (hik : i ≠ k) (hjk : j ≠ k)
    (hx : X.env.scope.names.lookup x = some .local) (hy : X.env.scope.names.lookup y = some .local) (hz : X.env.scope.names.lookup z = some .local) (ha : PA X [a, b, c] ta)
    (hw : swappedStores [.Tuple [.Name x px, .Name y py, .Name z pz] kt pt] (.Tuple [a, b, c] k2 pt2) X.env = pure (some [x, y, z]))
    (hs : swapsWithSole [.Tuple [.Name x px, .Name y py, .Name z pz] kt pt] (.Tuple [a, b, c] k2 pt2) pos.line X.env = pure false := by rfl) :
    PS X (.Assign [.Tuple [.Name x px, .Name y py, .Name z pz] kt pt] (.Tuple [a, b, c] k2 pt2) pos) (tPar3 i j k ta) := by
  refine ⟨fun pins s σ H D I h => ?_⟩
  rw [exec_Assign_arm]
  refine wpAny_bind (wpAny_standAt ?_)
  rw [hs]
  refine wpAny_bind (wpAny_pure ?_)
  rw [if_neg (by decide)]
  refine wpAny_bind (Tuple_ (thn (ha.run _ pins s σ H _ I h) fun us s1 ⟨vs, H1, I1, r1, q1⟩ => ?_))
  obtain ⟨v1, v2, v3, e1, q1⟩ := q1
  subst e1
  obtain ⟨u1, u2, u3, rfl, r1, r2, r3⟩ : ∃ u1 u2 u3, us = [u1, u2, u3] ∧ RelV v1 u1 ∧ RelV v2 u2 ∧ RelV v3 u3 := by
    cases r1 with
    | cons p q =>
      cases q with
      | cons p' q' =>
        cases q' with
        | cons p'' q'' =>
          cases q''
          exact ⟨_, _, _, rfl, p, p', p''⟩
  refine wpAny_newObj_type ?_ (by show 3 ≤ sizeLine; decide)
  have I2 : Inv X pins σ H1 { s1 with heap := s1.heap.push { cls := .type "tuple", data := .seq [u1, u2, u3].toArray } } := I1.kept (t' := s1.toks) fun b o e => Heap.get?_push_of_some _ e
  rw [hw]
  refine wpAny_bind (wpAny_pure ?_)
  show wpAny (model X.prog X.w) X.A (do rule "assign.swapped-stores"; let items ← unpackItems (.ref s1.heap.objs.size) 3 none; assignInOrder [fun v => bindName X.env z v, fun v => bindName X.env y v, fun v => bindName X.env x v] items.reverse; pure Flow.next) _ _ _
  refine wpAny_bind (wpAny_rule (wpAny_bind (unpackItems_tuple (items := #[u1, u2, u3]) (I.ok.hd hc) (IsTup.new s1.heap _) fun h' hx' => ?_)))
  have I3 := I2.kept (h' := h') (t' := s1.toks) fun b o e => hx' b o (Nat.ne_of_lt (Heap.lt_size e)) e
  show wpAny _ _ (assignInOrder [fun v => bindName X.env z v, fun v => bindName X.env y v, fun v => bindName X.env x v] [u3, u2, u1] >>= fun _ => pure Flow.next) _ _ _
  refine wpAny_bind (assignInOrder_cons (wpAny_bindName (store_ok I3 hN hk (.inl hz) r3 (fun s2 I4 => ?_) (.inr hz))))
  refine assignInOrder_cons (wpAny_bindName (store_ok I4 hN hj (.inl hy) r2 (fun s3 I5 => ?_) (.inr hy)))
  refine assignInOrder_cons (wpAny_bindName (store_ok I5 hN hi (.inl hx) r1 (fun s4 I6 => assignInOrder_nil (wpAny_pure ?_)) (.inr hx)))
  have e : ((σ.set k (some v3)).set j (some v2)).set i (some v1) = ((σ.set i (some v1)).set j (some v2)).set k (some v3) := by
    rw [List.set_comm _ _ (Ne.symm hjk), List.set_comm _ _ (Ne.symm hik), List.set_comm _ _ (Ne.symm hij)]
  rw [e] at I6
  exact ⟨_, H1, I6, q1⟩
def sPar3 (i j k : Nat) (ta : DTA) : DTS := fun E env l => ta env l fun ds l1 => match ds with
  | [u, v, w] => setK env i u fun env1 => setK env1 j v fun env2 => setK env2 k w fun env3 => E.nx env3 l1
  | _ => False
theorem ds_par3 {i j k : Nat} {x y z : Str} {a b c : Expr} {ta : DTA} {px py pz pt : Pos} {kt k2 pt2} (hc : X.calm = true) (hN : X.N.Nodup) (hi : X.N[i]? = some x) (hj : X.N[j]? = some y) (hk : X.N[k]? = some z) (hij : i ≠ j) (hik : i ≠ k) (hjk : j ≠ k)
    (hx : X.env.scope.names.lookup x = some .local) (hy : X.env.scope.names.lookup y = some .local) (hz : X.env.scope.names.lookup z = some .local) (ha : DA X [a, b, c] ta)
    (hw : swappedStores [.Tuple [.Name x px, .Name y py, .Name z pz] kt pt] (.Tuple [a, b, c] k2 pt2) X.env = pure (some [x, y, z]))
    (hs : swapsWithSole [.Tuple [.Name x px, .Name y py, .Name z pz] kt pt] (.Tuple [a, b, c] k2 pt2) pos.line X.env = pure false := by rfl) :
    DS X (.Assign [.Tuple [.Name x px, .Name y py, .Name z pz] kt pt] (.Tuple [a, b, c] k2 pt2) pos) (sPar3 i j k ta) := by
  refine ⟨?_⟩
  intro F Fr env l σ H E he hr ht
  refine (ps_par3 hc hN hi hj hk hij hik hjk hx hy hz paW hw hs).ws ?_
  refine (ha F Fr env l σ H _ he hr ht).mono fun vs H1 ⟨F1, ds, l1, s1, r1, R1, q1⟩ => ?_
  cases r1 with
  | nil => exact q1.elim
  | cons ra rr =>
    cases rr with
    | nil => exact q1.elim
    | cons rb rr =>
      cases rr with
      | nil => exact q1.elim
      | cons rc rr =>
        cases rr with
        | cons _ _ => exact q1.elim
        | nil =>
          replace q1 : setK env i _ _ := q1
          rw [setK_eq, setK_eq, setK_eq] at q1
          exact ⟨_, _, _, rfl, F1, _, l1, s1, (((he.mono s1).set ra i).set rb j).set rc k, R1, q1⟩
theorem iop_mulA : PIp X .Mult (rI IntMulOk fun i j => .int (i * j)) := fun pins s σ H x y v u Q I rx ry q => opI (f := inplaceOp .Mult) (fun _ _ _ _ _ _ _ hc q => imul_int q hc) pins s σ H x y v u Q I rx ry q
def kMulI : D → D → LH → DK → Prop := fun x y l Q => match x, y with
  | .int i, .int j => IntMulOk i j ∧ Q (.int (i * j)) l
  | _, _ => False
theorem kMulI_ok : KOp X (rI IntMulOk fun i j => .int (i * j)) kMulI := by
  intro F Fr l H Q d e v u Q' R rd re hq q
  cases rd <;> try exact q.elim
  cases re <;> try exact q.elim
  exact ⟨_, _, rfl, rfl, q.1, hq _ _ (LK.mk (.int _) R q.2)⟩
def kAdd2 : D → D → LH → DK → Prop := fun x y l Q => match x, y with
  | .int i, .int j => Q (.int (i + j)) l
  | .str i, .str j => i.length + j.length ≤ sizeLine ∧ Q (.str (i ++ j)) l
  | _, _ => False
def rAdd2 : R2 := fun x y H Q => rI0 (fun i j => .int (i + j)) x y H Q ∨ ∃ i j, x = .str i ∧ y = .str j ∧ i.length + j.length ≤ sizeLine ∧ Q (.str (i ++ j)) H
theorem iop_add2 : PIp X .Add rAdd2 := fun pins s σ H x y v u Q I rx ry q => (iop_add.or iop_add_str) pins s σ H x y v u Q I rx ry q
theorem kAdd2_ok : KOp X rAdd2 kAdd2 := by
  intro F Fr l H Q d e v u Q' R rd re hq q
  cases rd with
  | int i =>
    cases re <;> try exact q.elim
    exact .inl ⟨_, _, rfl, rfl, hq _ _ (LK.mk (.int _) R q)⟩
  | str i =>
    cases re <;> try exact q.elim
    exact .inr ⟨_, _, rfl, rfl, q.1, hq _ _ (LK.mk (.str _) R q.2)⟩
  | _ => exact q.elim
theorem iop_subI : PIp X .Sub (rI0 fun i j => .int (i - j)) := fun pins s σ H x y v u Q I rx ry q => iop_sub pins s σ H x y v u Q I rx ry q
end
end DL

namespace DL
open PySem PySem.Spec PyProof.Rows L2
theorem mulL {i j : Int} (h1 : -(2 ^ 64) < i) (h2 : i < 2 ^ 64) : IntMulOk i j := CMul.ok (.inl ⟨h1, h2⟩)
theorem mulR {i j : Int} (h1 : -(2 ^ 64) < j) (h2 : j < 2 ^ 64) : IntMulOk i j := CMul.ok (.inr ⟨h1, h2⟩)
theorem b01 (b : Bool) : (0 : Int) ≤ (if b = true then (1 : Int) else 0) ∧ (if b = true then (1 : Int) else 0) ≤ 1 := by cases b <;> decide
theorem atI_ints {ns : List Int} {k : Int} (h0 : 0 ≤ k) (h1 : k < ns.length) : ∃ c, atI (ns.map D.int) k = some (D.int c) ∧ atI ns k = some c := by
  obtain ⟨j, rfl⟩ := Int.eq_ofNat_of_zero_le h0
  have hl : j < ns.length := by omega
  exact ⟨ns[j], atI_nat (by rw [List.getElem?_map, List.getElem?_eq_getElem hl]; rfl), atI_nat (List.getElem?_eq_getElem hl)⟩
/-- what a box holds: drawn from behind at most k draws -/
def BoxO (o : DO) (k : Nat) : Prop := ∃ c0 c1 c2 : Int, o = .lst [.int c0, .int c1, .int c2] ∧ 0 ≤ c0 ∧ 0 ≤ c1 ∧ c1 < 2147483647 ∧ 0 ≤ c2 ∧ c2 ≤ k
def Box (l : LH) (a : Addr) (k : Nat) : Prop := ∃ o, l a = some o ∧ BoxO o k
def Oth (l l' : LH) (a : Addr) : Prop := ∀ b, b ≠ a → l' b = l b
theorem Oth.refl {l : LH} {a : Addr} : Oth l l a := fun _ _ => rfl
theorem Oth.trans {l l1 l2 : LH} {a : Addr} (h : Oth l l1 a) (h' : Oth l1 l2 a) : Oth l l2 a := fun b n => (h' b n).trans (h b n)
theorem Oth.upd {l : LH} {a : Addr} {o : DO} : Oth l (uL l a o) a := fun b n => uL_ne n
theorem Box.new {l : LH} {a : Addr} {c0 c1 : Int} (h0 : 0 ≤ c0) (h1 : 0 ≤ c1) (h2 : c1 < 2147483647) : Box (uL l a (.lst [.int c0, .int c1, .int 0])) a 0 := ⟨_, uL_same, c0, c1, 0, rfl, h0, h1, h2, Int.le_refl _, Int.le_refl _⟩

/-! data alike -/
def okN (n : Nat) (d : D) : Prop := (toPy d).canLay0 = true ∧ (toPy d).depth ≤ n
theorem okN.ok {n : Nat} {d : D} (h : okN n d) (hn : n ≤ 64 := by decide) : okD d := by
  unfold okD SeqAt.shaped
  rw [h.1, decide_eq_true (Nat.le_trans h.2 hn)]
  rfl
theorem okN.mono {n m : Nat} {d : D} (h : okN n d) (hm : n ≤ m) : okN m d := ⟨h.1, Nat.le_trans h.2 hm⟩
theorem okN_int (i : Int) : okN 0 (.int i) := ⟨by rw [toPy, PyData.canLay0], by rw [toPy, PyData.depth]; exact Nat.le_refl _⟩
theorem okN_bl (i : Bool) : okN 0 (.bl i) := ⟨by rw [toPy, PyData.canLay0], by rw [toPy, PyData.depth]; exact Nat.le_refl _⟩
theorem okN_non : okN 0 .non := ⟨by rw [toPy, PyData.canLay0], by rw [toPy, PyData.depth]; exact Nat.le_refl _⟩
theorem okN_all {n : Nat} : ∀ {ds : List D}, (∀ d ∈ ds, okN n d) → PyData.canLayAll0 (toPys ds) = true ∧ PyData.depthAll (toPys ds) ≤ n
  | [], _ => ⟨by rw [toPys, PyData.canLayAll0], by rw [toPys, PyData.depthAll]; exact Nat.zero_le _⟩
  | d :: ds, h => by
    obtain ⟨h1, h2⟩ := okN_all (ds := ds) fun e he => h e (List.mem_cons_of_mem _ he)
    obtain ⟨h3, h4⟩ := h d List.mem_cons_self
    exact ⟨by rw [toPys, PyData.canLayAll0, h3, h1]; rfl, by rw [toPys, PyData.depthAll]; exact Nat.max_le.mpr ⟨h4, h2⟩⟩
theorem okN_tup {n : Nat} {ds : List D} (h : ∀ d ∈ ds, okN n d) : okN (n + 1) (.tup ds) := by
  obtain ⟨h1, h2⟩ := okN_all h
  exact ⟨by rw [toPy, PyData.canLay0, h1], by rw [toPy, PyData.depth]; exact Nat.succ_le_succ h2⟩
theorem okN_lst {n : Nat} {ds : List D} (h : ∀ d ∈ ds, okN n d) : okN (n + 1) (.lst ds) := by
  obtain ⟨h1, h2⟩ := okN_all h
  exact ⟨by rw [toPy, PyData.canLay0, h1], by rw [toPy, PyData.depth]; exact Nat.succ_le_succ h2⟩
theorem okN_tints (ns : List Int) : okN 1 (.tup (ns.map D.int)) := okN_tup fun d hd => by
  obtain ⟨i, _, rfl⟩ := List.mem_map.mp hd
  exact okN_int i
theorem okN_lints (ns : List Int) : okN 1 (.lst (ns.map D.int)) := okN_lst fun d hd => by
  obtain ⟨i, _, rfl⟩ := List.mem_map.mp hd
  exact okN_int i
theorem eqD_refl {n : Nat} {d : D} (h : okN n d) : eqD d d = true := SeqAt.eqv_refl _ h.1
theorem eqvs_ints : ∀ ns ms : List Int, PyData.eqvAll (toPys (ns.map D.int)) (toPys (ms.map D.int)) = decide (ns = ms)
  | [], [] => by simp [toPys, PyData.eqvAll]
  | [], _ :: _ => by simp [toPys, PyData.eqvAll]
  | _ :: _, [] => by simp [toPys, PyData.eqvAll]
  | n :: ns, m :: ms => by
    have ih := eqvs_ints ns ms
    simp only [List.map_cons, toPys, toPy, PyData.eqvAll, PyData.eqv, ih]
    by_cases e : n = m
    · subst e; simp
    · simp [e]
theorem eqD_tints (ns ms : List Int) : eqD (.tup (ns.map D.int)) (.tup (ms.map D.int)) = decide (ns = ms) := by
  unfold eqD
  rw [toPy, toPy, PyData.eqv, eqvs_ints]
theorem eqD_lints (ns ms : List Int) : eqD (.lst (ns.map D.int)) (.lst (ms.map D.int)) = decide (ns = ms) := by
  unfold eqD
  rw [toPy, toPy, PyData.eqv, eqvs_ints]
theorem eqD_int (i j : Int) : eqD (.int i) (.int j) = decide (i = j) := by
  unfold eqD
  rw [toPy, toPy, PyData.eqv, Bool.beq_eq_decide_eq]
theorem small {n : Nat} (h : n ≤ 100000) : n ≤ sizeLine := Nat.le_trans h (by decide)

/-! comprehensions that draw nothing and write nothing -/
theorem comp_pure {g : DTG} {tt : DTT} {te : DTE} {vs : List Nat} {f : D → D} {l : LH} {env : DSt} : ∀ {ds : List D} {Q : List D → LH → Prop}
    (hs : ∀ d ∈ ds, ∀ (K1 : DK) (K2 : LH → Prop), K1 (f d) l → wipeK vs env fun env0 => g d env0 l fun env1 l1 => tt env1 l1 fun c l2 => ifB c (te env1 l2 K1) (K2 l2)) (hq : Q (ds.map f) l), compL g tt te vs ds env l Q
  | [], Q, _, hq => hq
  | d :: ds, Q, hs, hq =>
    hs d List.mem_cons_self (fun r l3 => compL g tt te vs ds env l3 fun rs l4 => Q (r :: rs) l4) (fun l2 => compL g tt te vs ds env l2 Q) (comp_pure (Q := fun rs l4 => Q (f d :: rs) l4) (fun e he => hs e (List.mem_cons_of_mem _ he)) hq)
def E0 (Q : DK) : DEnds := ⟨fun _ l => Q .non l, Q, fun _ _ => False, fun _ _ => False⟩
/-- a word handed as a tuple or as a list -/
def Hd (x : D) (ws : List Int) : Prop := x = .tup (ws.map D.int) ∨ x = .lst (ws.map D.int)
theorem Hd.t (ws : List Int) : Hd (.tup (ws.map D.int)) ws := .inl rfl
theorem Hd.l (ws : List Int) : Hd (.lst (ws.map D.int)) ws := .inr rfl
theorem hd_nil : Hd (.tup []) [] ∧ Hd (.lst []) [] := ⟨.inl rfl, .inr rfl⟩
theorem hd_tuple {x : D} {ws : List Int} (hx : Hd x ws) {l : LH} {K : DK} (h : K (.tup (ws.map D.int)) l) : kTuple [x] l K := by
  rcases hx with rfl | rfl <;> exact h
theorem two_ok : 2 ≤ sizeLine := by decide
theorem three_ok : 3 ≤ sizeLine := by decide
theorem okN_two {n : Nat} {a b : D} (ha : okN n a) (hb : okN n b) : okN (n + 1) (.tup [a, b]) := okN_tup fun d hd => by
  rcases List.mem_cons.mp hd with e | hd
  · rw [e]; exact ha
  · rcases List.mem_cons.mp hd with e | hd
    · rw [e]; exact hb
    · simp at hd
theorem lens {ws us : List Int} (hw : ws.length ≤ 60) (hu : us.length ≤ 60) : (ws.map D.int).length + (us.map D.int).length ≤ sizeLine := by
  rw [List.length_map, List.length_map]
  exact small (by omega)
theorem cutD_head (ns : List Int) (n : Int) (hn : 0 ≤ n) : DL.cutD (ns.map D.int) none (some n) = (ns.take n.toNat).map D.int := by
  obtain ⟨j, rfl⟩ := Int.eq_ofNat_of_zero_le hn
  unfold DL.cutD
  rw [HT.sIx_none, HT.sIx_nat, List.drop_zero, Nat.sub_zero, List.length_map, List.map_take]
  show _ = List.take j _
  by_cases h : j ≤ ns.length
  · rw [Nat.min_eq_left h]
  · rw [Nat.min_eq_right (by omega), List.take_of_length_le (by rw [List.length_map]; exact Nat.le_refl _), List.take_of_length_le (by rw [List.length_map]; omega)]
theorem rev_neg_rev (ws : List Int) : (((ws.reverse.map fun i => -i).reverse).map fun i => -i) = ws := by
  rw [← List.map_reverse, List.reverse_reverse, List.map_map]
  conv => rhs; rw [← List.map_id ws]
  exact List.map_congr_left fun i _ => by show - -i = i; omega
def WordOf (ws : List Int) (letters : Int) : Prop := ∀ w ∈ ws, w ≠ 0 ∧ -letters ≤ w ∧ w ≤ letters
/-- more objects than ahead -/
def Sub (l l' : LH) : Prop := ∀ a o, l a = some o → l' a = some o
theorem Sub.refl {l : LH} : Sub l l := fun _ _ h => h
theorem Sub.trans {l l1 l2 : LH} (h : Sub l l1) (h' : Sub l1 l2) : Sub l l2 := fun a o e => h' a o (h a o e)
theorem Box.sub {l l' : LH} {a : Addr} {k : Nat} (h : Sub l l') : Box l a k → Box l' a k
  | ⟨o, e, b⟩ => ⟨o, h a o e, b⟩
theorem Box.le {l : LH} {a : Addr} {k m : Nat} (h : k ≤ m) : Box l a k → Box l a m
  | ⟨o, e, c0, c1, c2, q, a0, a1, a2, a3, a4⟩ => ⟨o, e, c0, c1, c2, q, a0, a1, a2, a3, by omega⟩
/-- comprehensions with a test -/
theorem comp_filter {g : DTG} {tt : DTT} {te : DTE} {vs : List Nat} {f : D → D} {p : D → Bool} {l : LH} {env : DSt} : ∀ {ds : List D} {Q : List D → LH → Prop}
    (hs : ∀ d ∈ ds, ∀ (K1 : DK) (K2 : LH → Prop), (p d = true → K1 (f d) l) → (p d = false → K2 l) → wipeK vs env fun env0 => g d env0 l fun env1 l1 => tt env1 l1 fun c l2 => ifB c (te env1 l2 K1) (K2 l2)) (hq : Q ((ds.filter p).map f) l), compL g tt te vs ds env l Q
  | [], Q, _, hq => hq
  | d :: ds, Q, hs, hq => by
    refine hs d List.mem_cons_self (fun r l3 => compL g tt te vs ds env l3 fun rs l4 => Q (r :: rs) l4) (fun l2 => compL g tt te vs ds env l2 Q) (fun hp => ?_) (fun hp => ?_)
    · rw [List.filter_cons_of_pos hp] at hq
      exact comp_filter (Q := fun rs l4 => Q (f d :: rs) l4) (fun e he => hs e (List.mem_cons_of_mem _ he)) hq
    · rw [List.filter_cons_of_neg (by rw [hp]; exact Bool.false_ne_true)] at hq
      exact comp_filter (fun e he => hs e (List.mem_cons_of_mem _ he)) hq
theorem cutD_to (ds : List D) (j : Nat) : DL.cutD ds none (some (j : Int)) = ds.take j := by
  unfold DL.cutD
  rw [HT.sIx_none, HT.sIx_nat, List.drop_zero, Nat.sub_zero]
  by_cases h : j ≤ ds.length
  · rw [Nat.min_eq_left h]
  · rw [Nat.min_eq_right (by omega), List.take_length, List.take_of_length_le (by omega)]
theorem cutD_from (ds : List D) (j : Nat) : DL.cutD ds (some (j : Int)) none = ds.drop j := by
  unfold DL.cutD
  rw [HT.sIx_none, HT.sIx_nat]
  by_cases h : j ≤ ds.length
  · rw [Nat.min_eq_left h, List.take_of_length_le (by rw [List.length_drop]; exact Nat.le_refl _)]
  · rw [Nat.min_eq_right (by omega), List.drop_of_length_le (Nat.le_refl _), List.drop_of_length_le (by omega), List.take_nil]
end DL

namespace DL
open PySem PySem.Spec PyProof.Rows L2
/-! str of a list or a tuple -/
def seqP : PyData → Bool
  | .list _ | .tuple _ => true
  | _ => false
structure strOk (d : D) : Prop where
  lay : okN 8 d
  sh : (toPy d).showable = true
  sz : (toPy d).shown.length ≤ sizeLine
  sq : seqP (toPy d) = true
def rStr (K : PySem.W.Frag) : List V → Hp → VK → Prop := fun xs H Q => ∃ x d, xs = [x] ∧ Dp K H x d ∧ seqP d = true ∧ d.canLay0 = true ∧ d.showable = true ∧ d.shown.length ≤ sizeLine ∧ d.depth ≤ 8 ∧ Q (.str d.shown) H
theorem call_strSeq {X : Cx} {k : Nat} (hr : Room k X.A) (hgd : X.A.guards = some []) : CallR X (.type "str") (rStr X.K) := by
  intro pins s σ H xs us Q I r ⟨x, d, e, hd, hsq, hl, hs, hz, hdp, q⟩
  subst e
  obtain ⟨u, rfl, r1⟩ := vals1 r
  obtain ⟨as, rd⟩ := Dp.reads I d x u hd r1
  have hu : X.A.units + (d.depth + 3) < cLine := by have := hr.un; omega
  have fin : ∀ h' u tk, (∀ b o, s.heap.get? b = some o → h'.get? b = some o) → EP X pins σ Q (.str d.shown u) { s with heap := h', toks := tk } := fun h' u tk hk => ⟨.str _, H, I.un (Un.kept hk) (I.hok.kept hk), ⟨_, rfl⟩, q⟩
  cases rd with
  | none => cases hsq
  | bool b => cases hsq
  | int i t => cases hsq
  | str x t => cases hsq
  | list h1 h2 h3 h4 => exact str_of_reads (.list h1 h2 h3 h4) hs (PyData.noDict_hsm (PyData.hasDict_of_canLay _ hl)) hgd hu (fun _ _ e => e) fin hz
  | tuple h1 h2 h3 h4 => exact str_of_reads (.tuple h1 h2 h3 h4) hs (PyData.noDict_hsm (PyData.hasDict_of_canLay _ hl)) hgd hu (fun _ _ e => e) fin hz
  | dict _ _ _ _ _ => cases hsq
def kStr : List D → LH → DK → Prop := fun ds l Q => match ds with
  | [d] => resL d l fun d => strOk d ∧ Q (.str (toPy d).shown) l
  | _ => False
theorem kStr_ok {X : Cx} : KCall X (rStr X.K) kStr := by
  intro F Fr l H Q ds vs Q' R rd hq q
  cases rd with
  | nil => exact q.elim
  | cons r1 rr =>
    cases rr with
    | cons _ _ => exact q.elim
    | nil =>
      replace q : resL _ l fun d => strOk d ∧ Q (.str (toPy d).shown) l := q
      obtain ⟨d', ⟨hk, q⟩, h⟩ := resL_ok R r1 q
      exact ⟨_, _, rfl, h hk.lay.1, hk.sq, hk.lay.1, hk.sh, hk.sz, hk.lay.2, hq _ _ ⟨F, _, l, Same.refl F, .str _, R, q⟩⟩
section
variable {X : Cx} {e : Expr} {te : DTE} {pos p : Pos} {k : Nat}
theorem de_str1 (hr : Room k X.A) (hgd : X.A.guards = some []) (hg : Gl X "str") (hm : X.mg "str" = none) (h : DE X e te) (he : starEach [e] X.env = (false, eval e X.env) :: starEach [] X.env := by rfl) : DE X (.Call (.Name "str" p) [e] [] pos) (dCall kStr (aCons te aNil)) :=
  de_callT (call_strSeq hr hgd) kStr_ok hg hm (by decide +kernel) (da_cons h da_nil he) (by decide) (by decide) he
end

/-! texts alike -/
def kEqS : D → D → LH → DK → Prop := fun x y l Q => match x, y with | .str a, .str b => Q (.bl (decide (a = b))) l | _, _ => False
def kNeS : D → D → LH → DK → Prop := fun x y l Q => match x, y with | .str a, .str b => Q (.bl (!decide (a = b))) l | _, _ => False
theorem dec_strV (a b : Str) : decide (V.str a = V.str b) = decide (a = b) := by
  rw [Bool.eq_iff_iff]
  simp
theorem kEqS_ok {X : Cx} : KOp X rEq kEqS := by
  intro F Fr l H Q d e v u Q' R rd re hq q
  cases rd with
  | str a =>
    cases re with
    | str b => exact ⟨rfl, by rw [dec_strV]; exact hq _ _ (LK.mk (.bl _) R q)⟩
    | _ => exact q.elim
  | _ => exact q.elim
theorem kNeS_ok {X : Cx} : KOp X rNe kNeS := by
  intro F Fr l H Q d e v u Q' R rd re hq q
  cases rd with
  | str a =>
    cases re with
    | str b => exact ⟨rfl, by rw [dec_strV]; exact hq _ _ (LK.mk (.bl _) R q)⟩
    | _ => exact q.elim
  | _ => exact q.elim
def dEqS : DTE → DTE → DTE := dOp kEqS
def dNeS : DTE → DTE → DTE := dOp kNeS
section
variable {X : Cx} {a b : Expr} {ta tb : DTE} {pos : Pos}
theorem de_eqS (ha : DE X a ta) (hb : DE X b tb) : DE X (.Compare a [.Eq] [b] pos) (dEqS ta tb) := de_cmp op_eq kEqS_ok ha hb (nomark _)
theorem dt_eqS (ha : DE X a ta) (hb : DE X b tb) : DT X (.Compare a [.Eq] [b] pos) (dTV (dEqS ta tb)) := dt_cmp op_eq kEqS_ok ha hb (nomark _)
theorem de_neS (ha : DE X a ta) (hb : DE X b tb) : DE X (.Compare a [.NotEq] [b] pos) (dNeS ta tb) := de_cmp op_ne kNeS_ok ha hb (nomark _)
theorem dt_neS (ha : DE X a ta) (hb : DE X b tb) : DT X (.Compare a [.NotEq] [b] pos) (dTV (dNeS ta tb)) := dt_cmp op_ne kNeS_ok ha hb (nomark _)
end

/-! what can be shown -/
theorem showableAll_map : ∀ ns : List PyData, (∀ d ∈ ns, d.showable = true) → PyData.showableAll ns = true
  | [], _ => rfl
  | d :: r, h => by rw [PyData.showableAll, h d List.mem_cons_self, showableAll_map r fun e he => h e (List.mem_cons_of_mem _ he)]; rfl
theorem shortAll_map {B : Nat} : ∀ ns : List PyData, (∀ d ∈ ns, d.intsShort B = true) → PyData.intsShortAll B ns = true
  | [], _ => rfl
  | d :: r, h => by rw [PyData.intsShortAll, h d List.mem_cons_self, shortAll_map r fun e he => h e (List.mem_cons_of_mem _ he)]; rfl
theorem weightAll_le {m : Nat} : ∀ ns : List PyData, (∀ d ∈ ns, d.weight ≤ m) → PyData.weightAll ns ≤ (m + 1) * ns.length
  | [], _ => by rw [PyData.weightAll]; exact Nat.zero_le _
  | d :: r, h => by
    have h1 := weightAll_le (m := m) r fun e he => h e (List.mem_cons_of_mem _ he)
    have h2 := h d List.mem_cons_self
    rw [PyData.weightAll, List.length_cons, Nat.mul_succ]
    omega
/-- all ints of it are short, it weighs no more than m -/
structure shwN (m : Nat) (d : PyData) : Prop where
  sh : d.showable = true
  st : d.intsShort 13 = true
  wt : d.weight ≤ m
theorem shwN_int {i : Int} (h : i.natAbs < 10 ^ 12) : shwN 40 (.int i) := by
  have hb : i.natAbs.log2 < 40 := by
    by_cases z : i.natAbs = 0
    · rw [z]; decide
    · exact (Nat.log2_lt z).mpr (Nat.lt_of_lt_of_le h (by decide))
  refine ⟨?_, ?_, ?_⟩
  · rw [PyData.showable]
    exact decide_eq_true (by omega)
  · simp only [PyData.intsShort, decide_eq_true_eq]
    exact PyData.shown_int_le h
  · rw [PyData.weight]
    split <;> omega
theorem shwN_tup {m k : Nat} {ds : List PyData} (h : ∀ d ∈ ds, shwN m d) (hk : ds.length ≤ k) : shwN ((m + 1) * k) (.tuple ds) :=
  ⟨by rw [PyData.showable]; exact showableAll_map _ fun d hd => (h d hd).sh, by rw [PyData.intsShort]; exact shortAll_map _ fun d hd => (h d hd).st, by rw [PyData.weight]; exact Nat.le_trans (weightAll_le _ fun d hd => (h d hd).wt) (Nat.mul_le_mul_left _ hk)⟩
theorem shwN_lst {m k : Nat} {ds : List PyData} (h : ∀ d ∈ ds, shwN m d) (hk : ds.length ≤ k) : shwN ((m + 1) * k) (.list ds) :=
  ⟨by rw [PyData.showable]; exact showableAll_map _ fun d hd => (h d hd).sh, by rw [PyData.intsShort]; exact shortAll_map _ fun d hd => (h d hd).st, by rw [PyData.weight]; exact Nat.le_trans (weightAll_le _ fun d hd => (h d hd).wt) (Nat.mul_le_mul_left _ hk)⟩
theorem strOk.mk' {m : Nat} {d : D} (h : okN 8 d) (h2 : shwN m (toPy d)) (hm : m ≤ 2 ^ 20) (sq : seqP (toPy d) = true) : strOk d :=
  ⟨h, h2.sh, PyData.shown_fits (by decide) (Nat.le_refl 13) (PyData.leavesShort_of_canLay0 13 _ h.1 h2.st) (Nat.le_trans h2.wt hm), sq⟩
theorem strOk_tints {ns : List Int} (h : ∀ n ∈ ns, n.natAbs < 10 ^ 12) (hl : ns.length ≤ 20000) : strOk (.tup (ns.map D.int)) := by
  refine .mk' (m := (40 + 1) * 20000) ((okN_tints ns).mono (by decide)) ?_ (by decide) (by rw [toPy]; rfl)
  rw [toPy]
  refine shwN_tup (fun d hd => ?_) (by rw [toPys_map, List.length_map, List.length_map]; exact hl)
  rw [toPys_map, List.map_map] at hd
  obtain ⟨i, hi, rfl⟩ := List.mem_map.mp hd
  show shwN 40 (toPy (.int i))
  rw [toPy]
  exact shwN_int (h i hi)
/-- a list (or tuple) of words -/
theorem shw_word {w : List Int} {m : Nat} (h : ∀ n ∈ w, n.natAbs < 10 ^ 12) (hl : w.length ≤ m) : shwN ((40 + 1) * m) (toPy (.tup (w.map D.int))) := by
  rw [toPy]
  refine shwN_tup (fun d hd => ?_) (by rw [toPys_map, List.length_map, List.length_map]; exact hl)
  rw [toPys_map, List.map_map] at hd
  obtain ⟨i, hi, rfl⟩ := List.mem_map.mp hd
  show shwN 40 (toPy (.int i))
  rw [toPy]
  exact shwN_int (h i hi)
def wordD (w : List Int) : D := .tup (w.map D.int)
theorem strOk_words {ws : List (List Int)} {m k : Nat} (h : ∀ w ∈ ws, w.length ≤ m ∧ ∀ n ∈ w, n.natAbs < 10 ^ 12) (hk : ws.length ≤ k) (hmk : ((40 + 1) * m + 1) * k ≤ 2 ^ 20) : strOk (.lst (ws.map wordD)) := by
  refine .mk' (m := ((40 + 1) * m + 1) * k) ((okN_lst (n := 1) fun d hd => ?_).mono (by decide)) ?_ hmk (by rw [toPy]; rfl)
  · obtain ⟨w, _, rfl⟩ := List.mem_map.mp hd
    exact okN_tints w
  · rw [toPy]
    refine shwN_lst (fun d hd => ?_) (by rw [toPys_map, List.length_map, List.length_map]; exact hk)
    rw [toPys_map, List.map_map] at hd
    obtain ⟨w, hw, rfl⟩ := List.mem_map.mp hd
    exact shw_word (h w hw).2 (h w hw).1
theorem okN_str {x : Str} (h : PyData.strOk x = true) : okN 0 (.str x) := ⟨by rw [toPy, PyData.canLay0, h], by rw [toPy, PyData.depth]; exact Nat.le_refl _⟩
end DL

namespace DL
open PySem PySem.Spec PyProof.Rows L2
/-! the least of a list of data -/
theorem toPys_get {ds : List D} {i : Nat} {d : D} (h : ds[i]? = some d) : (toPys ds)[i]? = some (toPy d) := by
  rw [toPys_map, List.getElem?_map, h]; rfl
def rMinD (K : PySem.W.Frag) : List V → Hp → VK → Prop := fun vs H Q => ∃ (a : Addr) (xs : List V) (x : PyData) (ds : List PyData), vs = [V.ref a] ∧ SqL K H a xs ∧ DpAll K H xs (x :: ds) ∧ PySem.W.AlikeAll (x :: ds) ∧ PyData.depthAll (x :: ds) ≤ 8 ∧
  ∀ (i : Nat) (v : V), xs[i]? = some v → (x :: ds)[i]? = some (PySem.W.minD x ds) → Q v H
theorem call_minD {X : Cx} {k : Nat} (hc : X.calm = true) (hr : Room k X.A) : CallR X (.builtin "min") (rMinD X.K) := by
  intro pins s σ H vs us Q I r ⟨a, xs, x, ds, e, hs, hd, ha, hdp, q⟩
  subst e
  obtain ⟨its, rv, hl, _⟩ := I.list hs
  rw [Vals.ref1 r]
  obtain ⟨as, rd⟩ := Dp.readsAll I (x :: ds) xs its hd rv
  refine PySem.W.min_list_data (I.ok.hd hc) hl.isList (by simpa using rd) ha (by have := hr.un; omega) fun i v h' tk bs hi r' hk => ?_
  have hi' : its[i]? = some v := by simpa using hi
  obtain ⟨bs', r2, hlt, _, _⟩ := PySem.W.readsAll_at (h := s.heap) (by simpa using rd) i v (by simpa using hi')
  have e1 := (PyProof.Rows.reads_det (fun _ _ e _ => e) r' (PySem.W.reads_keeps hk r2)).1
  obtain ⟨x', hx', rx⟩ : ∃ x', xs[i]? = some x' ∧ RelV x' v := by
    cases e : xs[i]? with
    | none => rw [rv.none_of e] at hi'; cases hi'
    | some x' =>
      obtain ⟨u, hu, ru⟩ := rv.get e
      rw [hi'] at hu; cases hu
      exact ⟨x', rfl, ru⟩
  refine ⟨x', H, I.kept hk, rx, q i x' hx' ?_⟩
  rw [← e1, List.getElem?_eq_getElem hlt, List.getD_eq_getElem?_getD, List.getElem?_eq_getElem hlt]
  rfl

theorem RelDs.dpAll {K : PySem.W.Frag} {F H : Hp} (h : Same F H) {ds : List D} {vs : List V} (r : RelDs K F ds vs) (c : PyData.canLayAll0 (toPys ds) = true) : DpAll K H vs (toPys ds) := RelDs.dp h r c
def kMinL : List D → LH → DK → Prop := fun ds l Q => match ds with
  | [.lst (x :: xs)] => PyData.canLayAll0 (toPys (x :: xs)) = true ∧ PySem.W.AlikeAll (toPys (x :: xs)) ∧ PyData.depthAll (toPys (x :: xs)) ≤ 8 ∧ ∀ d ∈ x :: xs, toPy d = PySem.W.minD (toPy x) (toPys xs) → Q d l
  | _ => False
theorem kMinL_ok {X : Cx} : KCall X (rMinD X.K) kMinL := by
  intro F Fr l H Q ds vs Q' R rd hq q
  cases rd with
  | nil => exact q.elim
  | @cons d v ds' vs' r1 rr =>
    cases rr with
    | cons _ _ =>
      cases d with
      | lst ds => cases ds <;> exact q.elim
      | _ => exact q.elim
    | nil =>
      cases r1 with
      | @lst p xs ds h1 r1 =>
        cases ds with
        | nil => exact q.elim
        | cons x ds =>
          obtain ⟨q1, q2, q3, q⟩ := q
          refine ⟨p, xs, toPy x, toPys ds, rfl, .inl (.inl (R.fz _ _ h1)), RelDs.dp R.fz r1 q1, q2, q3, fun i v hi hd => ?_⟩
          obtain ⟨d, hd', rd'⟩ : ∃ d, (x :: ds)[i]? = some d ∧ RelD X.K F d v := by
            cases e : (x :: ds)[i]? with
            | none =>
              have h2 : (toPy x :: toPys ds)[i]? = none := by
                rw [show toPy x :: toPys ds = toPys (x :: ds) from rfl, toPys_map, List.getElem?_map, e]; rfl
              rw [h2] at hd; cases hd
            | some d =>
              obtain ⟨v', hv', r'⟩ := r1.get e
              rw [hi] at hv'; cases hv'
              exact ⟨d, rfl, r'⟩
          have e2 := toPys_get hd'
          rw [show toPys (x :: ds) = toPy x :: toPys ds from rfl, hd] at e2
          exact hq _ _ (LK.mk rd' R (q d (List.mem_of_getElem? hd') (Option.some.inj e2).symm))
      | _ => exact q.elim
/-! words, in order -/
theorem lexLt_dec : ∀ xs ys : List Int, HT.lexLt xs ys = decide (xs < ys)
  | [], [] => by simp [HT.lexLt]
  | [], y :: ys => by simp [HT.lexLt]
  | x :: xs, [] => by simp [HT.lexLt]
  | x :: xs, y :: ys => by
    rw [HT.lexLt, lexLt_dec xs ys]
    by_cases h : x = y
    · subst h; simp [List.cons_lt_cons_iff]
    · rw [if_neg h]; simp [List.cons_lt_cons_iff, h]
theorem toPy_word (w : List Int) : toPy (wordD w) = .tuple (w.map .int) := by
  unfold wordD
  rw [toPy, toPys_map, List.map_map]
  congr 1
theorem dataLt_words (u v : List Int) : PySem.W.dataLt (toPy (wordD u)) (toPy (wordD v)) = HT.lexLt u v := by
  rw [toPy_word, toPy_word, PySem.W.dataLt_tuple, lexLt_dec]
  exact PySem.W.dataLt_ints u v
theorem toPy_word_inj {u v : List Int} (h : toPy (wordD u) = toPy (wordD v)) : u = v := by
  rw [toPy_word, toPy_word] at h
  have h := PyData.tuple.inj h
  exact (List.map_inj_right fun a b e => PyData.int.inj e).mp h
def minL (w : List Int) (ws : List (List Int)) : List Int := ws.foldl (fun a y => if HT.lexLt y a = true then y else a) w
theorem minD_words : ∀ (ws : List (List Int)) (w : List Int), PySem.W.minD (toPy (wordD w)) (toPys (ws.map wordD)) = toPy (wordD (minL w ws))
  | [], w => rfl
  | v :: ws, w => by
    have h := minD_words ws (if HT.lexLt v w = true then v else w)
    unfold PySem.W.minD at h ⊢
    rw [List.map_cons, toPys, List.foldl_cons]
    rw [dataLt_words]
    have e : (if HT.lexLt v w = true then toPy (wordD v) else toPy (wordD w)) = toPy (wordD (if HT.lexLt v w = true then v else w)) := by split <;> rfl
    rw [e, h]
    rfl
theorem alike_ints : ∀ u v : List Int, PySem.W.alikeAll (u.map .int) (v.map .int) = true
  | [], v => by rw [List.map_nil, PySem.W.alikeAll]
  | _ :: _, [] => by rw [List.map_nil, List.map_cons, PySem.W.alikeAll]
  | x :: xs, y :: ys => by rw [List.map_cons, List.map_cons, PySem.W.alikeAll, alike_ints xs ys]; simp [PySem.W.alike]
theorem alike_words (u v : List Int) : PySem.W.alike (toPy (wordD u)) (toPy (wordD v)) = true := by
  rw [toPy_word, toPy_word]
  simp only [PySem.W.alike]
  exact alike_ints u v
theorem words_lay (ws : List (List Int)) : PyData.canLayAll0 (toPys (ws.map wordD)) = true ∧ PyData.depthAll (toPys (ws.map wordD)) ≤ 1 := okN_all fun d hd => by
  obtain ⟨w, _, rfl⟩ := List.mem_map.mp hd
  exact okN_tints w
theorem kMinL_words {w : List Int} {ws : List (List Int)} {l : LH} {Q : DK} (h : Q (wordD (minL w ws)) l) : kMinL [.lst ((w :: ws).map wordD)] l Q := by
  have h1 := words_lay (w :: ws)
  refine ⟨h1.1, ⟨fun x hx y hy => ?_, fun x hx => ?_⟩, Nat.le_trans h1.2 (by decide), fun d hd e => ?_⟩
  · have hx : x ∈ toPys ((w :: ws).map wordD) := hx
    have hy : y ∈ toPys ((w :: ws).map wordD) := hy
    rw [toPys_map, List.map_map] at hx hy
    obtain ⟨u, _, rfl⟩ := List.mem_map.mp hx
    obtain ⟨v, _, rfl⟩ := List.mem_map.mp hy
    exact alike_words u v
  · have hx : x ∈ toPys ((w :: ws).map wordD) := hx
    rw [toPys_map, List.map_map] at hx
    obtain ⟨u, _, rfl⟩ := List.mem_map.mp hx
    intro e
    have e : toPy (wordD u) = .none := e
    rw [toPy_word] at e
    cases e
  · have hd : d ∈ (w :: ws).map wordD := hd
    obtain ⟨u, _, rfl⟩ := List.mem_map.mp hd
    rw [minD_words] at e
    rw [toPy_word_inj e]
    exact h
end DL

namespace DL
open PySem PySem.Spec PyProof.Rows L2
/-! ### tests that read what may be written, and write nothing -/
theorem RepE.setD {K : PySem.W.Frag} {F : Hp} {e : DSt} {σ : St} {i : Nat} {d : D} {v : V} (h : RepE K F e σ) (hv : σ[i]? = some (some v)) (r : RelD K F d v) : RepE K F (e.set i (some d)) σ := by
  have := RepE.set r i h
  have e2 : σ.set i (some v) = σ := by
    refine List.ext_getElem? fun j => ?_
    by_cases hj : i = j
    · subst hj
      rw [hv]
      have hl := (List.getElem?_eq_some_iff.mp hv).1
      rw [List.getElem?_set_self hl]
    · rw [List.getElem?_set_ne hj]
  rwa [e2] at this
/-- by the places of the names that are read -/
def borK {β : Type} (l : LH) (run : DSt → β → Prop) (k : β) : List Nat → DSt → Prop
  | [], env => run env k
  | i :: ix, env => match nthE env i with
    | some (.ref a) => getO l a fun o => match o with | .lst ds => borK l run k ix (env.set i (some (.lst ds))) | _ => False
    | _ => borK l run k ix env
def tBor (ix : List Nat) (t : DTT) : DTT := fun env l Q => borK l (fun env (_ : Unit) => t env (fun _ => none) fun c _ => Q c l) () ix env
def simpD : D → Bool
  | .non | .bl _ | .int _ | .str _ => true
  | _ => false
def dBor (ix : List Nat) (t : DTE) : DTE := fun env l Q => borK l (fun env (_ : Unit) => t env (fun _ => none) fun d _ => simpD d = true ∧ Q d l) () ix env
/-- F1: F and some of l's objects -/
structure Bor (F : Hp) (l : LH) (H F1 : Hp) : Prop where
  up : Same F F1
  of : ∀ b o, F1 b = some o → F b = some o ∨ (l b ≠ none ∧ H b = some o)
theorem Bor.refl {F : Hp} {l : LH} {H : Hp} : Bor F l H F := ⟨Same.refl F, fun _ _ e => .inl e⟩
section
variable {K : PySem.W.Frag} {F Fr H F1 : Hp} {l : LH}
open Classical in
/-- all of l stays as it is -/
noncomputable def frB (Fr H F1 : Hp) (l : LH) : Hp := fun b => if l b ≠ none ∧ F1 b = none then H b else Fr b
theorem Bor.rep (R : Rep K F Fr l H) (B : Bor F l H F1) : Rep K F1 (frB Fr H F1 l) (fun _ => none) H where
  fz := fun b o e => by
    rcases B.of b o e with q | ⟨_, q⟩
    · exact R.fz b o q
    · exact q
  fr := fun b o e => by
    unfold frB at e
    split at e
    · exact e
    · exact R.fr b o e
  fd := fun b o e => by
    refine ⟨?_, rfl⟩
    unfold frB at e
    split at e
    · rename_i h; exact h.2
    · obtain ⟨h1, h2⟩ := R.fd b o e
      cases q : F1 b with
      | none => rfl
      | some u =>
        rcases B.of b u q with z | ⟨z, _⟩
        · rw [h1] at z; cases z
        · exact absurd h2 z
  lv := fun b o e => nomatch (show (none : Option DO) = some o from e)
  ft := fun b vs e => by
    unfold frB at e
    split at e
    · rename_i h
      cases q : l b with
      | none => exact h.1 q
      | some x =>
        obtain ⟨h1, h2⟩ := R.lv b x q
        cases x with
        | lst ds => obtain ⟨vs, _, z⟩ := h2; rw [e] at z; cases z
        | dT ks ds => obtain ⟨vs, _, _, z⟩ := h2; rw [e] at z; cases z
        | dK ks ds => obtain ⟨vs, _, _, z⟩ := h2; rw [e] at z; cases z
        | ins c ds => obtain ⟨C, dx, vs, _, _, _, z⟩ := h2; rw [e] at z; cases z
        | fz d =>
          obtain ⟨_, u, z⟩ := h2
          rw [B.up _ _ z] at h
          exact nomatch h.2
    · exact R.ft b vs e
theorem Bor.back {F' H' : Hp} {l' : LH} (R : Rep K F Fr l H) (B : Bor F l H F1) (s : Same F1 F') (R' : Rep K F' (frB Fr H F1 l) l' H') : Rep K F Fr l H' where
  fz := fun b o e => R'.fz b o (s b o (B.up b o e))
  fr := fun b o e => by
    refine R'.fr b o ?_
    unfold frB
    rw [if_neg (fun z => z.1 (R.fd b o e).2)]
    exact e
  fd := R.fd
  lv := fun b o e => by
    obtain ⟨h1, h2⟩ := R.lv b o e
    refine ⟨h1, h2.mono (Same.refl F) ?_⟩
    obtain ⟨u, hu⟩ := h2.there R.fz
    rw [hu]
    cases q : F1 b with
    | none =>
      refine R'.fr b u ?_
      unfold frB
      rw [if_pos ⟨by rw [e]; exact fun z => (nomatch z), q⟩]
      exact hu
    | some u' =>
      rcases B.of b u' q with z | ⟨_, z⟩
      · have z := R.fz b u' z
        rw [hu] at z; cases z
        exact R'.fz b u (s b u q)
      · rw [hu] at z; cases z
        exact R'.fz b u (s b u q)
  ft := R.ft
theorem bor_run {β : Type} {run : DSt → β → Prop} {k : β} {σ : St} {P : Prop} (R : Rep K F Fr l H) (hP : ∀ env F1, Bor F l H F1 → RepE K F1 env σ → run env k → P) : ∀ (ix : List Nat) (env : DSt) (F1 : Hp), Bor F l H F1 → RepE K F1 env σ → borK l run k ix env → P
  | [], env, F1, B, hE, q => hP env F1 B hE q
  | i :: ix, env, F1, B, hE, q => by
    unfold borK at q
    split at q
    · rename_i a ha
      obtain ⟨o, ho, q⟩ := q
      cases o with
      | lst ds =>
        obtain ⟨v, hv, rv⟩ := hE.get ha
        cases rv
        obtain ⟨hF, vs, rd, hH⟩ := R.lv a _ ho
        have hF := hF rfl
        have B' : Bor F l H (upd F1 a (.lst vs)) := by
          refine ⟨fun b o e => ?_, fun b o e => ?_⟩
          · rw [upd_ne (fun z => by subst z; rw [hF] at e; cases e)]
            exact B.up b o e
          · by_cases hb : b = a
            · subst hb
              rw [upd_same] at e; cases e
              exact .inr ⟨by rw [ho]; exact fun z => (nomatch z), hH⟩
            · rw [upd_ne hb] at e
              exact B.of b o e
        have s1 : Same F1 (upd F1 a (.lst vs)) := fun b o e => by
          by_cases hb : b = a
          · subst hb
            rcases B.of b o e with z | ⟨_, z⟩
            · rw [hF] at z; cases z
            · rw [hH] at z; cases z
              exact upd_same
          · rw [upd_ne hb]; exact e
        exact bor_run R hP ix _ _ B' ((hE.mono s1).setD hv (.lst upd_same (rd.mono B'.up))) q
      | _ => exact q.elim
    · exact bor_run R hP ix env F1 B hE q
end
section
variable {X : Cx} {e : Expr} {te : DTE} {tt : DTT}
theorem dt_bor {ix : List Nat} (h : DT X e tt) : DT X e (tBor ix tt) := by
  refine ⟨?_⟩
  intro F Fr env l σ H Q hE hr ht
  refine bor_run hr (fun env F1 B hE q => ?_) ix env F .refl hE ht
  refine (h F1 _ env _ σ H _ hE (B.rep hr) q).mono fun c H1 ⟨F2, l2, s2, R2, q2⟩ => ?_
  exact ⟨F, l, Same.refl F, B.back hr s2 R2, q2⟩
theorem de_bor {ix : List Nat} (h : DE X e te) : DE X e (dBor ix te) := by
  refine ⟨?_⟩
  intro F Fr env l σ H Q hE hr ht
  refine bor_run hr (fun env F1 B hE q => ?_) ix env F .refl hE ht
  refine (h F1 _ env _ σ H _ hE (B.rep hr) q).mono fun v H1 ⟨F2, d, l2, s2, r2, R2, q1, q2⟩ => ?_
  refine ⟨F, d, l, Same.refl F, ?_, B.back hr s2 R2, q2⟩
  cases r2 with
  | non => exact .non
  | bl b => exact .bl b
  | int b => exact .int b
  | str b => exact .str b
  | _ => cases q1
end
end DL

namespace DL
open PySem PySem.Spec PyProof.Rows L2
/-! ### sorted(xs, reverse=b) of a list of words -/
def rSortR (K : PySem.W.Frag) (b : Bool) : List V → List V → Hp → VK → Prop := fun vs zs H Q => ∃ (a : Addr) (xs : List V) (ds : List PyData), vs = [V.ref a] ∧ zs = [.bl b] ∧ SqL K H a xs ∧ DpAll K H xs ds ∧ PySem.W.AllAlike ds ∧ PySem.W.Sortable ds ∧ (∀ d ∈ ds, d.depth ≤ 8) ∧
  ∀ (p : Addr), H p = none → Q (.ref p) (upd H p (.lst (((xs.zip ds).mergeSort (PySem.W.dataLe b (·.2))).map (·.1))))
theorem vals_fst {R : Value → V × PyData → Prop} (hR : ∀ u z, R u z → RelV z.1 u) : ∀ {us : List Value} {zs : List (V × PyData)}, PySem.W.EachIs R us zs → Vals (zs.map (·.1)) us
  | _, _, .nil => .nil
  | _, _, .cons h t => .cons (hR _ _ h) (vals_fst hR t)
theorem each_of {X : Cx} {pins : List (Addr × Obj)} {σ : St} {H : Hp} {s : Shared} (I : Inv X pins σ H s) : ∀ {xs : List V} {us : List Value} {ds : List PyData}, Vals xs us → DpAll X.K H xs ds → PySem.W.EachIs (fun u (z : V × PyData) => RelV z.1 u ∧ ∃ as, Reads s.heap u z.2 as) us (xs.zip ds)
  | _, _, _, .nil, .nil => .nil
  | _, _, _, .cons r rs, .cons d dr => .cons ⟨r, Dp.reads I _ _ _ d r⟩ (each_of I rs dr)
theorem dpAll_len {K : PySem.W.Frag} {H : Hp} : ∀ {xs : List V} {ds : List PyData}, DpAll K H xs ds → xs.length = ds.length
  | _, _, .nil => rfl
  | _, _, .cons _ t => by rw [List.length_cons, List.length_cons, dpAll_len t]
theorem cr_sortR {X : Cx} {k : Nat} {b : Bool} (hr : Room k X.A) : CallRK X (.builtin "sorted") [Str.ofString "reverse"] (rSortR X.K b) := by
  intro pins s σ H vs zs us ws Q I r rz h
  obtain ⟨a, xs, ds, e1, e2, hs, hd, hal, hso, hdp, q⟩ := h
  subst e1 e2
  obtain ⟨its, rv, hl, hz⟩ := I.list hs
  obtain rfl := Vals.ref1 r
  obtain ⟨w1, rfl, ez⟩ := vals1 rz
  obtain rfl : w1 = Value.bool b := ez
  have e := each_of I rv hd
  have hle := dpAll_len hd
  have hmd : ((xs.zip ds).map (fun z : V × PyData => z.2)) = ds := List.map_snd_zip (by omega)
  have hlz : (xs.zip ds).length = xs.length := by rw [List.length_zip]; omega
  refine PySem.W.sorted_rev_data (bs := xs.zip ds) (enc := fun z => z.2) (R := fun u (z : V × PyData) => RelV z.1 u ∧ ∃ as, Reads s.heap u z.2 as) hl.isList e (e.mono fun _ _ h => h.2) (by rw [hmd]; exact hal) (by rw [hmd]; exact hso) (by rw [hlz]; exact hz) (fun z hz' => ?_) fun out ho eo => ?_
  · have : z.2 ∈ ds := by rw [← hmd]; exact List.mem_map.mpr ⟨z, hz', rfl⟩
    have := hdp _ this
    have := hr.un
    omega
  · obtain ⟨ep, he'⟩ := PyProof.Rows.sortedAll_at s.heap its (List.toArray out)
    refine ⟨.ref _, upd H (s.heap.objs.size + 1) (.lst (((xs.zip ds).mergeSort (PySem.W.dataLe b (·.2))).map (·.1))), I.laid (t' := s.toks) (fun _ _ => PyProof.Rows.sortedAll_old) (Nat.le_succ _) ⟨?_, out, ep, vals_fst (fun _ _ h => h.1) eo, by simpa using he'⟩, rfl, q _ (I.hok.fresh (Nat.le_succ _))⟩
    rw [List.length_map, List.length_mergeSort, hlz]
    exact hz

def kSortR (b : Bool) : D → LH → DK → Prop := fun d l Q => resL d l fun d => match d with
  | .lst ds => PyData.canLayAll0 (toPys ds) = true ∧ PySem.W.AllAlike (toPys ds) ∧ PySem.W.Sortable (toPys ds) ∧ (∀ d ∈ toPys ds, d.depth ≤ 8) ∧ Q (.lst (ds.mergeSort (PySem.W.dataLe b toPy))) l
  | _ => False
theorem rel_zip {K : PySem.W.Frag} {F : Hp} : ∀ {xs : List V} {ds : List D}, RelDs K F ds xs → ∀ z ∈ xs.zip ds, RelD K F z.2 z.1
  | _, _, .nil, z, hz => by cases hz
  | _, _, .cons a r, z, hz => by
    rw [List.zip_cons_cons] at hz
    rcases List.mem_cons.mp hz with rfl | hz
    · exact a
    · exact rel_zip r z hz
theorem rel_sorted {K : PySem.W.Frag} {F : Hp} {b : Bool} {xs : List V} {ds : List D} (r : RelDs K F ds xs) : RelDs K F (ds.mergeSort (PySem.W.dataLe b toPy)) (((xs.zip (toPys ds)).mergeSort (PySem.W.dataLe b (·.2))).map (·.1)) := by
  have hl := r.length
  let T := xs.zip ds
  have e1 : xs.zip (toPys ds) = T.map fun z => (z.1, toPy z.2) := by
    rw [toPys_map]
    show xs.zip (ds.map toPy) = (xs.zip ds).map _
    rw [List.zip_map_right]
    rfl
  have e2 : ds = T.map (·.2) := (List.map_snd_zip (by omega)).symm
  have e3 : (T.map fun z => (z.1, toPy z.2)).mergeSort (PySem.W.dataLe b (·.2)) = (T.mergeSort (PySem.W.dataLe b fun z => toPy z.2)).map fun z => (z.1, toPy z.2) := (PySem.W.sort_maps (r := PySem.W.dataLe b fun z : V × D => toPy z.2) (s := PySem.W.dataLe b (fun z : V × PyData => z.2)) (fun z : V × D => (z.1, toPy z.2)) (fun _ _ _ _ => rfl)).symm
  have e4 : ds.mergeSort (PySem.W.dataLe b toPy) = (T.mergeSort (PySem.W.dataLe b fun z => toPy z.2)).map (·.2) := by
    conv => lhs; rw [e2]
    exact (PySem.W.sort_maps (r := PySem.W.dataLe b fun z : V × D => toPy z.2) (s := PySem.W.dataLe b toPy) (fun z : V × D => z.2) (fun _ _ _ _ => rfl)).symm
  rw [e1, e3, e4, List.map_map]
  have hT : ∀ z ∈ T.mergeSort (PySem.W.dataLe b fun z => toPy z.2), RelD K F z.2 z.1 := fun z hz => by
    have hz' : z ∈ T := (List.mergeSort_perm T _).mem_iff.mp hz
    exact rel_zip r z hz'
  generalize T.mergeSort (PySem.W.dataLe b fun z => toPy z.2) = U at hT
  induction U with
  | nil => exact .nil
  | cons z U ih => exact .cons (hT z List.mem_cons_self) (ih fun y hy => hT y (List.mem_cons_of_mem _ hy))
theorem resL_lst {K : PySem.W.Frag} {F Fr H : Hp} {l : LH} {d : D} {v : V} {k : List D → Prop} (R : Rep K F Fr l H) (r : RelD K F d v) (q : resL d l fun d => match d with | .lst ds => k ds | _ => False) : ∃ a ds xs, v = .ref a ∧ H a = some (.lst xs) ∧ RelDs K F ds xs ∧ k ds := by
  cases r with
  | ref a =>
    obtain ⟨o, ho, q⟩ := q
    cases o with
    | lst ds =>
      obtain ⟨vs, r1, h1⟩ := (R.lv _ _ ho).2
      exact ⟨a, ds, vs, rfl, h1, r1, q⟩
    | _ => exact q.elim
  | lst a b => exact ⟨_, _, _, rfl, R.fz _ _ a, b, q⟩
  | _ => exact q.elim
def dSortR (b : Bool) (te : DTE) : DTE := fun env l Q => te env l fun d l1 => kSortR b d l1 Q
theorem de_sortR {X : Cx} {k : Nat} {b : Bool} {e : Expr} {te : DTE} {p pos kp : Pos} {bp : Pos} {j : Nat} (hr : Room k X.A) (hg : Gl X "sorted") (hm : X.mg "sorted" = none) (h : DE X e te)
    (he : starEach [e] X.env = (false, eval e X.env) :: starEach [] X.env := by rfl) (he2 : backTo pos (starEach [e] X.env) = (false, eval e X.env) :: backTo pos (starEach [] X.env) := by rfl) (hpl : (backTo pos (starEach [e] X.env)).any (·.1) = false := by rfl)
    (hall : (backToKw pos (keywordEach [⟨some "reverse", .Constant (.bool b) j bp, kp⟩] X.env)).all (·.1.isSome) = true := by rfl) (hnone : (backToKw pos (keywordEach [⟨some "reverse", .Constant (.bool b) j bp, kp⟩] X.env)).any (·.1.isNone) = false := by rfl) (hks : (backToKw pos (keywordEach [⟨some "reverse", .Constant (.bool b) j bp, kp⟩] X.env)).filterMap (·.1) = [Str.ofString "reverse"] := by rfl) :
    DE X (.Call (.Name "sorted" p) [e] [⟨some "reverse", .Constant (.bool b) j bp, kp⟩] pos) (dSortR b te) := by
  refine ⟨?_⟩
  intro F Fr env l σ H Q hE hR ht
  refine (pe_callBK (r := rSortR X.K b) (cr_sortR hr) hg hm (by decide +kernel) paW (pk_cons pe_bl pk_nil) (by decide) (by decide) he2 hpl hall hnone hks).we ?_
  have ha := da_cons h da_nil he
  refine (ha F Fr env l σ H (fun ds l1 => match ds with | [d] => kSortR b d l1 Q | _ => False) hE hR ht).mono fun vs H1 ⟨F1, ds, l1, s1, r1, R1, q1⟩ => ?_
  cases r1 with
  | nil => exact q1.elim
  | cons r2 rr =>
    cases rr with
    | cons _ _ => exact q1.elim
    | nil =>
      obtain ⟨a, ds, xs, rfl, hH, rx, c1, c2, c3, c4, q⟩ := resL_lst (k := fun ds => PyData.canLayAll0 (toPys ds) = true ∧ PySem.W.AllAlike (toPys ds) ∧ PySem.W.Sortable (toPys ds) ∧ (∀ d ∈ toPys ds, d.depth ≤ 8) ∧ Q (.lst (ds.mergeSort (PySem.W.dataLe b toPy))) l1) R1 r2 q1
      refine ⟨a, xs, toPys ds, rfl, rfl, .inl (.inl hH), RelDs.dp R1.fz rx c1, c2, c3, c4, fun p np => ?_⟩
      exact (LK.lst np R1 (rel_sorted rx) q).weak s1
end DL

namespace DL
open PySem PySem.Spec PyProof.Rows L2
/-! ### dicts with plain keys, never written -/
def keyD : D → Option Key
  | .int i => some (.inl i)
  | .str x => some (.inr x)
  | _ => none
def getK : List Key → List D → Key → Option D
  | k :: ks, d :: ds, q => if k = q then some d else getK ks ds q
  | _, _, _ => none
theorem getK_rel {K : PySem.W.Frag} {F : Hp} : ∀ {ks : List Key} {ds : List D} {vs : List V} {q : Key} {d : D}, RelDs K F ds vs → getK ks ds q = some d → ∃ v, valV (ks.zip vs) q = some v ∧ RelD K F d v
  | [], _, _, _, _, _, h => by cases h
  | _ :: _, [], _, _, _, _, h => by cases h
  | k :: ks, e :: ds, _, q, d, .cons (v := v) r rr, h => by
    unfold getK at h
    by_cases hk : k = q
    · rw [if_pos hk] at h
      cases h
      exact ⟨v, by rw [List.zip_cons_cons]; exact valV_pos hk, r⟩
    · rw [if_neg hk] at h
      obtain ⟨u, hu, ru⟩ := getK_rel rr h
      refine ⟨u, ?_, ru⟩
      rw [List.zip_cons_cons]
      unfold valV at hu ⊢
      rw [List.find?_cons_of_neg (by simpa using hk)]
      exact hu
theorem keyD_v {K : PySem.W.Frag} {F : Hp} {d : D} {v : V} {k : Key} (r : RelD K F d v) (h : keyD d = some k) : v = kV k := by
  cases r with
  | int i => cases h; rfl
  | str x => cases h; rfl
  | _ => cases h
def kDGet : D → D → LH → DK → Prop := fun x y l Q => match x with
  | .dK ks ds => ∃ q d, keyD y = some q ∧ getK ks ds q = some d ∧ Q d l
  | .ref a => getO l a fun o => match o with | .dK ks ds => ∃ q d, keyD y = some q ∧ getK ks ds q = some d ∧ Q d l | _ => False
  | _ => False
def dDGet : DTE → DTE → DTE := dOp kDGet
section
variable {X : Cx} {a b e : Expr} {ta tb te : DTE} {pos p apos cpos : Pos} {tg : Expr}
theorem de_dget {k : Nat} (hr : Room k X.A) (ha : DE X a ta) (hb : DE X b tb) (hs : NoSl b := by exact fun _ _ => rfl) : DE X (.Subscript a b pos) (dDGet ta tb) := by
  refine ⟨?_⟩
  intro F Fr env l σ H Q hE hR ht
  have hu : X.A.units + 1 < cLine := by have := hr.un; omega
  refine (pe_dget hu peW peW hs).we ?_
  refine (ha F Fr env l σ H _ hE hR ht).mono fun x H1 ⟨F1, d1, l1, s1, r1, R1, q1⟩ => ?_
  refine (hb F1 Fr env l1 σ H1 _ (hE.mono s1) R1 q1).mono fun y H2 ⟨F2, d2, l2, s2, r2, R2, q2⟩ => ?_
  have fin : ∀ {ks : List Key} {ds : List D} {vs : List V} {p : Addr}, Rd H2 p (.dK (ks.zip vs)) → RelDs X.K F2 ds vs → (∃ q d, keyD d2 = some q ∧ getK ks ds q = some d ∧ Q d l2) → ∃ a v, V.ref p = .ref a ∧ DGet H2 a y (some v) ∧ LK X.K F Fr Q v H2 := by
    rintro ks ds vs p h rr ⟨q, d, e1, e2, q3⟩
    obtain ⟨v, hv, rv⟩ := getK_rel rr e2
    exact ⟨p, v, rfl, .inl ⟨_, q, h, keyD_v r2 e1, hv.symm⟩, (LK.mk rv R2 q3).weak (s1.trans s2)⟩
  cases r1 with
  | dK h hl rr => exact fin (.inr ⟨_, R2.fz _ _ (s2 _ _ h)⟩) (rr.mono s2) q2
  | ref p =>
    obtain ⟨o, ho, q2⟩ := q2
    cases o with
    | dK ks ds =>
      obtain ⟨vs, rr, hl, hH⟩ := (R2.lv _ _ ho).2
      exact fin (.inl hH) rr q2
    | _ => exact q2.elim
  | _ => exact q2.elim
/-! the values, in turn -/
def iVals (te : DTE) : DTI := fun env l R => te env l fun d l1 => match d with
  | .dK ks ds => ks.length = ds.length ∧ R ds l1
  | _ => False
theorem di_values (h : DE X e te) (hbase : attributeBase e "values" X.env (eval e X.env) = eval e X.env := by rfl) (hline : (apos.endLine == cpos.line) = true := by rfl) : DI X tg (.Call (.Attribute e "values" apos) [] [] cpos) (iVals te) := by
  refine ⟨?_⟩
  intro F Fr env l σ H R hE hR ht
  refine (pi_values (peW) hbase hline).wi ?_
  refine (h F Fr env l σ H _ hE hR ht).mono fun x H1 ⟨F1, d, l1, s1, r1, R1, q1⟩ => ?_
  cases r1 with
  | @dK p od vs ks ds h1 hl rr =>
    refine ⟨p, od, _, rfl, R1.fz _ _ h1, F1, l1, ds, s1, R1, ?_, q1.2⟩
    intro i F' Fr' l' H' s R'
    have hH : H' p = some (.frz od (.dK (ks.zip vs))) := R'.fz _ _ (s _ _ h1)
    have hz : (ks.zip vs).length = ds.length := by rw [List.length_zip, rr.length, hl, Nat.min_self]
    refine ⟨fun hi => ⟨hH, by rw [hz]; exact hi⟩, fun d hd => ?_⟩
    have hi : i < ds.length := (List.getElem?_eq_some_iff.mp hd).1
    refine ⟨⟨hH, by rw [hz]; exact hi⟩, fun x H2 ⟨e1, k, e2⟩ => ?_⟩
    subst e1
    obtain ⟨v, hv, rv⟩ := rr.get hd
    have e3 : vs[i]? = some x := by
      rw [List.getElem?_zip_eq_some] at e2
      exact e2.2
    rw [hv] at e3
    cases e3
    exact ⟨F', Same.refl _, rv.mono s, R'⟩
  | _ => exact q1.elim
end
/-! dict of a list of pairs -/
def pairsD : List D → Option (List Key × List D)
  | [] => some ([], [])
  | .tup [k, v] :: r => (keyD k).bind fun q => (pairsD r).map fun z => (q :: z.1, v :: z.2)
  | _ => none
theorem pairs_rel {K : PySem.W.Frag} {F : Hp} : ∀ {xs : List D} {vs : List V} {z : List Key × List D}, RelDs K F xs vs → pairsD xs = some z → ∃ ps us, vs = ps.map V.ref ∧ RelDs K F z.2 us ∧ z.1.length = us.length ∧ Paired (fun p kv => SqT K F p [kV kv.1, kv.2]) ps (z.1.zip us)
  | _, _, z, .nil, h => by cases h; exact ⟨[], [], rfl, .nil, rfl, .nil⟩
  | d :: xs, _, z, .cons r rr, h => by
    cases r with
    | @tup p ws ds h1 rs =>
      cases rs with
      | nil => cases h
      | cons r1 rs =>
        cases rs with
        | nil => cases h
        | cons r2 rs =>
          cases rs with
          | cons _ _ => cases h
          | nil =>
            rename_i k v1 v v2
            rw [pairsD] at h
            cases hk : keyD k with
            | none => rw [hk] at h; cases h
            | some q =>
              rw [hk] at h
              cases hp : pairsD xs with
              | none => rw [hp] at h; cases h
              | some z' =>
                rw [hp] at h
                cases h
                obtain ⟨ps, us, e1, e2, e3, e4⟩ := pairs_rel rr hp
                subst e1
                have ev := keyD_v r1 hk
                subst ev
                exact ⟨p :: ps, v2 :: us, rfl, .cons r2 e2, by rw [List.length_cons, List.length_cons, e3], by rw [List.zip_cons_cons]; exact .cons (tq h1) e4⟩
    | _ => cases h
theorem merge_nd {kvs : List (Key × V)} : ∀ {acc : List (Key × V)}, ((acc ++ kvs).map (·.1)).Nodup → mergeK acc kvs = acc ++ kvs := by
  induction kvs with
  | nil => intro acc _; rw [List.append_nil]; rfl
  | cons kv kvs ih =>
    intro acc h
    have hn : ¬ (acc.any fun x => decide (x.1 = kv.1)) = true := by
      rw [List.any_eq_true]
      rintro ⟨x, hx, e⟩
      have e := of_decide_eq_true e
      rw [List.map_append, List.nodup_append] at h
      exact h.2.2 x.1 (List.mem_map.mpr ⟨x, hx, rfl⟩) kv.1 (List.mem_map.mpr ⟨kv, List.mem_cons_self, rfl⟩) e
    have e : mergeK acc (kv :: kvs) = mergeK (acc ++ [kv]) kvs := by
      show mergeK (putK acc kv.1 kv.2) kvs = _
      unfold putK
      rw [if_neg hn]
    rw [e, ih (by simpa using h), List.append_assoc]
    rfl
def dDictP (te : DTE) : DTE := fun env l Q => aCons te aNil env l fun ds l1 => match ds with
  | [.lst xs] => ∃ z, pairsD xs = some z ∧ z.1.Nodup ∧ Q (.dK z.1 z.2) l1
  | _ => False
theorem upd_upd' {H : Hp} {p : Addr} {x y : HO} : upd (upd H p x) p y = upd H p y := by
  funext b
  by_cases h : b = p
  · subst h; rw [upd_same, upd_same]
  · rw [upd_ne h, upd_ne h, upd_ne h]
theorem de_dictP {X : Cx} {e : Expr} {te : DTE} {pos p : Pos} (hc : X.calm = true) (hg : Gl X "dict") (hm : X.mg "dict" = none) (h : DE X e te)
    (he : starEach [e] X.env = (false, eval e X.env) :: starEach [] X.env := by rfl) (hpl : (backTo pos (starEach [] X.env)).any (·.1) = false := by rfl) : DE X (.Call (.Name "dict" p) [e] [] pos) (dDictP te) := by
  refine ⟨?_⟩
  intro F Fr env l σ H Q hE hR ht
  have ha := da_cons h da_nil he
  have key : WE X (.Call (.Name "dict" p) [e] [] pos) σ H fun v H' => ∃ b F1 l1 ks us ds H1, v = .ref b ∧ H' = upd H1 b (.dK (ks.zip us)) ∧ H1 b = none ∧ Rep X.K F1 Fr l1 H1 ∧ Same F F1 ∧ RelDs X.K F1 ds us ∧ ks.length = us.length ∧ Q (.dK ks ds) l1 := by
    refine (pe_callTy (call_dictP hc) hg hm (by decide +kernel) paW (by decide) (by decide) he hpl).we ?_
    refine (ha F Fr env l σ H (fun ds l1 => match ds with | [.lst xs] => ∃ z, pairsD xs = some z ∧ z.1.Nodup ∧ Q (.dK z.1 z.2) l1 | _ => False) hE hR ht).mono fun vs H1 ⟨F1, ds, l1, s1, r1, R1, q1⟩ => ?_
    · cases r1 with
      | nil => exact q1.elim
      | @cons d v ds' vs' r2 rr =>
        cases rr with
        | cons _ _ => cases d <;> exact q1.elim
        | nil =>
          cases r2 with
          | @lst a ws xs h1 rx =>
            obtain ⟨z, hz, nd, q⟩ := q1
            obtain ⟨ps, us, e1, e2, e3, e4⟩ := pairs_rel rx hz
            subst e1
            refine ⟨a, ps, z.1.zip us, rfl, .inl (.inl (R1.fz _ _ h1)), ?_, fun b nb => ?_⟩
            · have go : ∀ {ps : List Addr} {kvs : List (Key × V)}, Paired (fun p kv => SqT X.K F1 p [kV kv.1, kv.2]) ps kvs → Paired (fun p kv => SqT X.K H1 p [kV kv.1, kv.2]) ps kvs := by
                intro ps kvs q
                induction q with
                | nil => exact .nil
                | cons a _ ih => exact .cons (sqT_mono R1.fz a) ih
              exact go e4
            · refine ⟨b, F1, l1, z.1, us, z.2, H1, rfl, ?_, nb, R1, s1, e2, e3, q⟩
              rw [merge_nd (acc := []) (by rw [List.nil_append, List.map_fst_zip (by omega)]; exact nd), List.nil_append]
          | _ => exact q1.elim
  intro pins s I
  refine thn (key pins s I) fun u s' ⟨x, H', I', rx, b, F1, l1, ks, us, ds, H1, e1, e2, nb, R1, s1, rr, hl, q⟩ => ?_
  subst e1 e2
  obtain ⟨od, I2⟩ := I'.lock upd_same (by exact trivial)
  rw [upd_upd'] at I2
  refine ⟨.ref b, _, I2, rx, ?_⟩
  refine ⟨upd F1 b (.frz od (.dK (ks.zip us))), .dK ks ds, l1, s1.trans (same_upd (R1.F_none nb)), ?_, R1.laid nb _, q⟩
  exact .dK upd_same hl (rr.mono (same_upd (R1.F_none nb)))
end DL

namespace DL
open PySem PySem.Spec PyProof.Rows L2
/-! ### xs.count(x) over data -/
section
variable {X : Cx}
def rCountD (K : PySem.W.Frag) : V → List V → Hp → VK → Prop := fun x xs H Q => ∃ (a : Addr) (y : V) (d : PyData) (ds : List PyData), x = V.ref a ∧ xs = [y] ∧ Dp K H (V.ref a) (.list ds) ∧ Dp K H y d ∧ SeqAt.shaped (.list ds) = true ∧ SeqAt.shaped d = true ∧
  Q (.int ((ds.countP fun z => PyData.eqv z d : Nat) : Int)) H
theorem mt_countD (hu : X.A.units + 65 < cLine) : MtR X "list.count" (rCountD X.K) := by
  intro pins s σ H x xs v us Q I rx rxs h
  obtain ⟨a, y, d, ds, rfl, rfl, hl, hy, sl, sd, q⟩ := h
  cases rx
  cases rxs with
  | cons ry rt =>
    rename_i uy ut
    cases rt
    obtain ⟨bs, r1⟩ := Dp.reads I d y uy hy ry
    have hxs : PyData.canLayAll0 ds = true := SeqAt.canLay_of_shaped sl
    have hroom : X.A.units + 1 + min (PyData.depthAll ds) d.depth < cLine := room_in_shaped sd hu
    cases hl with
    | lst hs ha =>
      obtain ⟨its, rv, ⟨⟨cls, dd, data, sls⟩, n, ho, hc, hdn, hdt⟩, hlen⟩ := I.list hs
      simp only at hc hdt
      subst hc hdt
      obtain ⟨as, h4⟩ := Dp.readsAll I ds _ its ha rv
      have hmap : its.map (SeqAt.readOf s.heap) = ds := SeqAt.readsAll_map ds its as hxs h4
      refine call_meets PySem.F.slot_list_count ⟨_, ho, rfl⟩ PySem.F.entry_list_count (PySem.F.args_list_count_2 _ _)
        (SeqAt.list_countAt a its.toArray n dd sls uy (fun u => PyData.eqv (SeqAt.readOf s.heap u) d)) ⟨ho, SeqAt.items_eqAt (vs := its.toArray) (show ReadsAll s.heap its.toArray.toList ds as from h4) r1 hxs (SeqAt.canLay_of_shaped sd) hroom, ?_⟩
      refine ⟨.int ((ds.countP fun z => PyData.eqv z d : Nat) : Int), H, I.tok _, ⟨s.toks, ?_⟩, q⟩
      show Value.int ((its.toArray.toList.countP _ : Nat) : Int) s.toks = _
      rw [← hmap, List.countP_map]
      rfl
variable {o e : Expr} {to te : DTE} {apos cpos pos p p2 q : Pos}
def dCount (to te : DTE) : DTE := fun env l Q => to env l fun x l1 => match x with
  | .lst ds => te env l1 fun y l2 => okD (.lst ds) ∧ okD y ∧ Q (.int ((ds.countP fun z => eqD z y : Nat) : Int)) l2
  | _ => False
theorem de_count {k : Nat} (hr : Room k X.A) (ho : DE X o to) (h : DE X e te)
    (hbase : attributeBase o "count" X.env (eval o X.env) = eval o X.env := by rfl)
    (hfew : ((backTo cpos (starEach [e] X.env)).all (fun x => !x.1) && (backToKw cpos (keywordEach [] X.env)).all (fun x => x.1.isSome)
      && decide (([e] : List Expr).length + ([] : List Keyword).length + (if ([] : List Keyword).isEmpty then 0 else 1) < 30)) = true := by rfl)
    (hline : (apos.endLine == cpos.line) = true := by rfl) (hs : starEach [e] X.env = (false, eval e X.env) :: starEach [] X.env := by rfl) (hplain : (backTo cpos (starEach [] X.env)).any (·.1) = false := by rfl) :
    DE X (.Call (.Attribute o "count" apos) [e] [] cpos) (dCount to te) := by
  refine ⟨?_⟩
  intro F Fr env l σ H Q hE hR ht
  refine (pe_bm PySem.F.plainAttrs_list PySem.F.slot_list_count PySem.F.type_list_count (mt_countD (by have := hr.un; omega)) peW paW hbase hfew hline hs hplain).we ?_
  refine (ho F Fr env l σ H _ hE hR ht).mono fun x H1 ⟨F1, d, l1, s1, r1, R1, q1⟩ => ?_
  cases r1 with
  | @lst a vs ds h1 rr =>
    refine ⟨.inl ⟨rfl, vs, .inl (.inl (R1.fz _ _ h1))⟩, ?_⟩
    refine (da_cons h da_nil hs F1 Fr env l1 σ H1 (fun ys l2 => ∃ y, ys = [y] ∧ okD (.lst ds) ∧ okD y ∧ Q (.int ((ds.countP fun z => eqD z y : Nat) : Int)) l2) (hE.mono s1) R1 ?_).mono fun vs H2 ⟨F2, ys, l2, s2, r2, R2, y, e2, c1, c2, q3⟩ => ?_
    · have q1 : te env l1 fun y l2 => okD (.lst ds) ∧ okD y ∧ Q (.int ((ds.countP fun z => eqD z y : Nat) : Int)) l2 := q1
      show te env l1 fun y l2 => ∃ z, [y] = [z] ∧ okD (.lst ds) ∧ okD z ∧ Q (.int ((ds.countP fun u => eqD u z : Nat) : Int)) l2
      have e : (fun (y : D) (l2 : LH) => ∃ z, [y] = [z] ∧ okD (.lst ds) ∧ okD z ∧ Q (.int ((ds.countP fun u => eqD u z : Nat) : Int)) l2) = fun y l2 => okD (.lst ds) ∧ okD y ∧ Q (.int ((ds.countP fun z => eqD z y : Nat) : Int)) l2 := by
        funext y l2
        refine propext ⟨fun ⟨z, e, h⟩ => by cases e; exact h, fun h => ⟨y, rfl, h⟩⟩
      rw [e]
      exact q1
    · subst e2
      obtain ⟨v, rfl, rv⟩ := r2.one
      have c3 := SeqAt.canLay_of_shaped c1
      have c4 := SeqAt.canLay_of_shaped c2
      refine ⟨a, v, toPy y, toPys ds, rfl, rfl, RelD.dp R2.fz (.lst (s2 _ _ h1) (rr.mono s2)) c3, RelD.dp R2.fz rv c4, c1, c2, ?_⟩
      have e3 : (toPys ds).countP (fun z => PyData.eqv z (toPy y)) = ds.countP fun z => eqD z y := by
        rw [toPys_map, List.countP_map]
        rfl
      rw [e3]
      exact (LK.mk (.int _) R2 q3).weak (s1.trans s2)
  | _ => exact q1.elim
/-! ### len(set(xs)) of a list of words -/
theorem words_keys {K : PySem.W.Frag} {F : Hp} : ∀ {ws : List (List Int)} {vs : List V}, RelDs K F (ws.map wordD) vs → ∃ ks : List (Addr × List Int), vs = ks.map (fun p => V.ref p.1) ∧ ks.map (·.2) = ws ∧ ∀ p ∈ ks, SqT K F p.1 (p.2.map V.int)
  | [], _, .nil => ⟨[], rfl, rfl, fun p hp => by cases hp⟩
  | w :: ws, _, .cons r rr => by
    obtain ⟨ks, e1, e2, e3⟩ := words_keys rr
    cases r with
    | @tup a vs ds h1 r1 =>
      have e := r1.ints
      subst e
      exact ⟨(a, w) :: ks, by rw [e1]; rfl, by rw [← e2]; rfl, fun p hp => by
        rcases List.mem_cons.mp hp with e | e
        · subst e; exact tq h1
        · exact e3 p e⟩
def dLenSet (te : DTE) : DTE := fun env l Q => te env l fun d l1 => match d with
  | .lst ds => ∃ ws : List (List Int), ds = ws.map wordD ∧ ws.length < 64 ∧ ∀ us : List (List Int), us.Nodup → (∀ w, w ∈ us ↔ w ∈ ws) → Q (.int us.length) l1
  | _ => False
theorem de_lenSet {k : Nat} (hr : Room k X.A) (hc : X.calm = true) (hg : Gl X "len") (hm : X.mg "len" = none) (hg2 : Gl X "set") (hm2 : X.mg "set" = none) (ha : DE X e te)
    (na : starEach [e] X.env = (false, eval e X.env) :: starEach [] X.env := by rfl) : DE X (.Call (.Name "len" p) [.Call (.Name "set" p2) [e] [] q] [] pos) (dLenSet te) := by
  refine ⟨?_⟩
  intro F Fr env l σ H Q hE hR ht pins s I
  refine Call_ (ld_blt I hg hm PySem.boot_len ?_)
  refine PyProof.Rows.callWith_builtin1 (PyProof.Rows.args_cons ?_ rfl) rfl rfl
  refine Call_ (ld_blt I hg2 hm2 PyProof.Rows.boot_set ?_)
  refine PyProof.Rows.callWith_type1 (PyProof.Rows.args_cons (thn (ha F Fr env l σ H _ hE hR ht pins s I) fun v s1 ⟨x, H1, I1, r1, F1, d, l1, s1', rd, R1, q1⟩ => PyProof.Rows.args_nil ?_) na) na rfl
  cases rd with
  | @lst a vs ds h1 rr =>
    cases r1
    obtain ⟨ws, rfl, hw, q1⟩ := q1
    obtain ⟨ks, e1, e2, e3⟩ := words_keys rr
    subst e1
    obtain ⟨its, rv, pl, hz⟩ := I1.list (.inl (.inl (R1.fz _ _ h1)))
    have hkl : ks.length = ws.length := by rw [← e2, List.length_map]
    have hu := hr.un
    refine call_set_tups (P := X.prog) (w := X.w) ks (I1.ok.hd hc) pl.isList (by simpa using refs_of_vals rv) (fun p hp => I1.isT (sqT_mono R1.fz (e3 p hp))) (by omega) (by omega) fun h' tk L es ep t R g hk => ?_
    refine PyProof.Rows.args_nil ?_
    obtain ⟨o, ho, hex, hd⟩ := R.ob
    have I2 : Inv X pins σ H1 { s1 with heap := h', toks := tk } := I1.kept hk
    have hfew := R.few
    have hsz := R.size (s := { s1 with heap := h', toks := tk })
    refine call_len_set ho hex hd (R.fits (s := { s1 with heap := h', toks := tk })) (by rw [hsz] <;> omega) ⟨.int L.length, H1, I2.tok _, ⟨_, by rw [hsz]⟩, F1, .int L.length, l1, s1', .int _, R1, ?_⟩
    have := q1 (L.map (·.2)) R.nd fun w => ⟨fun h => ?_, fun h => ?_⟩
    · rwa [List.length_map] at this
    · obtain ⟨p, hp, rfl⟩ := List.mem_map.mp h
      rw [← e2]
      exact List.mem_map.mpr ⟨p, List.mem_of_mem_take (g.sub p hp), rfl⟩
    · rw [← e2] at h
      obtain ⟨p, hp, rfl⟩ := List.mem_map.mp h
      exact g.all p (by rw [List.take_length]; exact hp)
  | _ => exact q1.elim
end
end DL

namespace DL
open PySem PySem.Spec PyProof.Rows L2
/-! ### instances of the program's own classes -/
theorem Rep.extra {K : PySem.W.Frag} {F Fr H : Hp} {l : LH} {p : Addr} (r : Rep K F Fr l H) (n : H p = none) (o : HO) : Rep K F Fr l (upd H p o) where
  fz := fun b x e => by
    rw [upd_ne (fun z => by subst z; rw [r.F_none n] at e; cases e)]
    exact r.fz b x e
  fr := fun b x e => by
    rw [upd_ne (fun z => by subst z; rw [r.Fr_none n] at e; cases e)]
    exact r.fr b x e
  fd := r.fd
  lv := fun b x e => by
    have hb : b ≠ p := fun z => by subst z; rw [r.l_none n] at e; cases e
    obtain ⟨h1, h2⟩ := r.lv b x e
    exact ⟨h1, h2.mono (Same.refl F) (upd_ne hb)⟩
  ft := r.ft
def nthK : List D → Nat → (D → Prop) → Prop
  | [], _, _ => False
  | d :: _, 0, k => k d
  | _ :: r, n + 1, k => nthK r n k
theorem nthK_ok : ∀ {ds : List D} {i : Nat} {k : D → Prop}, nthK ds i k → ∃ d, ds[i]? = some d ∧ k d
  | [], _, _, h => h.elim
  | d :: _, 0, _, h => ⟨d, rfl, h⟩
  | _ :: r, n + 1, k, h => by
    obtain ⟨d, e, q⟩ := nthK_ok (ds := r) (i := n) h
    exact ⟨d, by simpa using e, q⟩
def putI : List D → Nat → D → (List D → Prop) → Prop
  | [], 0, d, k => k [d]
  | [], _ + 1, _, _ => False
  | _ :: r, 0, d, k => k (d :: r)
  | x :: r, n + 1, d, k => putI r n d fun r' => k (x :: r')
def putN {α : Type} : List α → Nat → α → List α
  | [], _, d => [d]
  | _ :: r, 0, d => d :: r
  | x :: r, n + 1, d => x :: putN r n d
theorem putI_ok : ∀ {ds : List D} {i : Nat} {d : D} {k : List D → Prop}, putI ds i d k → i ≤ ds.length ∧ k (putN ds i d)
  | [], 0, _, _, h => ⟨Nat.le_refl _, h⟩
  | [], _ + 1, _, _, h => h.elim
  | _ :: r, 0, d, k, h => ⟨Nat.zero_le _, h⟩
  | x :: r, n + 1, d, k, h => by
    obtain ⟨h1, h2⟩ := putI_ok (ds := r) (i := n) h
    exact ⟨Nat.succ_le_succ h1, h2⟩
theorem RelDs.putN {K : PySem.W.Frag} {F : Hp} {d : D} {v : V} (rd : RelD K F d v) : ∀ {ds : List D} {vs : List V} (i : Nat), RelDs K F ds vs → RelDs K F (putN ds i d) (DL.putN vs i v)
  | _, _, _, .nil => .cons rd .nil
  | _, _, 0, .cons _ t => .cons rd t
  | _, _, n + 1, .cons r t => .cons r (RelDs.putN rd n t)
theorem putN_len {α : Type} : ∀ (vs : List α) (i : Nat) (v : α), i ≤ vs.length → (DL.putN vs i v).length ≤ max vs.length (i + 1)
  | [], i, v, h => by
    show 1 ≤ _
    omega
  | _ :: r, 0, v, h => by
    show r.length + 1 ≤ _
    rw [List.length_cons]
    omega
  | x :: r, n + 1, v, h => by
    have := putN_len r n v (by rw [List.length_cons] at h; omega)
    show (DL.putN r n v).length + 1 ≤ _
    rw [List.length_cons]
    omega
theorem lookup_zip : ∀ {fs : List Str} {vs : List V} {i : Nat} {f : Str} {v : V}, fs.Nodup → fs[i]? = some f → vs[i]? = some v → (fs.zip vs).lookup f = some v
  | [], _, i, f, v, _, h, _ => by simp at h
  | _ :: _, [], i, f, v, _, _, h => by simp at h
  | g :: fs, u :: vs, 0, f, v, _, h1, h2 => by
    simp at h1 h2
    subst h1 h2
    simp
  | g :: fs, u :: vs, i + 1, f, v, nd, h1, h2 => by
    rw [List.nodup_cons] at nd
    simp only [List.getElem?_cons_succ] at h1 h2
    have hm := List.mem_of_getElem? h1
    have ne : ¬ (f == g) = true := fun e => nd.1 (by rw [← beq_iff_eq.mp e]; exact hm)
    rw [List.zip_cons_cons, List.lookup_cons, Bool.eq_false_iff.mpr ne]
    exact lookup_zip nd.2 h1 h2
theorem lookup_zip_none : ∀ {fs : List Str} {vs : List V} {f : Str}, f ∉ fs → (fs.zip vs).lookup f = none
  | [], _, f, _ => by simp
  | _ :: _, [], f, _ => by simp
  | g :: fs, u :: vs, f, h => by
    rw [List.mem_cons, not_or] at h
    rw [List.zip_cons_cons, List.lookup_cons, Bool.eq_false_iff.mpr (fun e => h.1 (beq_iff_eq.mp e))]
    exact lookup_zip_none h.2
theorem putF_zip : ∀ {fs : List Str} {vs : List V} {i : Nat} {f : Str} {v : V}, fs.Nodup → fs[i]? = some f → i ≤ vs.length → vs.length ≤ fs.length → putF f v (fs.zip vs) = fs.zip (DL.putN vs i v)
  | [], _, i, f, v, _, h, _, _ => by simp at h
  | g :: fs, [], 0, f, v, _, h1, _, _ => by
    simp at h1
    subst h1
    rw [List.zip_nil_right]
    show putF g v [] = (g :: fs).zip [v]
    simp [putF]
  | g :: fs, [], i + 1, f, v, _, h1, h2, _ => by simp at h2
  | g :: fs, u :: vs, 0, f, v, nd, h1, h2, h3 => by
    simp at h1
    subst h1
    rw [List.zip_cons_cons]
    show (if g = g then (g, v) :: fs.zip vs else _) = _
    rw [if_pos rfl]
    rfl
  | g :: fs, u :: vs, i + 1, f, v, nd, h1, h2, h3 => by
    rw [List.nodup_cons] at nd
    simp only [List.getElem?_cons_succ] at h1
    rw [List.length_cons] at h2
    rw [List.length_cons, List.length_cons] at h3
    have hm := List.mem_of_getElem? h1
    have ne : ¬ g = f := fun e => nd.1 (by rw [e]; exact hm)
    rw [List.zip_cons_cons]
    show (if g = f then _ else (g, u) :: putF f v (fs.zip vs)) = (g, u) :: fs.zip (DL.putN vs i v)
    rw [if_neg ne, putF_zip nd.2 h1 (by omega) (by omega)]
def atIns (x : D) (l : LH) (c : Cl) (k : Addr → List D → Prop) : Prop := match x with
  | .ref a => getO l a fun o => match o with | .ins c' ds => c' = c ∧ k a ds | _ => False
  | _ => False
theorem atIns_ok {K : PySem.W.Frag} {F Fr H : Hp} {l : LH} {d : D} {v : V} {c : Cl} {C : Addr} {k : Addr → List D → Prop} (hC : PySem.W.nsIn K mainGlobals c.name = some (some (.ref C))) (R : Rep K F Fr l H) (r : RelD K F d v) (q : atIns d l c k) :
    ∃ a ds dx vs, d = .ref a ∧ v = .ref a ∧ k a ds ∧ l a = some (.ins c ds) ∧ RelDs K F ds vs ∧ vs.length ≤ c.fs.length ∧ H a = some (.ins C dx (c.fs.zip vs)) := by
  cases r with
  | ref a =>
    obtain ⟨o, ho, q⟩ := q
    cases o with
    | ins c' ds =>
      obtain ⟨rfl, q⟩ := q
      obtain ⟨C', dx, vs, rr, hC', hl, hH⟩ := (R.lv _ _ ho).2
      rw [hC] at hC'
      cases hC'
      exact ⟨a, ds, dx, vs, rfl, rfl, q, ho, rr, hl, hH⟩
    | _ => exact q.elim
  | _ => exact q.elim
section
variable {X : Cx} {e o : Expr} {es : List Expr} {te to tv : DTE} {t : DTA} {pos p apos : Pos} {f m x : Str} {c : Cl} {C : Addr}
def dFld (c : Cl) (i : Nat) (te : DTE) : DTE := fun env l Q => te env l fun x l1 => atIns x l1 c fun _ ds => nthK ds i fun d => Q d l1
theorem de_fld (i : Nat) (hf : c.fs[i]? = some f) (nd : c.fs.Nodup) (hC : PySem.W.nsIn X.K mainGlobals c.name = some (some (.ref C))) (cl : Cls X.K C) (na : NoAttr X.K C f) (h : DE X e te) (hb : attributeBase e f X.env (eval e X.env) = eval e X.env := by rfl) :
    DE X (.Attribute e f pos) (dFld c i te) := by
  refine ⟨?_⟩
  intro F Fr env l σ H Q hE hR ht
  refine (pe_fld peW hb).we ?_
  refine (h F Fr env l σ H _ hE hR ht).mono fun x H1 ⟨F1, d, l1, s1, r1, R1, q1⟩ => ?_
  obtain ⟨a, ds, dx, vs, rfl, rfl, q, ho, rr, hl, hH⟩ := atIns_ok hC R1 r1 q1
  obtain ⟨d, hd, q⟩ := nthK_ok q
  obtain ⟨v, hv, rv⟩ := rr.get hd
  exact ⟨a, C, dx, _, v, rfl, hH, cl, na, lookup_zip nd hf hv, (LK.mk rv R1 q).weak s1⟩
def sPutF (c : Cl) (i : Nat) (to tv : DTE) : DTS := fun E env l => tv env l fun d l1 => to env l1 fun x l2 => atIns x l2 c fun a ds => putI ds i d fun ds' => E.nx env (uL l2 a (.ins c ds'))
theorem ds_fld {pos' : Pos} (i : Nat) (hf : c.fs[i]? = some f) (nd : c.fs.Nodup) (hz : c.fs.length < 1000) (hC : PySem.W.nsIn X.K mainGlobals c.name = some (some (.ref C))) (cl : Cls X.K C) (na : NoAttr X.K C f) (ho : DE X o to) (hv : DE X e tv)
    (hs : swapsWith e (some (.Attribute o f pos')) pos.line X.env = pure false := by rfl) : DS X (.Assign [.Attribute o f pos'] e pos) (sPutF c i to tv) := by
  refine ⟨?_⟩
  intro F Fr env l σ H E hE hR ht
  refine (ps_fld peW peW hs).ws ?_
  refine (hv F Fr env l σ H _ hE hR ht).mono fun y H1 ⟨F1, d, l1, s1, r1, R1, q1⟩ => ?_
  refine (ho F1 Fr env l1 σ H1 _ (hE.mono s1) R1 q1).mono fun x H2 ⟨F2, d2, l2, s2, r2, R2, q2⟩ => ?_
  obtain ⟨a, ds, dx, vs, rfl, rfl, q, hl0, rr, hl, hH⟩ := atIns_ok hC R2 r2 q2
  obtain ⟨hi, q⟩ := putI_ok q
  have hif := (List.getElem?_eq_some_iff.mp hf).1
  refine ⟨a, C, dx, _, rfl, hH, cl, na, by rw [List.length_zip]; omega, ?_⟩
  rw [putF_zip nd hf (by rw [← rr.length]; exact hi) hl]
  have hlen := putN_len vs i y (by rw [← rr.length]; exact hi)
  exact ⟨F2, env, _, s1.trans s2, hE.mono (s1.trans s2), R2.write hl0 rfl (show DOk X.K F2 _ a (.ins c (putN ds i d)) from ⟨C, dx, _, rr.putN (r1.mono s2) i, hC, by omega, upd_same⟩), q⟩

/-! a def that keeps its reading, run -/
theorem run_fnG {k : Nat} {g : Addr} {fd : FuncData} {ps : List Str} {dsp : DSp} {pins : List (Addr × Obj)} {σ : St} {H : Hp} {s : Shared} {us : List Value} {vs : List V} {F Fr : Hp} {ds : List D} {l : LH} {Q : DK} (G : FnG X.prog X.w X.K X.mg X.base k g fd ps dsp) (hr : Room k X.A) (hgd : X.A.guards = some []) (hb : Binds X.K fd ps [])
    (I : Inv X pins σ H s) (r : Vals vs us) (rd : RelDs X.K F ds vs) (R : Rep X.K F Fr l H) (h : dsp ds l Q) : wpAny (model X.prog X.w) X.A (call (.ref g) us) (EP X pins σ (LK X.K F Fr Q)) X.xe s := by
  have hsp : spOf X.K dsp vs H (LK X.K F Fr Q) L2.E0 := ⟨F, Fr, ds, l, Q, rd, R, h, fun v H' q => q⟩
  have hl : (us ++ []).length = ps.length := by rw [List.append_nil, ← r.length, ← rd.length]; exact G.len _ _ _ h
  have hbd := hb s us I.kIn hl
  rw [List.append_nil] at hbd
  refine wpAny_call (codeAny_mono (G.run X.A X.stack s H ⟨us, []⟩ us vs _ L2.E0 hr hgd I.env0 hbd r hsp) fun res s' hq => ?_)
  cases res with
  | error _ => exact hq.elim
  | ok fl =>
    cases fl with
    | ret u => exact I.after hq
    | next => exact hq.elim
    | brk => exact hq.elim
    | cont => exact hq.elim
def dMeth (c : Cl) (sp : DSp) (to : DTE) (t : DTA) : DTE := fun env l Q => to env l fun x l1 => atIns x l1 c fun _ _ => t env l1 fun ds l2 => callD sp (x :: ds) l2 Q
def dMeth0 (c : Cl) (sp : DSp) (to : DTE) : DTE := fun env l Q => to env l fun x l1 => atIns x l1 c fun _ _ => callD sp [x] l1 Q
section
variable {k : Nat} {g : Addr} {fd : FuncData} {ps : List Str} {dsp : DSp}
theorem de_meth {pl : Sem Bool} (hC : PySem.W.nsIn X.K mainGlobals c.name = some (some (.ref C))) (cl : Cls X.K C) (hm : Meth X.K C m g) (hnf : c.fs.contains m = false) (G : FnG X.prog X.w X.K X.mg X.base k g fd ps dsp) (hr : Room k X.A) (hgd : X.A.guards = some []) (hb : Binds X.K fd ps []) (ho : DE X o to) (ha : DA X (e :: es) t)
    (hst : starEach (e :: es) X.env = (false, eval e X.env) :: starEach es X.env := by rfl) (hpl : (backTo pos (starEach es X.env)).any (·.1) = false := by rfl)
    (ht : eval (.Call (.Attribute o m apos) (e :: es) [] pos) X.env = (do
      let ov ← eval o X.env
      standAt apos.atName
      let (f, first) ← holding [ov] (getMethod ov m pl)
      callWith pos f first (backTo pos (starEach (e :: es) X.env)) (backToKw pos (keywordEach [] X.env))) := by rfl) :
    DE X (.Call (.Attribute o m apos) (e :: es) [] pos) (dMeth c dsp to t) := by
  refine ⟨?_⟩
  intro F Fr env l σ H Q hE hR htt pins s I
  refine PySem.W.methodCall_KW (pl := pl) (thn (ho F Fr env l σ H _ hE hR htt pins s I) fun u s1 ⟨x, H1, I1, rx, F1, d, l1, s1', rd, R1, q1⟩ => ?_) ht
  obtain ⟨a, ds, dx, vs, rfl, rfl, q, hl0, rr, hl, hH⟩ := atIns_ok hC R1 rd q1
  obtain rfl : u = Value.ref a := rx
  refine getmeth_ok I1 hH cl hm (lookup_zip_none (fun z => by rw [List.contains_iff_mem.mpr z] at hnf; cases hnf)) ?_
  refine PySem.W.callWith_K (first := [.ref a]) (h₀ := X.base) I.ok.mod.kin hm.kp (thn (ha F1 Fr env l1 σ H1 _ (hE.mono s1') R1 q pos pins s1 I1) fun us s2 ⟨vs, H2, I2, r, F2, ds2, l2, s2', r2, R2, q2⟩ => ⟨I2.kIn, ?_⟩) hst hpl
  exact thn (run_fnG (us := .ref a :: us) (vs := .ref a :: vs) G hr hgd hb I2 (.cons rfl r) (.cons (.ref a) r2) R2 q2.run) fun u s3 q3 => EP.mono (fun v H q => q.weak (s1'.trans s2')) q3
theorem de_meth0 {pl : Sem Bool} (hC : PySem.W.nsIn X.K mainGlobals c.name = some (some (.ref C))) (cl : Cls X.K C) (hm : Meth X.K C m g) (hnf : c.fs.contains m = false) (G : FnG X.prog X.w X.K X.mg X.base k g fd ps dsp) (hr : Room k X.A) (hgd : X.A.guards = some []) (hb : Binds X.K fd ps []) (ho : DE X o to)
    (ht : eval (.Call (.Attribute o m apos) [] [] pos) X.env = (do
      let ov ← eval o X.env
      standAt apos.atName
      let (f, first) ← holding [ov] (getMethod ov m pl)
      callWith pos f first (backTo pos (starEach [] X.env)) (backToKw pos (keywordEach [] X.env))) := by rfl) :
    DE X (.Call (.Attribute o m apos) [] [] pos) (dMeth0 c dsp to) := by
  refine ⟨?_⟩
  intro F Fr env l σ H Q hE hR htt pins s I
  refine PySem.W.methodCall_KW (pl := pl) (thn (ho F Fr env l σ H _ hE hR htt pins s I) fun u s1 ⟨x, H1, I1, rx, F1, d, l1, s1', rd, R1, q1⟩ => ?_) ht
  obtain ⟨a, ds, dx, vs, rfl, rfl, q, hl0, rr, hl, hH⟩ := atIns_ok hC R1 rd q1
  obtain rfl : u = Value.ref a := rx
  refine getmeth_ok I1 hH cl hm (lookup_zip_none (fun z => by rw [List.contains_iff_mem.mpr z] at hnf; cases hnf)) ?_
  refine PySem.W.callWith_K0 (first := [.ref a]) I1.kIn hm.kp ?_
  exact thn (run_fnG (us := [.ref a]) (vs := [.ref a]) G hr hgd hb I1 (.cons rfl .nil) (.cons (.ref a) .nil) R1 q.run) fun u s3 q3 => EP.mono (fun v H q => q.weak s1') q3
/-- C(..) -/
def dMake (c : Cl) (sp : DSp) (t : DTA) : DTE := fun env l Q => t env l fun ds l1 => ∀ a, l1 a = none → callD sp (.ref a :: ds) (uL l1 a (.ins c [])) fun v l2 => v = .non ∧ Q (.ref a) l2
theorem de_make (hC : PySem.W.nsIn X.K mainGlobals c.name = some (some (.ref C))) (M : Mk X.K C g) (G : FnG X.prog X.w X.K X.mg X.base k g fd ps dsp) (hr : Room (k + 1) X.A) (hgd : X.A.guards = some []) (hg : Gl X x) (hmg : X.mg x = some (.ref C)) (hb : Binds X.K fd ps []) (ha : DA X (e :: es) t)
    (hdb : (x == ("__debug__" : Str)) = false := by decide) (he : starEach (e :: es) X.env = (false, eval e X.env) :: starEach es X.env := by rfl) (hpl : (backTo pos (starEach es X.env)).any (·.1) = false := by rfl) :
    DE X (.Call (.Name x p) (e :: es) [] pos) (dMake c dsp t) := by
  refine ⟨?_⟩
  intro F Fr env l σ H Q hE hR ht pins s I
  refine wpAny_Call_Name_kw (ld_glob I hg hmg ?_ hdb)
  refine PySem.W.callWith_K (h₀ := X.base) I.ok.mod.kin M.kp (thn (ha F Fr env l σ H _ hE hR ht pos pins s I) fun us s1 ⟨vs, H1, I1, r, F1, ds, l1, s1', r1, R1, q1⟩ => ⟨I1.kIn, ?_⟩) he hpl
  have n1 : H1 (s1.heap.objs.size + 1) = none := I1.hok.fresh (Nat.le_succ _)
  have n0 : H1 s1.heap.objs.size = none := I1.hok.fresh (Nat.le_refl _)
  have I2 := Inv.made (C := C) I1
  have R2 : Rep X.K F1 Fr (uL l1 (s1.heap.objs.size + 1) (.ins c [])) (upd (upd H1 s1.heap.objs.size (.own (s1.heap.objs.size + 1))) (s1.heap.objs.size + 1) (.ins C s1.heap.objs.size [])) :=
    (R1.extra n0 _).made ((upd_ne (Nat.succ_ne_self _)).trans n1) (show DOk X.K F1 _ _ (.ins c []) from ⟨C, _, [], .nil, hC, Nat.zero_le _, by rw [upd_same, List.zip_nil_right]⟩)
  have q2 := (q1 (s1.heap.objs.size + 1) (R1.l_none n1)).run
  have r2 : Vals (V.ref (s1.heap.objs.size + 1) :: vs) (Value.ref (s1.heap.objs.size + 1) :: us) := .cons rfl r
  have hsp : spOf X.K dsp (V.ref (s1.heap.objs.size + 1) :: vs) _ (fun v H2 => v = .non ∧ LK X.K F1 Fr Q (.ref (s1.heap.objs.size + 1)) H2) L2.E0 :=
    ⟨F1, Fr, _, _, _, .cons (.ref _) r1, R2, q2, fun v H' ⟨F3, d3, l3, s3, r3, R3, e3, q3⟩ => by
      subst e3
      cases r3
      exact ⟨rfl, F3, _, l3, s3, .ref _, R3, q3⟩⟩
  have hl : (Value.ref (s1.heap.objs.size + 1) :: us).length = ps.length := by
    have e := r2.length
    rw [← e, List.length_cons, ← r1.length, ← List.length_cons (a := D.ref (s1.heap.objs.size + 1))]
    exact G.len _ _ _ q2
  have hbd := hb _ (Value.ref (s1.heap.objs.size + 1) :: us) I2.kIn (by rw [List.append_nil]; exact hl)
  rw [List.append_nil] at hbd
  refine wpAny_call (make_map (f := g) I1.kIn M.makes M.init (beq_iff_eq.mp M.fn) (codeAny_mono (G.run _ X.stack _ _ ⟨Value.ref (s1.heap.objs.size + 1) :: us, []⟩ (Value.ref (s1.heap.objs.size + 1) :: us) _ _ L2.E0 (hr.make C us []) hgd
    (I2.env0.make C us []) hbd r2 hsp) fun res s' hq' => ?_))
  cases res with
  | error e => exact hq'.elim
  | ok fl =>
    cases fl with
    | ret u =>
      obtain ⟨v, H', I3, rv, ev, q3⟩ := I2.after hq'
      subst ev
      exact ⟨rv, ⟨V.ref (s1.heap.objs.size + 1), H', I3, rfl, q3.weak s1'⟩⟩
    | next => exact False.elim hq'
    | brk => exact False.elim hq'
    | cont => exact False.elim hq'
end
/-! constants of the module, raise that is never reached -/
theorem de_glob {n : Int} {tk : Tok} (hg : Gl X x) (hm : X.mg x = some (.int n tk)) (hd : (x == ("__debug__" : Str)) = false := by decide) : DE X (.Name x pos) (dC (.int n)) :=
  ⟨fun F Fr env l σ H Q he hr ht => (pe_glob (v := .int n) hg hm ⟨_, rfl⟩ hd).we (LK.mk (.int n) hr ht)⟩
def sNever : DTS := fun _ _ _ => False
theorem ds_never {st : Stmt} : DS X st sNever := ⟨fun F Fr env l σ H E he hr ht => ht.elim⟩
end
end DL

namespace DL
open PySem PySem.Spec PyProof.Rows L2
/-! ### dicts: keys plain or tuples of plain ones -/
def keysD : List D → Option (List Key)
  | [] => some []
  | d :: r => (keyD d).bind fun k => (keysD r).map fun s => k :: s
def keyT : D → Option (List Key)
  | .tup ds => keysD ds
  | _ => none
theorem keysD_rel {K : PySem.W.Frag} {F : Hp} : ∀ {ds : List D} {vs : List V} {k : List Key}, RelDs K F ds vs → keysD ds = some k → vs = k.map kV
  | _, _, k, .nil, h => by cases h; rfl
  | d :: ds, _, k, .cons r rr, h => by
    rw [keysD] at h
    cases hk : keyD d with
    | none => rw [hk] at h; cases h
    | some q =>
      rw [hk] at h
      cases hp : keysD ds with
      | none => rw [hp] at h; cases h
      | some s =>
        rw [hp] at h
        cases h
        rw [keysD_rel rr hp, keyD_v r hk]
        rfl
theorem keyT_rel {K : PySem.W.Frag} {F : Hp} {d : D} {v : V} {k : List Key} (r : RelD K F d v) (h : keyT d = some k) : ∃ b, v = .ref b ∧ F b = some (.tup (k.map kV)) := by
  cases r with
  | tup h1 rr =>
    have e := keysD_rel rr h
    subst e
    exact ⟨_, rfl, h1⟩
  | _ => cases h
/-- a word as a key -/
def wkey (w : List Int) : List Key := w.map Sum.inl
theorem keysD_ints : ∀ w : List Int, keysD (w.map D.int) = some (wkey w)
  | [] => rfl
  | x :: w => by
    rw [List.map_cons, keysD, keysD_ints w]
    rfl
theorem keyT_word (w : List Int) : keyT (wordD w) = some (wkey w) := keysD_ints w
theorem wkey_inj {u v : List Int} : wkey u = wkey v ↔ u = v := by
  unfold wkey
  exact List.map_inj_right fun a b e => Sum.inl.inj e
section
variable {κ : Type} [DecidableEq κ] {K : PySem.W.Frag} {F : Hp}
def getA : List κ → List D → κ → Option D
  | k :: ks, d :: ds, q => if k = q then some d else getA ks ds q
  | _, _, _ => none
def OptRel (K : PySem.W.Frag) (F : Hp) : Option D → Option V → Prop
  | some d, some v => RelD K F d v
  | none, none => True
  | _, _ => False
theorem getA_rel : ∀ {ks : List κ} {ds : List D} {vs : List V} {q : κ}, RelDs K F ds vs → OptRel K F (getA ks ds q) (valV (ks.zip vs) q)
  | [], _, _, _, _ => by
    rw [List.zip_nil_left]
    unfold getA
    exact trivial
  | _ :: _, [], _, _, .nil => by
    rw [List.zip_nil_right]
    unfold getA
    exact trivial
  | k :: ks, d :: ds, _, q, .cons (v := v) r rr => by
    rw [List.zip_cons_cons]
    unfold getA
    by_cases h : k = q
    · rw [if_pos h, valV_pos (p := (k, v)) h]
      exact r
    · rw [if_neg h, valV_neg (p := (k, v)) h]
      exact getA_rel rr
def repA : List κ → List D → κ → D → List D
  | k :: ks, d :: ds, q, x => (if k = q then x else d) :: repA ks ds q x
  | _, _, _, _ => []
def putKs (ks : List κ) (q : κ) : List κ := if q ∈ ks then ks else ks ++ [q]
def putDs (ks : List κ) (ds : List D) (q : κ) (x : D) : List D := if q ∈ ks then repA ks ds q x else ds ++ [x]
theorem rep_rel {x : D} {v : V} (rx : RelD K F x v) : ∀ {ks : List κ} {ds : List D} {vs : List V} {q : κ}, ks.length = vs.length → RelDs K F ds vs →
    ∃ ws, RelDs K F (repA ks ds q x) ws ∧ ks.length = ws.length ∧ (ks.zip vs).map (fun kv => if kv.1 = q then (kv.1, v) else kv) = ks.zip ws
  | [], [], [], q, _, .nil => ⟨[], .nil, rfl, rfl⟩
  | [], _, _ :: _, q, h, _ => by simp at h
  | _ :: _, _, [], q, h, _ => by simp at h
  | k :: ks, d :: ds, u :: vs, q, h, .cons r rr => by
    obtain ⟨ws, h1, h2, h3⟩ := rep_rel rx (q := q) (by simpa using h) rr
    refine ⟨(if k = q then v else u) :: ws, .cons ?_ h1, by rw [List.length_cons, List.length_cons, h2], ?_⟩
    · by_cases e : k = q
      · rw [if_pos e, if_pos e]; exact rx
      · rw [if_neg e, if_neg e]; exact r
    · rw [List.zip_cons_cons, List.map_cons, h3, List.zip_cons_cons]
      by_cases e : k = q
      · simp [e]
      · simp [e]
theorem put_rel {x : D} {v : V} (rx : RelD K F x v) {ks : List κ} {ds : List D} {vs : List V} {q : κ} (hl : ks.length = vs.length) (rr : RelDs K F ds vs) :
    ∃ ws, RelDs K F (putDs ks ds q x) ws ∧ (putKs ks q).length = ws.length ∧ putK (ks.zip vs) q v = (putKs ks q).zip ws := by
  have any : ((ks.zip vs).any fun kv => decide (kv.1 = q)) = decide (q ∈ ks) := by
    rw [Bool.eq_iff_iff, List.any_eq_true, decide_eq_true_eq]
    constructor
    · rintro ⟨kv, h, e⟩
      rw [← of_decide_eq_true e]
      exact (List.of_mem_zip (a := kv.1) (b := kv.2) h).1
    · intro h
      obtain ⟨i, hi⟩ := List.getElem?_of_mem h
      have hi' := (List.getElem?_eq_some_iff.mp hi).1
      refine ⟨(q, vs[i]'(by omega)), ?_, by simp⟩
      refine List.mem_of_getElem? (i := i) ?_
      rw [List.getElem?_zip_eq_some]
      exact ⟨hi, List.getElem?_eq_getElem _⟩
  unfold putDs putKs putK
  rw [any]
  by_cases h : q ∈ ks
  · rw [if_pos h, if_pos h, if_pos (by rw [decide_eq_true h])]
    obtain ⟨ws, h1, h2, h3⟩ := rep_rel rx (q := q) hl rr
    exact ⟨ws, h1, h2, h3⟩
  · rw [if_neg h, if_neg h, if_neg (by rw [decide_eq_false h]; exact Bool.false_ne_true)]
    exact ⟨vs ++ [v], rr.append (.cons rx .nil), by rw [List.length_append, List.length_append, hl]; rfl, by rw [List.zip_append hl]; rfl⟩
end
/-- x[y], whatever there is -/
def dictK (x : D) (l : LH) (y : D) (k : Option D → Prop) : Prop := match x with
  | .dT ks ds => ∃ q, keyT y = some q ∧ k (getA ks ds q)
  | .dK ks ds => ∃ q, keyD y = some q ∧ k (getA ks ds q)
  | .ref a => getO l a fun o => match o with | .dT ks ds => ∃ q, keyT y = some q ∧ k (getA ks ds q) | .dK ks ds => ∃ q, keyD y = some q ∧ k (getA ks ds q) | _ => False
  | _ => False
theorem dictK_ok {K : PySem.W.Frag} {F Fr H : Hp} {l : LH} {x y : D} {v u : V} {k : Option D → Prop} (R : Rep K F Fr l H) (rx : RelD K F x v) (ry : RelD K F y u) (q : dictK x l y k) : ∃ a od o, v = .ref a ∧ DGet H a u o ∧ OptRel K F od o ∧ k od := by
  have T : ∀ {p : Addr} {ks : List (List Key)} {ds : List D} {vs : List V}, Rd H p (.dT (ks.zip vs)) → RelDs K F ds vs → (∃ q, keyT y = some q ∧ k (getA ks ds q)) → ∃ a od o, V.ref p = .ref a ∧ DGet H a u o ∧ OptRel K F od o ∧ k od := by
    rintro p ks ds vs h rr ⟨q, e1, e2⟩
    obtain ⟨b, rfl, hb⟩ := keyT_rel ry e1
    exact ⟨p, _, _, rfl, .inr ⟨_, q, b, h, rfl, R.fz _ _ hb, rfl⟩, getA_rel rr, e2⟩
  have P : ∀ {p : Addr} {ks : List Key} {ds : List D} {vs : List V}, Rd H p (.dK (ks.zip vs)) → RelDs K F ds vs → (∃ q, keyD y = some q ∧ k (getA ks ds q)) → ∃ a od o, V.ref p = .ref a ∧ DGet H a u o ∧ OptRel K F od o ∧ k od := by
    rintro p ks ds vs h rr ⟨q, e1, e2⟩
    exact ⟨p, _, _, rfl, .inl ⟨_, q, h, keyD_v ry e1, rfl⟩, getA_rel rr, e2⟩
  cases rx with
  | dT h hl rr => exact T (.inr ⟨_, R.fz _ _ h⟩) rr q
  | dK h hl rr => exact P (.inr ⟨_, R.fz _ _ h⟩) rr q
  | ref a =>
    obtain ⟨o, ho, q⟩ := q
    cases o with
    | dT ks ds =>
      obtain ⟨vs, rr, hl, hH⟩ := (R.lv _ _ ho).2
      exact T (.inl hH) rr q
    | dK ks ds =>
      obtain ⟨vs, rr, hl, hH⟩ := (R.lv _ _ ho).2
      exact P (.inl hH) rr q
    | _ => exact q.elim
  | _ => exact q.elim
def isDictK (x : D) (l : LH) (k : Prop) : Prop := match x with
  | .dT _ _ => k
  | .dK _ _ => k
  | .ref a => getO l a fun o => match o with | .dT _ _ => k | .dK _ _ => k | _ => False
  | _ => False
theorem isDictK_ok {K : PySem.W.Frag} {F Fr H : Hp} {l : LH} {x : D} {v : V} {k : Prop} (R : Rep K F Fr l H) (rx : RelD K F x v) (q : isDictK x l k) : ∃ a, v = .ref a ∧ IsD H a ∧ k := by
  cases rx with
  | dT h hl rr => exact ⟨_, rfl, .inr ⟨_, .inr ⟨_, R.fz _ _ h⟩⟩, q⟩
  | dK h hl rr => exact ⟨_, rfl, .inl ⟨_, .inr ⟨_, R.fz _ _ h⟩⟩, q⟩
  | ref a =>
    obtain ⟨o, ho, q⟩ := q
    cases o with
    | dT ks ds =>
      obtain ⟨vs, rr, hl, hH⟩ := (R.lv _ _ ho).2
      exact ⟨_, rfl, .inr ⟨_, .inl hH⟩, q⟩
    | dK ks ds =>
      obtain ⟨vs, rr, hl, hH⟩ := (R.lv _ _ ho).2
      exact ⟨_, rfl, .inl ⟨_, .inl hH⟩, q⟩
    | _ => exact q.elim
  | _ => exact q.elim
section
variable {X : Cx} {a b e o : Expr} {ta tb te to tx : DTE} {pos p apos cpos : Pos} {k : Nat}
/-- x[y] of a dict -/
def dGetD (ta tb : DTE) : DTE := fun env l Q => ta env l fun x l1 => tb env l1 fun y l2 => dictK x l2 y fun od => match od with | some d => Q d l2 | none => False
theorem de_getD (hr : Room k X.A) (ha : DE X a ta) (hb : DE X b tb) (hs : NoSl b := by exact fun _ _ => rfl) : DE X (.Subscript a b pos) (dGetD ta tb) := by
  refine ⟨?_⟩
  intro F Fr env l σ H Q hE hR ht
  have hu : X.A.units + 1 < cLine := by have := hr.un; omega
  refine (pe_dget hu peW peW hs).we ?_
  refine (ha F Fr env l σ H _ hE hR ht).mono fun x H1 ⟨F1, d1, l1, s1, r1, R1, q1⟩ => ?_
  refine (hb F1 Fr env l1 σ H1 _ (hE.mono s1) R1 q1).mono fun y H2 ⟨F2, d2, l2, s2, r2, R2, q2⟩ => ?_
  obtain ⟨a, od, o, rfl, g, ro, q3⟩ := dictK_ok R2 (r1.mono s2) r2 q2
  cases od with
  | none => exact q3.elim
  | some d =>
    cases o with
    | none => exact ro.elim
    | some v => exact ⟨a, v, rfl, g, (LK.mk ro R2 q3).weak (s1.trans s2)⟩
/-- d.get(y), d.get(y, z) -/
def dGet1 (to te : DTE) : DTE := fun env l Q => to env l fun x l1 => isDictK x l1 (te env l1 fun y l2 => dictK x l2 y fun od => Q (od.getD .non) l2)
def dGet2 (to te tx : DTE) : DTE := fun env l Q => to env l fun x l1 => isDictK x l1 (te env l1 fun y l2 => tx env l2 fun z l3 => dictK x l3 y fun od => Q (od.getD z) l3)
theorem OptRel.getD {K : PySem.W.Frag} {F : Hp} {od : Option D} {o : Option V} {d : D} {v : V} (r : OptRel K F od o) (rd : RelD K F d v) : RelD K F (od.getD d) (o.getD v) := by
  cases od with
  | none =>
    cases o with
    | none => exact rd
    | some _ => exact r.elim
  | some _ =>
    cases o with
    | none => exact r.elim
    | some _ => exact r
theorem de_get1 (hr : Room k X.A) (ho : DE X o to) (he : DE X e te) (m : M1 X o "get" apos e cpos) : DE X (.Call (.Attribute o "get" apos) [e] [] cpos) (dGet1 to te) := by
  refine ⟨?_⟩
  intro F Fr env l σ H Q hE hR ht
  have hu : X.A.units + 1 < cLine := by have := hr.un; omega
  refine (pe_dget1 hu peW peW m).we ?_
  refine (ho F Fr env l σ H _ hE hR ht).mono fun x H1 ⟨F1, d1, l1, s1, r1, R1, q1⟩ => ?_
  obtain ⟨a, rfl, isd, q1⟩ := isDictK_ok R1 r1 q1
  refine ⟨a, rfl, isd, ?_⟩
  refine (he F1 Fr env l1 σ H1 _ (hE.mono s1) R1 q1).mono fun y H2 ⟨F2, d2, l2, s2, r2, R2, q2⟩ => ?_
  obtain ⟨a', od, o, e1, g, ro, q3⟩ := dictK_ok R2 (r1.mono s2) r2 q2
  cases e1
  exact ⟨o, g, (LK.mk (ro.getD .non) R2 q3).weak (s1.trans s2)⟩
theorem de_get2 {f : Expr} (hr : Room k X.A) (ho : DE X o to) (he : DE X e te) (hf : DE X f tx) (m : M2 X o "get" apos e f cpos) : DE X (.Call (.Attribute o "get" apos) [e, f] [] cpos) (dGet2 to te tx) := by
  refine ⟨?_⟩
  intro F Fr env l σ H Q hE hR ht
  have hu : X.A.units + 1 < cLine := by have := hr.un; omega
  refine (pe_dget2 hu peW peW peW m).we ?_
  refine (ho F Fr env l σ H _ hE hR ht).mono fun x H1 ⟨F1, d1, l1, s1, r1, R1, q1⟩ => ?_
  obtain ⟨a, rfl, isd, q1⟩ := isDictK_ok R1 r1 q1
  refine ⟨a, rfl, isd, ?_⟩
  refine (he F1 Fr env l1 σ H1 _ (hE.mono s1) R1 q1).mono fun y H2 ⟨F2, d2, l2, s2, r2, R2, q2⟩ => ?_
  refine (hf F2 Fr env l2 σ H2 _ (hE.mono (s1.trans s2)) R2 q2).mono fun z H3 ⟨F3, d3, l3, s3, r3, R3, q3⟩ => ?_
  obtain ⟨a', od, o, e1, g, ro, q4⟩ := dictK_ok R3 (r1.mono (s2.trans s3)) (r2.mono s3) q3
  cases e1
  exact ⟨o, g, (LK.mk (ro.getD r3) R3 q4).weak (s1.trans (s2.trans s3))⟩
/-- y in d, y not in d -/
def dInD (te to : DTE) : DTE := fun env l Q => te env l fun y l1 => to env l1 fun x l2 => dictK x l2 y fun od => Q (.bl od.isSome) l2
def dNotInD (te to : DTE) : DTE := fun env l Q => te env l fun y l1 => to env l1 fun x l2 => dictK x l2 y fun od => Q (.bl (!od.isSome)) l2
theorem OptRel.is {K : PySem.W.Frag} {F : Hp} {od : Option D} {o : Option V} (r : OptRel K F od o) : o.isSome = od.isSome := by
  cases od <;> cases o <;> first | rfl | exact r.elim
theorem two_in (he : DE X e te) (ho : DE X o to) {F Fr : Hp} {env : DSt} {l : LH} {σ : St} {H : Hp} {Q : DK} {g : Bool → Bool} (hE : RepE X.K F env σ) (hR : Rep X.K F Fr l H) (ht : te env l fun y l1 => to env l1 fun x l2 => dictK x l2 y fun od => Q (.bl (g od.isSome)) l2) :
    WE X e σ H fun y H1 => WE X o σ H1 fun x H2 => ∃ a o, x = .ref a ∧ DGet H2 a y o ∧ LK X.K F Fr Q (.bl (g o.isSome)) H2 := by
  refine (he F Fr env l σ H _ hE hR ht).mono fun y H1 ⟨F1, d1, l1, s1, r1, R1, q1⟩ => ?_
  refine (ho F1 Fr env l1 σ H1 _ (hE.mono s1) R1 q1).mono fun x H2 ⟨F2, d2, l2, s2, r2, R2, q2⟩ => ?_
  obtain ⟨a, od, o, e1, gd, ro, q3⟩ := dictK_ok R2 r2 (r1.mono s2) q2
  refine ⟨a, o, e1, gd, ?_⟩
  rw [ro.is]
  exact (LK.mk (.bl _) R2 q3).weak (s1.trans s2)
theorem dt_inD (hr : Room k X.A) (he : DE X e te) (ho : DE X o to) (h1 : behindInMarks .In o = false := by rfl) : DT X (.Compare e [.In] [o] pos) (dTV (dInD te to)) := by
  refine ⟨?_⟩
  intro F Fr env l σ H Q hE hR ht
  have hu : X.A.units + 1 < cLine := by have := hr.un; omega
  refine (pt_cmp (pc_din hu peW peW) (h1 := h1)).wt ?_
  refine (two_in (g := id) (Q := fun x l1 => match x with | .bl b => Q b l1 | _ => False) he ho hE hR ht).mono fun y H1 w => w.mono fun x H2 ⟨a, o, e1, g, F3, d3, l3, s3, r3, R3, q3⟩ => ?_
  cases r3
  exact ⟨a, o, e1, g, _, rfl, F3, l3, s3, R3, q3⟩
theorem dt_notInD (hr : Room k X.A) (he : DE X e te) (ho : DE X o to) (h1 : behindInMarks .NotIn o = false := by rfl) : DT X (.Compare e [.NotIn] [o] pos) (dTV (dNotInD te to)) := by
  refine ⟨?_⟩
  intro F Fr env l σ H Q hE hR ht
  have hu : X.A.units + 1 < cLine := by have := hr.un; omega
  refine (pt_cmp (pc_dnotin hu peW peW) (h1 := h1)).wt ?_
  refine (two_in (g := fun b => !b) (Q := fun x l1 => match x with | .bl b => Q b l1 | _ => False) he ho hE hR ht).mono fun y H1 w => w.mono fun x H2 ⟨a, o, e1, g, F3, d3, l3, s3, r3, R3, q3⟩ => ?_
  cases r3
  exact ⟨a, o, e1, g, _, rfl, F3, l3, s3, R3, q3⟩
/-- d[y] = v -/
def putDK (x y d : D) (l : LH) (Q : LH → Prop) : Prop := match x with
  | .ref a => getO l a fun o => match o with
    | .dT ks ds => ∃ q, keyT y = some q ∧ ks.length < sizeLine ∧ Q (uL l a (.dT (putKs ks q) (putDs ks ds q d)))
    | .dK ks ds => ∃ q, keyD y = some q ∧ ks.length < sizeLine ∧ Q (uL l a (.dK (putKs ks q) (putDs ks ds q d)))
    | _ => False
  | _ => False
def sPutD (to ti tv : DTE) : DTS := fun E env l => tv env l fun d l1 => to env l1 fun x l2 => ti env l2 fun y l3 => putDK x y d l3 fun l4 => E.nx env l4
theorem ds_putD {i v : Expr} {ti tv : DTE} {pos' : Pos} (hr : Room k X.A) (ho : DE X o to) (hi : DE X i ti) (hv : DE X v tv) (hs : swapsWith v (some (.Subscript o i pos')) pos.line X.env = pure false := by rfl) : DS X (.Assign [.Subscript o i pos'] v pos) (sPutD to ti tv) := by
  refine ⟨?_⟩
  intro F Fr env l σ H E hE hR ht
  have hu : X.A.units + 1 < cLine := by have := hr.un; omega
  refine (ps_dput hu peW peW peW hs).ws ?_
  refine (hv F Fr env l σ H _ hE hR ht).mono fun w H1 ⟨F1, d, l1, s1, r1, R1, q1⟩ => ?_
  refine (ho F1 Fr env l1 σ H1 _ (hE.mono s1) R1 q1).mono fun x H2 ⟨F2, d2, l2, s2, r2, R2, q2⟩ => ?_
  refine (hi F2 Fr env l2 σ H2 _ (hE.mono (s1.trans s2)) R2 q2).mono fun y H3 ⟨F3, d3, l3, s3, r3, R3, q3⟩ => ?_
  have S := s1.trans (s2.trans s3)
  have rw1 := r1.mono (s2.trans s3)
  cases r2 with
  | ref a =>
    obtain ⟨u, ho, q3⟩ := q3
    cases u with
    | dT ks ds =>
      obtain ⟨q, hq, hz, q3⟩ := q3
      obtain ⟨vs, rr, hl, hH⟩ := (R3.lv _ _ ho).2
      obtain ⟨b, rfl, hb⟩ := keyT_rel r3 hq
      obtain ⟨ws, w1, w2, w3⟩ := put_rel (q := q) rw1 hl rr
      refine ⟨a, _, rfl, DPut.t hH (R3.fz _ _ hb) (by rw [List.length_zip]; omega), F3, env, _, S, hE.mono S, ?_, q3⟩
      rw [w3]
      exact R3.write ho rfl (show DOk X.K F3 _ a (.dT _ _) from ⟨ws, w1, w2, upd_same⟩)
    | dK ks ds =>
      obtain ⟨q, hq, hz, q3⟩ := q3
      obtain ⟨vs, rr, hl, hH⟩ := (R3.lv _ _ ho).2
      obtain rfl := keyD_v r3 hq
      obtain ⟨ws, w1, w2, w3⟩ := put_rel (q := q) rw1 hl rr
      refine ⟨a, _, rfl, DPut.k hH (by rw [List.length_zip]; omega), F3, env, _, S, hE.mono S, ?_, q3⟩
      rw [w3]
      exact R3.write ho rfl (show DOk X.K F3 _ a (.dK _ _) from ⟨ws, w1, w2, upd_same⟩)
    | _ => exact q3.elim
  | _ => exact q3.elim
/-- {} -/
def dNewT : DTE := fun _ l Q => newL (.dT [] []) l Q
def dNewK : DTE := fun _ l Q => newL (.dK [] []) l Q
theorem de_newT : DE X (.Dict [] [] pos) dNewT := by
  refine ⟨?_⟩
  intro F Fr env l σ H Q hE hR ht
  refine pe_dnewT.we fun p np => ?_
  exact ⟨F, .ref p, _, Same.refl F, .ref p, hR.made np (show DOk X.K F _ p (.dT [] []) from ⟨[], .nil, rfl, upd_same⟩), ht p (hR.l_none np)⟩
theorem de_newK : DE X (.Dict [] [] pos) dNewK := by
  refine ⟨?_⟩
  intro F Fr env l σ H Q hE hR ht
  refine pe_dnewK.we fun p np => ?_
  exact ⟨F, .ref p, _, Same.refl F, .ref p, hR.made np (show DOk X.K F _ p (.dK [] []) from ⟨[], .nil, rfl, upd_same⟩), ht p (hR.l_none np)⟩
end
end DL

namespace DL
open PySem PySem.Spec PyProof.Rows L2
/-! ### what is frozen, deep -/
theorem Rep.freezeH {K : PySem.W.Frag} {F Fr H : Hp} {l : LH} (r : Rep K F Fr l H) {a : Addr} {o : DO} (h : l a = some o) (nf : isFz o = false) (u : HO) : Rep K (upd F a u) Fr (dL l a) (upd H a u) where
  fz := fun b x q => by
    by_cases hb : b = a
    · subst hb; rw [upd_same] at q ⊢; exact q
    · rw [upd_ne hb] at q ⊢; exact r.fz b x q
  fr := fun b x q => by
    rw [upd_ne (fun z => by subst z; rw [(r.fd b x q).2] at h; cases h)]
    exact r.fr b x q
  fd := fun b x q => by
    have hb : b ≠ a := fun z => by subst z; rw [(r.fd b x q).2] at h; cases h
    unfold dL
    rw [upd_ne hb, if_neg hb]
    exact r.fd b x q
  lv := fun b x q => by
    unfold dL at q
    by_cases hb : b = a
    · rw [if_pos hb] at q; cases q
    · rw [if_neg hb] at q
      obtain ⟨h1, h2⟩ := r.lv b x q
      exact ⟨fun z => by rw [upd_ne hb]; exact h1 z, h2.mono (same_upd ((r.lv a o h).1 nf)) (upd_ne hb)⟩
  ft := r.ft
theorem Rep.drop {K : PySem.W.Frag} {F Fr H : Hp} {l : LH} (r : Rep K F Fr l H) (a : Addr) : Rep K F Fr (dL l a) H where
  fz := r.fz
  fr := r.fr
  fd := fun b x q => by
    refine ⟨(r.fd b x q).1, ?_⟩
    unfold dL
    split
    · rfl
    · exact (r.fd b x q).2
  lv := fun b x q => by
    unfold dL at q
    split at q
    · cases q
    · exact r.lv b x q
  ft := r.ft
theorem Rep.keepFz {K : PySem.W.Frag} {F Fr H : Hp} {l : LH} {a : Addr} {d : D} (r : Rep K F Fr (dL l a) H) (rd : RelD K F d (.ref a)) {u : HO} (hu : F a = some u) : Rep K F Fr (uL l a (.fz d)) H where
  fz := r.fz
  fr := r.fr
  fd := fun b x q => by
    obtain ⟨h1, h2⟩ := r.fd b x q
    refine ⟨h1, ?_⟩
    have hb : b ≠ a := fun z => by subst z; rw [h1] at hu; cases hu
    rw [uL_ne hb]
    unfold dL at h2
    rwa [if_neg hb] at h2
  lv := fun b x q => by
    by_cases hb : b = a
    · subst hb
      rw [uL_same] at q; cases q
      exact ⟨(fun z => nomatch z), rd, u, hu⟩
    · rw [uL_ne hb] at q
      exact r.lv b x (by unfold dL; rw [if_neg hb]; exact q)
  ft := r.ft
def fzList (f : D → LH → DK → Prop) : List D → LH → (List D → LH → Prop) → Prop
  | [], l, k => k [] l
  | d :: ds, l, k => f d l fun d' l1 => fzList f ds l1 fun ds' l2 => k (d' :: ds') l2
def fzN : Nat → D → LH → DK → Prop
  | 0, d, l, k => k d l
  | n + 1, .ref a, l, k => getO l a fun o => match o with
    | .lst ds => fzList (fzN n) ds (dL l a) fun ds' l' => k (.lst ds') l'
    | .dT ks ds => k (.dT ks ds) (dL l a)
    | .dK ks ds => k (.dK ks ds) (dL l a)
    | .ins _ _ => k (.ref a) l
    | .fz d => k d (dL l a)
  | n + 1, .lst ds, l, k => fzList (fzN n) ds l fun ds' l' => k (.lst ds') l'
  | n + 1, .tup ds, l, k => fzList (fzN n) ds l fun ds' l' => k (.tup ds') l'
  | _ + 1, d, l, k => k d l
section
variable {X : Cx} {pins : List (Addr × Obj)} {σ : St} {s : Shared} {Fr : Hp}
theorem fzList_ok {f : D → LH → DK → Prop} (hf : ∀ {d : D} {l : LH} {k : DK} {F H : Hp} {v : V}, Inv X pins σ H s → Rep X.K F Fr l H → RelD X.K F d v → f d l k → ∃ H' F' d' l', Inv X pins σ H' s ∧ Same F F' ∧ Rep X.K F' Fr l' H' ∧ RelD X.K F' d' v ∧ k d' l') :
    ∀ {ds : List D} {l : LH} {k : List D → LH → Prop} {F H : Hp} {vs : List V}, Inv X pins σ H s → Rep X.K F Fr l H → RelDs X.K F ds vs → fzList f ds l k → ∃ H' F' ds' l', Inv X pins σ H' s ∧ Same F F' ∧ Rep X.K F' Fr l' H' ∧ RelDs X.K F' ds' vs ∧ k ds' l'
  | [], l, k, F, H, _, I, R, .nil, q => ⟨H, F, [], l, I, Same.refl F, R, .nil, q⟩
  | d :: ds, l, k, F, H, _, I, R, .cons r rr, q => by
    obtain ⟨H1, F1, d1, l1, I1, s1, R1, r1, q1⟩ := hf I R r q
    obtain ⟨H2, F2, ds2, l2, I2, s2, R2, r2, q2⟩ := fzList_ok hf I1 R1 (rr.mono s1) q1
    exact ⟨H2, F2, d1 :: ds2, l2, I2, s1.trans s2, R2, .cons (r1.mono s2) r2, q2⟩
theorem lock_dT {F H : Hp} {l : LH} {a : Addr} {ks : List (List Key)} {ds : List D} (I : Inv X pins σ H s) (R : Rep X.K F Fr l H) (ho : l a = some (.dT ks ds)) : ∃ H' F' u, Inv X pins σ H' s ∧ Same F F' ∧ Rep X.K F' Fr (dL l a) H' ∧ RelD X.K F' (.dT ks ds) (.ref a) ∧ F' a = some u := by
  obtain ⟨vs, rr, hl, hH⟩ := (R.lv _ _ ho).2
  obtain ⟨od, I2⟩ := I.lock hH (by exact trivial)
  have s1 := same_upd (o := .frz od (.dT (ks.zip vs))) ((R.lv _ _ ho).1 rfl)
  exact ⟨_, _, _, I2, s1, R.freezeH ho rfl _, .dT upd_same hl (rr.mono s1), upd_same⟩
theorem lock_dK {F H : Hp} {l : LH} {a : Addr} {ks : List Key} {ds : List D} (I : Inv X pins σ H s) (R : Rep X.K F Fr l H) (ho : l a = some (.dK ks ds)) : ∃ H' F' u, Inv X pins σ H' s ∧ Same F F' ∧ Rep X.K F' Fr (dL l a) H' ∧ RelD X.K F' (.dK ks ds) (.ref a) ∧ F' a = some u := by
  obtain ⟨vs, rr, hl, hH⟩ := (R.lv _ _ ho).2
  obtain ⟨od, I2⟩ := I.lock hH (by exact trivial)
  have s1 := same_upd (o := .frz od (.dK (ks.zip vs))) ((R.lv _ _ ho).1 rfl)
  exact ⟨_, _, _, I2, s1, R.freezeH ho rfl _, .dK upd_same hl (rr.mono s1), upd_same⟩
theorem fzN_ok : ∀ (n : Nat) {d : D} {l : LH} {k : DK} {F H : Hp} {v : V}, Inv X pins σ H s → Rep X.K F Fr l H → RelD X.K F d v → fzN n d l k → ∃ H' F' d' l', Inv X pins σ H' s ∧ Same F F' ∧ Rep X.K F' Fr l' H' ∧ RelD X.K F' d' v ∧ k d' l'
  | 0, d, l, k, F, H, v, I, R, r, q => ⟨H, F, d, l, I, Same.refl F, R, r, q⟩
  | n + 1, d, l, k, F, H, v, I, R, r, q => by
    cases r with
    | ref a =>
      obtain ⟨o, ho, q⟩ := q
      cases o with
      | lst ds =>
        obtain ⟨vs, rr, hH⟩ := (R.lv _ _ ho).2
        have nF := (R.lv _ _ ho).1 rfl
        have s1 := same_upd (o := .lst vs) nF
        obtain ⟨H2, F2, ds2, l2, I2, s2, R2, r2, q2⟩ := fzList_ok (fzN_ok n) I (R.freeze ho rfl hH) (rr.mono s1) q
        exact ⟨H2, F2, .lst ds2, l2, I2, s1.trans s2, R2, .lst (s2 _ _ upd_same) r2, q2⟩
      | dT ks ds =>
        obtain ⟨H', F', u, I2, s1, R2, r2, _⟩ := lock_dT I R ho
        exact ⟨H', F', _, _, I2, s1, R2, r2, q⟩
      | dK ks ds =>
        obtain ⟨H', F', u, I2, s1, R2, r2, _⟩ := lock_dK I R ho
        exact ⟨H', F', _, _, I2, s1, R2, r2, q⟩
      | ins c ds => exact ⟨H, F, _, _, I, Same.refl F, R, .ref a, q⟩
      | fz d => exact ⟨H, F, _, _, I, Same.refl F, R.drop a, (R.lv _ _ ho).2.1, q⟩
    | lst h1 rr =>
      obtain ⟨H2, F2, ds2, l2, I2, s2, R2, r2, q2⟩ := fzList_ok (fzN_ok n) I R rr q
      exact ⟨H2, F2, .lst ds2, l2, I2, s2, R2, .lst (s2 _ _ h1) r2, q2⟩
    | tup h1 rr =>
      obtain ⟨H2, F2, ds2, l2, I2, s2, R2, r2, q2⟩ := fzList_ok (fzN_ok n) I R rr q
      exact ⟨H2, F2, .tup ds2, l2, I2, s2, R2, .tup (s2 _ _ h1) r2, q2⟩
    | non => exact ⟨H, F, _, l, I, Same.refl F, R, .non, q⟩
    | bl b => exact ⟨H, F, _, l, I, Same.refl F, R, .bl b, q⟩
    | int b => exact ⟨H, F, _, l, I, Same.refl F, R, .int b, q⟩
    | str b => exact ⟨H, F, _, l, I, Same.refl F, R, .str b, q⟩
    | scr b => exact ⟨H, F, _, l, I, Same.refl F, R, .scr b, q⟩
    | dT a b c => exact ⟨H, F, _, l, I, Same.refl F, R, .dT a b c, q⟩
    | dK a b c => exact ⟨H, F, _, l, I, Same.refl F, R, .dK a b c, q⟩
    | exc a b => exact ⟨H, F, _, l, I, Same.refl F, R, .exc a b, q⟩
    | exc1 a b c d => exact ⟨H, F, _, l, I, Same.refl F, R, .exc1 a b c d, q⟩
end
section
variable {X : Cx} {e o : Expr} {te to : DTE} {pos apos cpos tpos p : Pos}
def dFz (n : Nat) (te : DTE) : DTE := fun env l Q => te env l fun d l1 => fzN n d l1 Q
theorem de_fz (n : Nat) (h : DE X e te) : DE X e (dFz n te) := by
  refine ⟨?_⟩
  intro F Fr env l σ H Q hE hR ht pins s I
  refine thn (h F Fr env l σ H _ hE hR ht pins s I) fun u s1 ⟨v, H1, I1, rv, F1, d, l1, s1', r1, R1, q1⟩ => ?_
  obtain ⟨H2, F2, d2, l2, I2, s2, R2, r2, q2⟩ := fzN_ok n I1 R1 r1 q1
  exact ⟨v, H2, I2, rv, F2, d2, l2, s1'.trans s2, r2, R2, q2⟩
/-- frozen, and remembered -/
def fzK (d : D) (l : LH) (k : DK) : Prop := match d with
  | .ref a => getO l a fun o => match o with
    | .dT ks ds => k (.dT ks ds) (uL l a (.fz (.dT ks ds)))
    | .fz d => k d l
    | _ => False
  | d => k d l
def dFzK (te : DTE) : DTE := fun env l Q => te env l fun d l1 => fzK d l1 Q
theorem de_fzK (h : DE X e te) : DE X e (dFzK te) := by
  refine ⟨?_⟩
  intro F Fr env l σ H Q hE hR ht pins s I
  refine thn (h F Fr env l σ H _ hE hR ht pins s I) fun u s1 ⟨v, H1, I1, rv, F1, d, l1, s1', r1, R1, q1⟩ => ?_
  cases r1 with
  | ref a =>
    obtain ⟨o, ho, q⟩ := q1
    cases o with
    | dT ks ds =>
      obtain ⟨H', F', u, I2, s2, R2, r2, hu⟩ := lock_dT I1 R1 ho
      exact ⟨_, H', I2, rv, F', _, _, s1'.trans s2, r2, R2.keepFz r2 hu, q⟩
    | fz d => exact ⟨_, H1, I1, rv, F1, d, l1, s1', (R1.lv _ _ ho).2.1, R1, q⟩
    | _ => exact q.elim
  | non => exact ⟨_, H1, I1, rv, F1, _, l1, s1', .non, R1, q1⟩
  | bl b => exact ⟨_, H1, I1, rv, F1, _, l1, s1', .bl b, R1, q1⟩
  | int b => exact ⟨_, H1, I1, rv, F1, _, l1, s1', .int b, R1, q1⟩
  | str b => exact ⟨_, H1, I1, rv, F1, _, l1, s1', .str b, R1, q1⟩
  | tup a b => exact ⟨_, H1, I1, rv, F1, _, l1, s1', .tup a b, R1, q1⟩
  | scr a => exact ⟨_, H1, I1, rv, F1, _, l1, s1', .scr a, R1, q1⟩
  | lst a b => exact ⟨_, H1, I1, rv, F1, _, l1, s1', .lst a b, R1, q1⟩
  | dT a b c => exact ⟨_, H1, I1, rv, F1, _, l1, s1', .dT a b c, R1, q1⟩
  | dK a b c => exact ⟨_, H1, I1, rv, F1, _, l1, s1', .dK a b c, R1, q1⟩
  | exc a b => exact ⟨_, H1, I1, rv, F1, _, l1, s1', .exc a b, R1, q1⟩
  | exc1 a b c d => exact ⟨_, H1, I1, rv, F1, _, l1, s1', .exc1 a b c d, R1, q1⟩
/-- freezing a field of an instance: x.f, a list, as what is never written any more -/
def dFzF (c : Cl) (i : Nat) (te : DTE) : DTE := fun env l Q => te env l fun x l1 => atIns x l1 c fun a ds => nthK ds i fun d => match d with | .ref b => fzN 1 (.ref b) l1 fun d' l2 => putI ds i d' fun ds' => l2 a = some (.ins c ds) ∧ Q d' (uL l2 a (.ins c ds')) | _ => False
theorem putN_at {α : Type} : ∀ {vs : List α} {i : Nat} {v : α}, vs[i]? = some v → putN vs i v = vs
  | [], i, v, h => by simp at h
  | x :: r, 0, v, h => by
    simp at h
    subst h
    rfl
  | x :: r, n + 1, v, h => by
    show x :: putN r n v = x :: r
    rw [putN_at (by simpa using h)]
theorem de_fzF {c : Cl} {C : Addr} {f : Str} (i : Nat) (hf : c.fs[i]? = some f) (nd : c.fs.Nodup) (hC : PySem.W.nsIn X.K mainGlobals c.name = some (some (.ref C))) (cl : Cls X.K C) (na : NoAttr X.K C f) (h : DE X e te) (hb : attributeBase e f X.env (eval e X.env) = eval e X.env := by rfl) :
    DE X (.Attribute e f pos) (dFzF c i te) := by
  refine ⟨?_⟩
  intro F Fr env l σ H Q hE hR ht pins s I
  let Q1 : DK := fun d l1 => ∃ a ds b, d = .ref b ∧ l1 a = some (.ins c ds) ∧ ds[i]? = some d ∧ fzN 1 d l1 fun d' l2 => putI ds i d' fun ds' => l2 a = some (.ins c ds) ∧ Q d' (uL l2 a (.ins c ds'))
  have h1 : WE X (.Attribute e f pos) σ H (LK X.K F Fr Q1) := by
    refine (pe_fld peW hb).we ?_
    refine (h F Fr env l σ H _ hE hR ht).mono fun x H1 ⟨F1, d, l1, s1, r1, R1, q1⟩ => ?_
    obtain ⟨a, ds, dx, vs, rfl, rfl, q, ho, rr, hl, hH⟩ := atIns_ok hC R1 r1 q1
    obtain ⟨d, hd, q⟩ := nthK_ok q
    obtain ⟨v, hv, rv⟩ := rr.get hd
    cases d with
    | ref b => exact ⟨a, C, dx, _, v, rfl, hH, cl, na, lookup_zip nd hf hv, F1, .ref b, l1, s1, rv, R1, a, ds, b, rfl, ho, hd, q⟩
    | _ => exact q.elim
  refine thn (h1 pins s I) fun u s1 ⟨v, H1, I1, rv, F1, d, l1, s1', r1, R1, a, ds, b, eb, ho, hd, q⟩ => ?_
  subst eb
  obtain ⟨H2, F2, d2, l2, I2, s2, R2, r2, q2⟩ := fzN_ok 1 I1 R1 r1 q
  obtain ⟨hi, ho2, q2⟩ := putI_ok q2
  obtain ⟨C2, dx2, vs2, rr2, hC2, hl2, hH2⟩ := (R2.lv _ _ ho2).2
  rw [hC] at hC2
  cases hC2
  refine ⟨v, H2, I2, rv, F2, d2, _, s1'.trans s2, r2, ?_, q2⟩
  obtain ⟨w, hw, rw1⟩ := rr2.get hd
  have same : upd H2 a (.ins C dx2 (c.fs.zip vs2)) = H2 := by
    funext b
    by_cases hb : b = a
    · subst hb; rw [upd_same, hH2]
    · rw [upd_ne hb]
  have ew : w = v := by
    cases r1
    cases rw1
    rfl
  subst ew
  have := R2.write ho2 rfl (u := .ins C dx2 (c.fs.zip vs2)) (show DOk X.K F2 _ a (.ins c (putN ds i d2)) from ⟨C, dx2, _, rr2.putN r2 i, hC, by rw [putN_at hw]; exact hl2, by rw [putN_at hw]; exact upd_same⟩)
  rw [same] at this
  exact this
end
end DL

namespace DL
open PySem PySem.Spec PyProof.Rows L2
/-! ### d.items() of a dict with tuple keys -/
section
variable {X : Cx} {pins : List (Addr × Obj)} {σ : St} {H : Hp} {s : Shared} {d : Addr} {o : Obj}
theorem frzT2 {kvs : List (List Key × V)} (I : Inv X pins σ H s) (h : H d = some (.frz o (.dT kvs))) :
    (d == sysModules) = false ∧ s.heap.get? d = some o ∧ o.ExactDict ∧ ∃ (es : Array DictEntry) (ep : Nat), o.data = .dict es ep ∧ es.size = kvs.length ∧
      ∀ (i : Nat) (k : List Key) (v : V), kvs[i]? = some (k, v) → ∃ (en : DictEntry) (q : Addr), es[i]? = some en ∧ en.key = .ref q ∧ H q = some (.tup (k.map kV)) ∧ RelV v en.val := by
  obtain ⟨hd, z, hs, xs, pr, o', es, ep, ho, hx, hdt, he, _⟩ := I.hok d _ h
  rw [hd] at ho
  cases ho
  refine ⟨hs, hd, hx, es, ep, hdt, ?_, fun i k v e => ?_⟩
  · have l1 : es.size = xs.length := size_of_entries he
    have l2 : kvs.length = xs.length := Paired.length pr
    omega
  · obtain ⟨b, hb, e1, e2, e3⟩ := L2.paired_get pr e
    have q := entry_at he i
    rw [hb] at q
    exact ⟨_, b.2.1, q, rfl, e2, e3⟩
end
def Itit (d : Addr) (o : Obj) (kvs : List (List Key × V)) : It :=
  ⟨fun i H => H d = some (.frz o (.dT kvs)) ∧ i < kvs.length, fun i H x H' => ∃ T q k v, kvs[i]? = some (k, v) ∧ x = .ref T ∧ H T = none ∧ H q = some (.tup (k.map kV)) ∧ H' = upd H T (.tup [.ref q, v]), fun i H => H d = some (.frz o (.dT kvs)) ∧ kvs.length ≤ i⟩
theorem turn_itemsT {P : Program} {w : World} {K : PySem.W.Frag} {d : Addr} {o : Obj} {es : Array DictEntry} {ep : Nat} {kvs : List (List Key × V)} {elts : List Expr} {kk : Nat} {tpos : Pos} (it : Addr) (hod : o.data = .dict es ep) (hsz : es.size = kvs.length) :
    Turn P w K (.Tuple elts kk tpos) (Itit d o kvs) [it] it (fun i h => ∃ ok ov, IsItemIter h it d i es.size ep ok ov) where
  mem := by simp
  obj := fun i h st b hb => by
    have e : b = it := by simpa using hb
    subst e
    obtain ⟨ok, ov, e⟩ := st
    exact ⟨_, e, fun v z => nomatch z⟩
  keep := fun i h h' st k => let ⟨ok, ov, e⟩ := st; ⟨ok, ov, k it (by simp) _ e⟩
  item := by
    intro X hP hw hK hc i pins s σ H E I hf st hg
    subst hP hw hK
    obtain ⟨hd, hi⟩ := hg
    obtain ⟨hs, hgd, hx, es', ep', hdt, hsz', ent⟩ := frzT2 I hd
    obtain ⟨rfl, rfl⟩ := dict_ep hod hdt
    obtain ⟨⟨k, v⟩, hkv⟩ : ∃ p, kvs[i]? = some p := ⟨kvs[i], List.getElem?_eq_getElem hi⟩
    obtain ⟨en, q, hen, hkey, hq, rv⟩ := ent i k v hkv
    obtain ⟨ok, ov, he⟩ := st
    have hlt : it < s.heap.objs.size := Heap.lt_size he
    have hie : i < es'.size := by omega
    have een : es'[i] = en := by
      rw [Array.getElem?_eq_getElem hie] at hen
      exact Option.some.inj hen
    refine DT.nextI he ⟨o, hgd, hx, hdt⟩ hie fun h' ho hT hz hk => ?_
    rw [een] at ho hT
    refine ⟨_, rfl, wpAny_letOwnedTupleGo_items (s := { s with heap := h' }) ho fun h'' he' sb => ?_⟩
    have hT2 : h''.get? s.heap.objs.size = some { cls := .type "tuple", data := .seq #[en.key, en.val] } := (sb.2 _ (Nat.ne_of_gt hlt)).trans hT
    have new : ObjOk X.prog X.w (upd H s.heap.objs.size (.tup [.ref q, v])) h'' s.heap.objs.size (.tup [.ref q, v]) :=
      ⟨by show 2 ≤ sizeLine; decide, [en.key, en.val], .cons hkey (.cons rv .nil), ⟨_, hT2, rfl, _, rfl⟩⟩
    have I1 : Inv X pins σ (upd H s.heap.objs.size (.tup [.ref q, v])) { s with heap := h'' } :=
      I.turnedNew (t' := s.toks) (ch := [it]) (fun b ob hb e => (sb.2 b (by simpa using hb)).trans (hk b ob (by simpa using hb) e)) hf (Nat.le_refl _) new
    refine ⟨.ref s.heap.objs.size, _, I1, rfl, ⟨_, q, k, v, hkv, rfl, I.hok.fresh (Nat.le_refl _), hq, rfl⟩, ⟨_, _, he'⟩, fun b hb => ?_⟩
    have e : b = it := by simpa using hb
    rw [e, upd_ne (Nat.ne_of_lt hlt)]
    exact (hf it (by simp)).1
  done := by
    intro X hP hw hK hc i pins s σ H E I hf st hg
    subst hP hw hK
    obtain ⟨hd, hi⟩ := hg
    obtain ⟨f0, f1, f2, f3, f4, f5⟩ := hf it (by simp)
    obtain ⟨hs, hgd, hx, es', ep', hdt, hsz', ent⟩ := frzT2 I hd
    obtain ⟨rfl, rfl⟩ := dict_ep hod hdt
    obtain ⟨ok, ov, he⟩ := st
    exact DT.endI (I.ok.hd hc) he ⟨o, hgd, hx, hdt⟩ (by omega) fun h' eb => ⟨rfl, I.turned (t' := s.toks) (fun b ob hb e => eb b ob hb e) f0 f1 f3 f4 f5⟩
  self := fun A i s Q E st h => let ⟨_, _, e⟩ := st; PySem.W.kcp_self e h
def keyV : Key → D
  | .inl i => .int i
  | .inr x => .str x
theorem keyV_rel {K : PySem.W.Frag} {F : Hp} (k : Key) : RelD K F (keyV k) (kV k) := by
  cases k with
  | inl i => exact .int i
  | inr x => exact .str x
theorem keysV_rel {K : PySem.W.Frag} {F : Hp} : ∀ k : List Key, RelDs K F (k.map keyV) (k.map kV)
  | [] => .nil
  | k :: ks => .cons (keyV_rel k) (keysV_rel ks)
def itemsD (ks : List (List Key)) (ds : List D) : List D := List.zipWith (fun k d => D.tup [.tup (k.map keyV), d]) ks ds
theorem jok_itemsT {K : PySem.W.Frag} {F : Hp} {p : Addr} {od : Obj} {vs : List V} {ks : List (List Key)} {ds : List D} (h1 : F p = some (.frz od (.dT (ks.zip vs)))) (hl : ks.length = vs.length) (rr : RelDs K F ds vs) : JOk K F (Itit p od (ks.zip vs)) (itemsD ks ds) := by
  intro i F' Fr l H s R
  have hH : H p = some (.frz od (.dT (ks.zip vs))) := R.fz _ _ (s _ _ h1)
  have hz : (ks.zip vs).length = (itemsD ks ds).length := by
    unfold itemsD
    rw [List.length_zip, List.length_zipWith, rr.length]
  refine ⟨fun hi => ⟨hH, by rw [hz]; exact hi⟩, fun d hd => ?_⟩
  have hi : i < (itemsD ks ds).length := (List.getElem?_eq_some_iff.mp hd).1
  refine ⟨⟨hH, by rw [hz]; exact hi⟩, fun x H' ⟨T, q, k, v, e1, e2, nT, hq, e3⟩ => ?_⟩
  subst e2 e3
  obtain ⟨k1, k2⟩ := List.getElem?_zip_eq_some.mp e1
  unfold itemsD at hd
  rw [List.getElem?_zipWith] at hd
  have hk : ks[i]? = some k := k1
  cases hdi : ds[i]? with
  | none => rw [hdi, hk] at hd; cases hd
  | some di =>
    rw [hdi, hk] at hd
    cases hd
    obtain ⟨u, hu, ru⟩ := rr.get hdi
    rw [show vs[i]? = some v from k2] at hu
    cases hu
    obtain ⟨F2, s2, hF2, R2⟩ := R.tupIn hq
    refine ⟨_, s2.trans (same_upd (R2.F_none nT)), relTup (R2.F_none nT) (.cons ?_ (.cons (ru.mono (s.trans s2)) .nil)), R2.laid nT _⟩
    exact .tup hF2 (keysV_rel k)
section
variable {X : Cx} {e : Expr} {te : DTE} {apos cpos tpos pos p : Pos} {elts : List Expr} {kk : Nat}
def iItemsT (te : DTE) : DTI := fun env l R => te env l fun d l1 => match d with
  | .dT ks ds => R (itemsD ks ds) l1
  | _ => False
theorem di_itemsT (h : DE X e te) (hbase : attributeBase e "items" X.env (eval e X.env) = eval e X.env := by rfl) (hline : (apos.endLine == cpos.line) = true := by rfl) :
    DI X (.Tuple elts kk tpos) (.Call (.Attribute e "items" apos) [] [] cpos) (iItemsT te) := by
  refine ⟨?_⟩
  intro F Fr env l σ H R hE hR ht pins s I
  refine wpAny_Call_method (T := "dict") (id := "dict.items") hbase rfl hline PySem.F.plainAttrs_dict PySem.F.slot_dict_items PySem.F.type_dict_items (thn (h F Fr env l σ H _ hE hR ht pins s I) fun u s1 ⟨x, H1, I1, rx, F1, d, l1, s1', rd, R1, q1⟩ => ?_)
  cases rd with
  | @dT d od vs ks ds h1 hl rr =>
    obtain rfl : u = Value.ref d := rx
    have hd : H1 d = some (.frz od (.dT (ks.zip vs))) := R1.fz _ _ h1
    obtain ⟨hs, hgd, hx, es, ep, hdt, hsz, ent⟩ := frzT2 I1 hd
    refine ⟨⟨od, hgd, hx.1⟩, fun b hb => by cases hb; exact ⟨od, hgd, hx.2.1⟩, ?_⟩
    have I2 : Inv X pins σ H1 { s1 with heap := s1.heap.push { cls := .type "dict_items", data := .fields #[.ref d] } } := I1.kept (t' := s1.toks) fun b ob q => Heap.get?_push_of_some _ q
    have raw : DT.Raw s1.heap d es ep := ⟨od, hgd, hx, hdt⟩
    have fin : wpAny (model X.prog X.w) X.A (pyIter (.ref s1.heap.objs.size)) (PIE X pins σ (.Tuple elts kk tpos) (LI X.K F Fr R)) X.xe { s1 with heap := s1.heap.push { cls := .type "dict_items", data := .fields #[.ref d] } } := by
      refine DT.iterI (d := d) (es := es) (ep := ep) ⟨_, Heap.get?_push_size _ rfl, rfl, rfl⟩ (raw.push _) (pi_one (tk := s1.toks) I2 _ (turn_itemsT _ hdt hsz) ⟨.none, .none, ?_⟩ ⟨F1, l1, _, s1', R1, jok_itemsT h1 hl rr, q1⟩)
      exact Heap.get?_push_size _ rfl
    show wpAny _ _ (callWith cpos (.builtin "dict.items") [.ref d] [] []) _ X.xe s1
    exact method_meetsIn PySem.F.slot_dict_items PySem.F.entry_dict_items rfl (PySem.evalArgs_none ⟨rfl, raw.typeIs, PySem.F.args_dict_items_1 _, _, DT.meetsItems (es := es) (ep := ep) hs, raw, fin⟩)
  | _ => exact q1.elim
/-! ### dict(d) of a dict with tuple keys -/
def hashOk (ks : List (List Key)) : Prop := ∀ (P : Program) (w : World), (ks.map (tupleKind (mixKind P w)).hash).Nodup
theorem call_copyT {prog : Program} {w : World} {A : Around} {E : Value → Shared → Prop} {s : Shared} {knd : HeapKind prog w (List Key)} {o : Addr} {more : List (List Key × Addr × Value)} {Q : Value → Shared → Prop} (hu : knd.room A.in1.in1) (hoS : (o == sysModules) = false) (ho : s.heap.DictOfH knd o more) (hsz : more.length ≤ sizeLine)
    (hty : ∀ x ∈ more, s.TypeIs (.ref x.2.1) "tuple") (hap : (more.map fun x => knd.hash x.1).Nodup) (keep : ∀ h' : Heap, (∀ b u, s.heap.get? b = some u → h'.get? b = some u) → ∀ x ∈ more, knd.is h' x.1 x.2.1)
    (h : ∀ h', h'.DictOfH knd s.heap.objs.size more → (∀ b u, s.heap.get? b = some u → h'.get? b = some u) → Q (.ref s.heap.objs.size) { s with heap := h' }) :
    wpAny (model prog w) A (call (.type "dict") [.ref o]) Q E s := by
  refine callType_codes (Q₁ := fun obj s₁ => obj = .ref s.heap.objs.size ∧ s₁ = { s with heap := s.heap.push { cls := .type "dict", data := .dict #[] } }) PySem.F.kt_called_dict (PySem.F.kt_typeCall_dict_1 _) PySem.F.entry_dict_init (kt_code_dict_new _ ⟨rfl, rfl⟩) ?_
  rintro obj s₁ ⟨rfl, rfl⟩
  have k0 : ∀ b u, s.heap.get? b = some u → (s.heap.push { cls := .type "dict", data := .dict #[] }).get? b = some u := fun b u e => Heap.get?_push_of_some _ e
  have hnew : (s.heap.push { cls := .type "dict", data := .dict #[] }).DictOfH knd s.heap.objs.size [] := Heap.DictOfH.new s.heap
  have ho' : (s.heap.push { cls := .type "dict", data := .dict #[] }).DictOfH knd o more := by
    obtain ⟨ob, es, ep, h1, h2, h3, h4, h5, h6⟩ := ho
    exact ⟨ob, es, ep, k0 _ _ h1, h2, h3, h4, keep _ k0, h6⟩
  have hn : (more.map (·.1)).Nodup := let ⟨_, _, _, _, _, _, _, _, hn⟩ := ho; hn
  have hdo : s.heap.objs.size ≠ o := by
    obtain ⟨_, _, _, hg, _⟩ := ho
    exact fun e => absurd (Heap.lt_size hg) (by rw [e]; exact Nat.lt_irrefl _)
  refine ⟨hnew.typeIs, PySem.F.args_dict_init_2 _ _, ?_⟩
  unfold Builtin.«dict.__init__»
  refine wpAny_bind ?_
  unfold Builtin.Dict.selfAndRest
  refine wpAny_bind (wpAny_notOrdered_dict hnew.typeIs ?_)
  show wpAny _ _ (pure (s.heap.objs.size, [Value.ref o])) _ _ _
  refine wpAny_pure ?_
  show wpAny _ _ (Builtin.Dict.updateFrom "dict.__init__" s.heap.objs.size (.ref o) [] .none) _ _ _
  unfold Builtin.Dict.updateFrom
  refine wpAny_bind (wpAny_typeOf ho'.typeIs ?_)
  rw [if_neg (by decide)]
  refine wpAny_bind ?_
  unfold Builtin.Dict.merge
  refine wpAny_bind ?_
  unfold Builtin.Dict.readDirectly
  refine wpAny_bind (wpAny_isInstance ho'.typeIs isSubtype_dict_dict ?_)
  simp only [Bool.not_true, Bool.false_eq_true, if_false]
  refine wpAny_bind (wpAny_specialOf ho'.typeIs PySem.F.slot_dict_iter.lookup (wpAny_pure ?_))
  simp only [beq_self_eq_true, if_true]
  refine wpAny_bind (wpAny_pure ?_)
  refine wpAny_mergeDict_heap (hsz := by simpa using hsz) hu hdo hoS hnew ho' (.inr ⟨fun x hx => ?_, hap⟩) fun h' hd' _ hs' => ?_
  · obtain ⟨ob, e1, e2⟩ := hty x hx
    exact ⟨ob, k0 _ _ e1, e2⟩
  · show wpAny _ _ (Builtin.Dict.addKeywords s.heap.objs.size [] >>= _) _ _ _
    rw [storedAllH_nil_of_nodup more hn] at hd'
    exact wpAny_bind (wpAny_pure (wpAny_pure ⟨rfl, h h' hd' fun b u e => (hs'.2 b (Nat.ne_of_lt (Heap.lt_size e))).trans (k0 _ _ e)⟩))
theorem is_stays {P : Program} {w : World} {h h' : Heap} {k : List Key} {b : Addr} (x : (tupleKind (mixKind P w)).is h k b) (hk : ∀ c u, h.get? c = some u → h'.get? c = some u) : (tupleKind (mixKind P w)).is h' k b :=
  HeapKind.Stays.all (tupleKind_stays (knd := mixKind P w)) h' (fun b o _ e => hk b o e) k b x
theorem kt_upd {H : Hp} {p : Addr} {u : HO} (hp : H p = none) {kvs : List (List Key × V)} {xs : List (List Key × Addr × Value)} (r : KT H kvs xs) : KT (upd H p u) kvs xs :=
  KT.keeps r fun b ys e => by rw [upd_ne (ne_of_none e hp)]; exact e
theorem kt_keys {H : Hp} : ∀ {kvs : List (List Key × V)} {xs : List (List Key × Addr × Value)}, KT H kvs xs → kvs.map (·.1) = xs.map (·.1)
  | _, _, .nil => rfl
  | _, _, .cons h t => by rw [List.map_cons, List.map_cons, kt_keys t, h.1]
theorem kt_mem {H : Hp} : ∀ {kvs : List (List Key × V)} {xs : List (List Key × Addr × Value)}, KT H kvs xs → ∀ x ∈ xs, H x.2.1 = some (.tup (x.1.map kV))
  | _, _, .nil, x, hx => nomatch hx
  | _, _, .cons h t, x, hx => by
    rcases List.mem_cons.mp hx with e | hx
    · subst e; rw [← h.1]; exact h.2.1
    · exact kt_mem t x hx
section
variable {X : Cx}
def rCopyT (P : Program) (w : World) : List V → Hp → VK → Prop := fun vs H Q => ∃ (d : Addr) (kvs : List (List Key × V)), vs = [.ref d] ∧ Rd H d (.dT kvs) ∧ ((kvs.map (·.1)).map (tupleKind (mixKind P w)).hash).Nodup ∧ ∀ p, H p = none → Q (.ref p) (upd H p (.dT kvs))
theorem cr_copyT (hu : X.A.units + 3 < cLine) : CallR X (.type "dict") (rCopyT X.prog X.w) := by
  intro pins s σ H vs us Q I r h
  obtain ⟨d, kvs, rfl, hd, hap, q⟩ := h
  obtain ⟨u, rfl, rx⟩ := vals1 r
  obtain rfl : u = .ref d := rx
  obtain ⟨z, hs, xs, rel, dd⟩ := dt_rd I.hok hd
  have hk := kt_keys rel
  have hl : kvs.length = xs.length := Paired.length rel
  have hp : H s.heap.objs.size = none := I.hok.fresh (Nat.le_refl _)
  refine call_copyT (knd := tupleKind (mixKind X.prog X.w)) (by show X.A.units + 1 + 1 < cLine; omega) hs dd (by rw [← hl]; exact z) (fun x hx => ?_) (by rw [hk] at hap; rw [List.map_map] at hap; exact hap) (fun h' k x hx => is_stays (key_of I.hok (kt_mem rel x hx)) k) fun h' dd' k => ?_
  · obtain ⟨_, its, _, ⟨o, ho, hc, _⟩⟩ := I.hok _ _ (kt_mem rel x hx)
    exact ⟨o, ho, hc⟩
  · obtain ⟨o, es, ep, h1, h2, h3, h4, h5, h6⟩ := dd'
    have hm : (s.heap.objs.size == sysModules) = false := beq_eq_false_iff_ne.mpr (Nat.ne_of_gt I.big)
    exact ⟨.ref s.heap.objs.size, upd H s.heap.objs.size (.dT kvs), I.laid (t' := s.toks) k (Nat.le_refl _) (show ObjOk X.prog X.w _ _ _ (.dT kvs) from ⟨z, hm, xs, kt_upd hp rel, o, es, ep, h1, h2, h3, h4, h6⟩), rfl, q _ hp⟩
/-- the pairs (key, value) of a list -/
def PairT (H : Hp) (p : Addr) (kv : List Key × V) : Prop := ∃ b, H p = some (.tup [.ref b, kv.2]) ∧ H b = some (.tup (kv.1.map kV))
def rDictPT : List V → Hp → VK → Prop := fun vs H Q => ∃ (a : Addr) (ps : List Addr) (kvs : List (List Key × V)), vs = [.ref a] ∧ H a = some (.lst (ps.map V.ref)) ∧ Paired (PairT H) ps kvs ∧ (kvs.map (·.1)).Nodup ∧ ∀ p, H p = none → Q (.ref p) (upd H p (.dT kvs))
theorem pairsT_of {pins : List (Addr × Obj)} {σ : St} {H : Hp} {s : Shared} (I : Inv X pins σ H s) : ∀ {ps : List Addr} {kvs : List (List Key × V)}, Paired (PairT H) ps kvs →
    ∃ xs : List (List Key × Addr × Value), KT H kvs xs ∧ xs.length = ps.length ∧ ∀ (j : Nat) (x : List Key × Addr × Value), xs[j]? = some x → ∃ p, ps[j]? = some p ∧ s.heap.IsTuple p #[.ref x.2.1, x.2.2]
  | [], [], .nil => ⟨[], .nil, rfl, fun j x e => by simp at e⟩
  | p :: ps, kv :: kvs, .cons ⟨b, h1, h2⟩ t => by
    obtain ⟨xs, k1, k2, k3⟩ := pairsT_of I t
    obtain ⟨_, its, rv, it⟩ := I.hok _ _ h1
    cases rv with
    | cons r1 rv =>
      cases rv with
      | cons r2 rv =>
        cases rv
        rename_i u1 u2
        obtain rfl : u1 = Value.ref b := r1
        refine ⟨(kv.1, b, u2) :: xs, .cons ⟨rfl, h2, r2⟩ k1, by rw [List.length_cons, List.length_cons, k2], fun j x e => ?_⟩
        cases j with
        | zero =>
          simp at e
          subst e
          exact ⟨p, rfl, it⟩
        | succ j =>
          simp at e
          obtain ⟨p', e1, e2⟩ := k3 j x e
          exact ⟨p', by simpa using e1, e2⟩
theorem cr_dictPT (hc : X.calm = true) (hu : X.A.units + 3 < cLine) : CallR X (.type "dict") rDictPT := by
  intro pins s σ H vs us Q I r h
  obtain ⟨a, ps, kvs, rfl, ha, hp, hn, q⟩ := h
  obtain ⟨u, rfl, rx⟩ := vals1 r
  obtain rfl : u = .ref a := rx
  obtain ⟨its, rv, pl, hz⟩ := I.list (.inl (.inl ha))
  have ei := refs_at rv
  subst ei
  rw [List.length_map] at hz
  obtain ⟨xs, rel, hl, hpr⟩ := pairsT_of I hp
  obtain ⟨o, n, ho, hcl, hd, hdat⟩ := pl
  have hk := kt_keys rel
  have hnew : H s.heap.objs.size = none := I.hok.fresh (Nat.le_refl _)
  have nd : (xs.map (·.1)).Nodup := by rw [← hk]; exact hn
  let prs : List (Value × Value) := xs.map fun x => (.ref x.2.1, x.2.2)
  let Ts : Nat → Addr := fun j => ps.getD j 0
  have at_ : ∀ (j : Nat) (k v : Value), prs[j]? = some (k, v) → ∃ x : List Key × Addr × Value, xs[j]? = some x ∧ k = Value.ref x.2.1 ∧ v = x.2.2 := fun j k v e => by
    rw [List.getElem?_map] at e
    cases ex : xs[j]? with
    | none => rw [ex] at e; cases e
    | some x => rw [ex] at e; cases e; exact ⟨x, rfl, rfl, rfl⟩
  refine call_dict_pairsH (knd := tupleKind (mixKind X.prog X.w)) (ps := xs) (PairArg.list a (ps.map Value.ref).toArray Ts prs) (I.ok.hd hc) (by show X.A.units + 1 + 1 < cLine; omega) ⟨⟨o, n, ho, hcl, hd, hdat⟩, ?_, ?_⟩ ⟨?_, ?_⟩ (fun h' k x hx => is_stays (key_of I.hok (kt_mem rel x hx)) fun b u e => k b u (Nat.ne_of_lt (Heap.lt_size e)) (fun z => nomatch z) e) ?_ fun h' tk dd' k => ?_
  · show (ps.map Value.ref).toArray.size = prs.length
    rw [List.size_toArray, List.length_map, List.length_map, hl]
  · intro j k v e
    obtain ⟨x, hx, rfl, rfl⟩ := at_ j k v e
    obtain ⟨p, e1, e2⟩ := hpr j x hx
    have eT : Ts j = p := by
      show ps.getD j 0 = p
      rw [List.getD_eq_getElem?_getD, e1]; rfl
    rw [eT]
    exact ⟨by simp [e1], .inl e2⟩
  · show xs.length = prs.length
    rw [List.length_map]
  · intro i key v e
    obtain ⟨x, hx, rfl, rfl⟩ := at_ i key v e
    exact ⟨x.1, x.2.1, hx, rfl⟩
  · show prs.length ≤ sizeLine
    rw [List.length_map, hl]
    exact hz
  · rw [storedAllH_nil_of_nodup xs nd] at dd'
    obtain ⟨o2, es, ep, h1, h2, h3, h4, h5, h6⟩ := dd'
    have hm : (s.heap.objs.size == sysModules) = false := beq_eq_false_iff_ne.mpr (Nat.ne_of_gt I.big)
    exact ⟨.ref s.heap.objs.size, upd H s.heap.objs.size (.dT kvs), I.laid (t' := tk) (fun b u e => k b u (fun z => nomatch z) e) (Nat.le_refl _) (show ObjOk X.prog X.w _ _ _ (.dT kvs) from ⟨by rw [rel.length, hl]; exact hz, hm, xs, kt_upd hnew rel, o2, es, ep, h1, h2, h3, h4, h6⟩), rfl, q _ hnew⟩
/-- len(d) -/
def rLenDT : List V → Hp → VK → Prop := fun xs H Q => ∃ (p : Addr) (kvs : List (List Key × V)), xs = [.ref p] ∧ Rd H p (.dT kvs) ∧ Q (.int ((kvs.length : Nat) : Int)) H
theorem cr_lenDT : CallR X (.builtin "len") rLenDT := by
  intro pins s σ H xs us Q I r h
  obtain ⟨p, kvs, rfl, hp, q⟩ := h
  obtain ⟨u, rfl, rx⟩ := vals1 r
  obtain rfl : u = .ref p := rx
  obtain ⟨z, hd, ys, rel, dd⟩ := dt_rd I.hok hp
  have hl : kvs.length = ys.length := Paired.length rel
  refine call_len_dictH hd dd (by rw [← hl]; rw [sizeLine_eq] at z; omega) ?_
  rw [← hl]
  exact ⟨.int ((kvs.length : Nat) : Int), H, I.tok _, ⟨_, rfl⟩, q⟩
end
/-! the readings -/
def pairsT : List D → Option (List (List Key) × List D)
  | [] => some ([], [])
  | .tup [k, v] :: r => (keyT k).bind fun q => (pairsT r).map fun z => (q :: z.1, v :: z.2)
  | _ => none
theorem pairsT_rel {K : PySem.W.Frag} {F : Hp} : ∀ {xs : List D} {vs : List V} {z : List (List Key) × List D}, RelDs K F xs vs → pairsT xs = some z → ∃ ps us, vs = ps.map V.ref ∧ RelDs K F z.2 us ∧ z.1.length = us.length ∧ Paired (PairT F) ps (z.1.zip us)
  | _, _, z, .nil, h => by cases h; exact ⟨[], [], rfl, .nil, rfl, .nil⟩
  | d :: xs, _, z, .cons r rr, h => by
    cases r with
    | @tup p ws ds h1 rs =>
      cases rs with
      | nil => cases h
      | cons r1 rs =>
        cases rs with
        | nil => cases h
        | cons r2 rs =>
          cases rs with
          | cons _ _ => cases h
          | nil =>
            rename_i k v1 v v2
            rw [pairsT] at h
            cases hk : keyT k with
            | none => rw [hk] at h; cases h
            | some q =>
              rw [hk] at h
              cases hp : pairsT xs with
              | none => rw [hp] at h; cases h
              | some z' =>
                rw [hp] at h
                cases h
                obtain ⟨ps, us, e1, e2, e3, e4⟩ := pairsT_rel rr hp
                subst e1
                obtain ⟨b, rfl, hb⟩ := keyT_rel r1 hk
                exact ⟨p :: ps, v2 :: us, rfl, .cons r2 e2, by rw [List.length_cons, List.length_cons, e3], by rw [List.zip_cons_cons]; exact .cons ⟨b, h1, hb⟩ e4⟩
    | _ => cases h
def kCopyT : List D → LH → DK → Prop := fun ds l Q => match ds with
  | [.dT ks ds] => hashOk ks ∧ newL (.dT ks ds) l Q
  | [.ref a] => getO l a fun o => match o with | .dT ks ds => hashOk ks ∧ newL (.dT ks ds) l Q | _ => False
  | _ => False
theorem newT_ok {K : PySem.W.Frag} {F Fr H : Hp} {l : LH} {Q : DK} {p : Addr} {ks : List (List Key)} {ds : List D} {vs : List V} (np : H p = none) (R : Rep K F Fr l H) (hl : ks.length = vs.length) (rr : RelDs K F ds vs) (q : newL (.dT ks ds) l Q) : LK K F Fr Q (.ref p) (upd H p (.dT (ks.zip vs))) :=
  ⟨F, .ref p, _, Same.refl F, .ref p, R.made np (show DOk K F _ p (.dT ks ds) from ⟨vs, rr, hl, upd_same⟩), q p (R.l_none np)⟩
theorem kCopyT_ok {X : Cx} : KCall X (rCopyT X.prog X.w) kCopyT := by
  intro F Fr l H Q ds vs Q' R rd hq q
  have key : ∀ {p : Addr} {ks : List (List Key)} {ds : List D} {vs : List V}, Rd H p (.dT (ks.zip vs)) → ks.length = vs.length → RelDs X.K F ds vs → hashOk ks ∧ newL (.dT ks ds) l Q → rCopyT X.prog X.w [.ref p] H Q' := by
    rintro p ks ds vs h hl rr ⟨ho, q⟩
    refine ⟨p, _, rfl, h, ?_, fun b nb => hq _ _ (newT_ok nb R hl rr q)⟩
    rw [List.map_fst_zip (by omega)]
    exact ho X.prog X.w
  cases rd with
  | nil => exact q.elim
  | cons r1 rr =>
    cases rr with
    | cons _ _ => cases r1 <;> exact q.elim
    | nil =>
      cases r1 with
      | dT h hl rr => exact key (.inr ⟨_, R.fz _ _ h⟩) hl rr q
      | ref a =>
        obtain ⟨o, ho, q⟩ := q
        cases o with
        | dT ks ds =>
          obtain ⟨vs, rr, hl, hH⟩ := (R.lv _ _ ho).2
          exact key (.inl hH) hl rr q
        | _ => exact q.elim
      | _ => exact q.elim
def kDictPT : List D → LH → DK → Prop := fun ds l Q => match ds with
  | [.lst xs] => ∃ z, pairsT xs = some z ∧ z.1.Nodup ∧ newL (.dT z.1 z.2) l Q
  | _ => False
theorem kDictPT_ok {X : Cx} : KCall X rDictPT kDictPT := by
  intro F Fr l H Q ds vs Q' R rd hq q
  cases rd with
  | nil => exact q.elim
  | cons r1 rr =>
    cases rr with
    | cons _ _ => cases r1 <;> exact q.elim
    | nil =>
      cases r1 with
      | @lst a ws xs h1 rx =>
        obtain ⟨z, hz, nd, q⟩ := q
        obtain ⟨ps, us, e1, e2, e3, e4⟩ := pairsT_rel rx hz
        subst e1
        refine ⟨a, ps, z.1.zip us, rfl, R.fz _ _ h1, ?_, by rw [List.map_fst_zip (by omega)]; exact nd, fun b nb => hq _ _ (newT_ok nb R e3 e2 q)⟩
        have go : ∀ {ps : List Addr} {kvs : List (List Key × V)}, Paired (PairT F) ps kvs → Paired (PairT H) ps kvs := by
          intro ps kvs q
          induction q with
          | nil => exact .nil
          | cons a _ ih =>
            obtain ⟨b, h1, h2⟩ := a
            exact .cons ⟨b, R.fz _ _ h1, R.fz _ _ h2⟩ ih
        exact go e4
      | _ => exact q.elim
def kLenDT : List D → LH → DK → Prop := fun ds l Q => match ds with
  | [.dT ks ds] => Q (.int ks.length) l
  | [.ref a] => getO l a fun o => match o with | .dT ks ds => Q (.int ks.length) l | _ => False
  | _ => False
theorem kLenDT_ok {X : Cx} : KCall X rLenDT kLenDT := by
  intro F Fr l H Q ds vs Q' R rd hq q
  have key : ∀ {p : Addr} {ks : List (List Key)} {ds : List D} {vs : List V}, Rd H p (.dT (ks.zip vs)) → ks.length = vs.length → Q (.int ks.length) l → rLenDT [.ref p] H Q' := by
    intro p ks ds vs h hl q
    refine ⟨p, _, rfl, h, hq _ _ (LK.mk (.int _) R ?_)⟩
    rw [List.length_zip, ← hl, Nat.min_self]
    exact q
  cases rd with
  | nil => exact q.elim
  | cons r1 rr =>
    cases rr with
    | cons _ _ => cases r1 <;> exact q.elim
    | nil =>
      cases r1 with
      | @dT _ _ _ _ ds' h hl rr => exact key (ds := ds') (.inr ⟨_, R.fz _ _ h⟩) hl q
      | ref a =>
        obtain ⟨o, ho, q⟩ := q
        cases o with
        | dT ks ds =>
          obtain ⟨vs, rr, hl, hH⟩ := (R.lv _ _ ho).2
          exact key (ds := ds) (.inl hH) hl q
        | _ => exact q.elim
      | _ => exact q.elim
theorem dL_uL' {l : LH} {b : Addr} {o : DO} (nb : l b = none) : dL (uL l b o) b = l := by
  funext c
  unfold dL
  by_cases hc : c = b
  · subst hc; rw [if_pos rfl, nb]
  · rw [if_neg hc, uL_ne hc]
/-- made and frozen at once -/
theorem fz_newT {l : LH} {ks : List (List Key)} {ds : List D} {Q : DK} (h : Q (.dT ks ds) l) : newL (.dT ks ds) l fun d l1 => fzN 1 d l1 Q := fun a na => ⟨_, uL_same, by rw [dL_uL' na]; exact h⟩
end
end DL

namespace DL
open PySem PySem.Spec PyProof.Rows L2
/-! ### < over data -/
section
variable {X : Cx} {a b e o : Expr} {ta tb te to : DTE} {pos p apos cpos : Pos} {k : Nat}
def rLtD (K : PySem.W.Frag) : R2 := fun x y H Q => ∃ d e, Dp K H x d ∧ Dp K H y e ∧ PySem.W.alike d e = true ∧ d ≠ .none ∧ d.depth ≤ 60 ∧ Q (.bl (PySem.W.dataLt d e)) H
theorem op_ltD (hu : X.A.units + 64 < cLine) : OpR X (compareOp .Lt) (rLtD X.K) := by
  intro pins s σ H x y v u Q I rx ry h
  obtain ⟨d, e, hd, he, ha, hn, hdp, q⟩ := h
  obtain ⟨as, r1⟩ := Dp.reads I d x v hd rx
  obtain ⟨bs, r2⟩ := Dp.reads I e y u he ry
  exact PySem.W.lt_data r1 r2 ha hn (by omega) ⟨.bl _, H, I, rfl, q⟩
def kLtD : D → D → LH → DK → Prop := fun x y l Q => okN 60 x ∧ okN 60 y ∧ PySem.W.alike (toPy x) (toPy y) = true ∧ toPy x ≠ .none ∧ Q (.bl (PySem.W.dataLt (toPy x) (toPy y))) l
theorem kLtD_ok : KOp X (rLtD X.K) kLtD := by
  intro F Fr l H Q d e v u Q' R rd re hq q
  obtain ⟨c1, c2, c3, c4, q⟩ := q
  exact ⟨_, _, RelD.dp R.fz rd c1.1, RelD.dp R.fz re c2.1, c3, c4, c1.2, hq _ _ (LK.mk (.bl _) R q)⟩
def dLtD : DTE → DTE → DTE := dOp kLtD
theorem de_ltD (hr : Room k X.A) (ha : DE X a ta) (hb : DE X b tb) : DE X (.Compare a [.Lt] [b] pos) (dLtD ta tb) := de_cmp (op_ltD (by have := hr.un; omega)) kLtD_ok ha hb (nomark _)
theorem dt_ltD (hr : Room k X.A) (ha : DE X a ta) (hb : DE X b tb) : DT X (.Compare a [.Lt] [b] pos) (dTV (dLtD ta tb)) := dt_cmp (op_ltD (by have := hr.un; omega)) kLtD_ok ha hb (nomark _)
/-! ### x in xs, data; x in s, texts -/
def kInD (neg : Bool) : D → D → LH → DK → Prop := fun x y l Q => resL x l fun x => resL y l fun y => match y with
  | .lst ds => okD x ∧ okD (.lst ds) ∧ Q (.bl ((ds.any fun z => eqD z x) != neg)) l
  | _ => False
theorem any_toPys (ds : List D) (x : D) : ((toPys ds).any fun z => PyData.eqv z (toPy x)) = ds.any fun z => eqD z x := by
  rw [toPys_map, List.any_map]
  rfl
theorem kInD_ok : KOp X (rInD X.K) (kInD false) := by
  intro F Fr l H Q d e v u Q' R rd re hq q
  obtain ⟨d', q, h1⟩ := resL_ok R rd q
  obtain ⟨e', q, h2⟩ := resL_ok R re q
  cases e' with
  | lst ds =>
    obtain ⟨c1, c2, q⟩ := q
    refine ⟨_, _, h1 (SeqAt.canLay_of_shaped c1), h2 (SeqAt.canLay_of_shaped c2), c1, c2, hq _ _ (LK.mk (.bl _) R ?_)⟩
    rw [any_toPys]
    rwa [Bool.bne_false] at q
  | _ => exact q.elim
theorem kNotInD_ok : KOp X (rNotInD X.K) (kInD true) := by
  intro F Fr l H Q d e v u Q' R rd re hq q
  obtain ⟨d', q, h1⟩ := resL_ok R rd q
  obtain ⟨e', q, h2⟩ := resL_ok R re q
  cases e' with
  | lst ds =>
    obtain ⟨c1, c2, q⟩ := q
    refine ⟨_, _, h1 (SeqAt.canLay_of_shaped c1), h2 (SeqAt.canLay_of_shaped c2), c1, c2, hq _ _ (LK.mk (.bl _) R ?_)⟩
    rw [any_toPys]
    rwa [Bool.bne_true] at q
  | _ => exact q.elim
def dInL : DTE → DTE → DTE := dOp (kInD false)
def dNotInL : DTE → DTE → DTE := dOp (kInD true)
theorem de_inL (hr : Room k X.A) (ha : DE X a ta) (hb : DE X b tb) (hm : behindInMarks .In b = false := by rfl) : DE X (.Compare a [.In] [b] pos) (dInL ta tb) := de_cmp (op_inD (by have := hr.un; omega)) kInD_ok ha hb hm
theorem dt_inL (hr : Room k X.A) (ha : DE X a ta) (hb : DE X b tb) (hm : behindInMarks .In b = false := by rfl) : DT X (.Compare a [.In] [b] pos) (dTV (dInL ta tb)) := dt_cmp (op_inD (by have := hr.un; omega)) kInD_ok ha hb hm
theorem de_notInL (hr : Room k X.A) (ha : DE X a ta) (hb : DE X b tb) (hm : behindInMarks .NotIn b = false := by rfl) : DE X (.Compare a [.NotIn] [b] pos) (dNotInL ta tb) := de_cmp (op_notInD (by have := hr.un; omega)) kNotInD_ok ha hb hm
theorem dt_notInL (hr : Room k X.A) (ha : DE X a ta) (hb : DE X b tb) (hm : behindInMarks .NotIn b = false := by rfl) : DT X (.Compare a [.NotIn] [b] pos) (dTV (dNotInL ta tb)) := dt_cmp (op_notInD (by have := hr.un; omega)) kNotInD_ok ha hb hm
def kInS : D → D → LH → DK → Prop := fun x y l Q => match x, y with
  | .str i, .str j => Q (.bl (!(Builtin.Str.occurrences j i 0 j.length 1).isEmpty)) l
  | _, _ => False
theorem kInS_ok : KOp X (fun x y H Q => ∃ i j, x = .str i ∧ y = .str j ∧ Q (.bl (!(Builtin.Str.occurrences j i 0 j.length 1).isEmpty)) H) kInS := by
  intro F Fr l H Q d e v u Q' R rd re hq q
  cases rd <;> try exact q.elim
  cases re <;> try exact q.elim
  exact ⟨_, _, rfl, rfl, hq _ _ (LK.mk (.bl _) R q)⟩
def dInS : DTE → DTE → DTE := dOp kInS
theorem de_inS (ha : DE X a ta) (hb : DE X b tb) (hm : behindInMarks .In b = false := by rfl) : DE X (.Compare a [.In] [b] pos) (dInS ta tb) := de_cmp op_in_str kInS_ok ha hb hm
theorem dt_inS (ha : DE X a ta) (hb : DE X b tb) (hm : behindInMarks .In b = false := by rfl) : DT X (.Compare a [.In] [b] pos) (dTV (dInS ta tb)) := dt_cmp op_in_str kInS_ok ha hb hm
/-! ### str of an int too -/
def rStr2 (K : PySem.W.Frag) : List V → Hp → VK → Prop := fun xs H Q => (∃ i, xs = [.int i] ∧ i.natAbs.log2 < 1920 ∧ Q (.str (toString i)) H) ∨ rStr K xs H Q
def kStr2 : List D → LH → DK → Prop := fun ds l Q => match ds with
  | [.int i] => i.natAbs.log2 < 1920 ∧ Q (.str (toString i)) l
  | ds => kStr ds l Q
theorem kStr2_ok : KCall X (rStr2 X.K) kStr2 := by
  intro F Fr l H Q ds vs Q' R rd hq q
  cases rd with
  | nil => exact q.elim
  | @cons d v ds' vs' r1 rr =>
    cases rr with
    | cons _ _ => cases d <;> exact q.elim
    | nil =>
      cases r1 with
      | int i => exact .inl ⟨i, rfl, q.1, hq _ _ (LK.mk (.str _) R q.2)⟩
      | non => exact .inr (kStr_ok F Fr l H Q _ _ Q' R (.cons .non .nil) hq q)
      | bl b => exact .inr (kStr_ok F Fr l H Q _ _ Q' R (.cons (.bl b) .nil) hq q)
      | str b => exact .inr (kStr_ok F Fr l H Q _ _ Q' R (.cons (.str b) .nil) hq q)
      | ref b => exact .inr (kStr_ok F Fr l H Q _ _ Q' R (.cons (.ref b) .nil) hq q)
      | tup h1 h2 => exact .inr (kStr_ok F Fr l H Q _ _ Q' R (.cons (.tup h1 h2) .nil) hq q)
      | scr h1 => exact .inr (kStr_ok F Fr l H Q _ _ Q' R (.cons (.scr h1) .nil) hq q)
      | lst h1 h2 => exact .inr (kStr_ok F Fr l H Q _ _ Q' R (.cons (.lst h1 h2) .nil) hq q)
      | dT h1 h2 h3 => exact .inr (kStr_ok F Fr l H Q _ _ Q' R (.cons (.dT h1 h2 h3) .nil) hq q)
      | dK h1 h2 h3 => exact .inr (kStr_ok F Fr l H Q _ _ Q' R (.cons (.dK h1 h2 h3) .nil) hq q)
      | exc h1 h2 => exact .inr (kStr_ok F Fr l H Q _ _ Q' R (.cons (.exc h1 h2) .nil) hq q)
      | exc1 h1 h2 h3 h4 => exact .inr (kStr_ok F Fr l H Q _ _ Q' R (.cons (.exc1 h1 h2 h3 h4) .nil) hq q)
theorem de_str2 (hr : Room k X.A) (hgd : X.A.guards = some []) (hg : Gl X "str") (hm : X.mg "str" = none) (h : DE X e te) (he : starEach [e] X.env = (false, eval e X.env) :: starEach [] X.env := by rfl) : DE X (.Call (.Name "str" p) [e] [] pos) (dCall kStr2 (aCons te aNil)) :=
  de_callT (call_str_int.or (call_strSeq hr hgd)) kStr2_ok hg hm (by decide +kernel) (da_cons h da_nil he) (by decide) (by decide) he
/-! ### xs.index(x) -/
def dIndex (to te : DTE) : DTE := fun env l Q => to env l fun x l1 => match x with
  | .lst ds => te env l1 fun y l2 => okD (.lst ds) ∧ okD y ∧ ∃ (j : Nat) (z : D), ds[j]? = some z ∧ eqD z y = true ∧ (∀ (m : Nat) (z' : D), m < j → ds[m]? = some z' → eqD z' y = false) ∧ Q (.int (j : Nat)) l2
  | _ => False
theorem de_index (hr : Room k X.A) (ho : DE X o to) (h : DE X e te)
    (hbase : attributeBase o "index" X.env (eval o X.env) = eval o X.env := by rfl)
    (hfew : ((backTo cpos (starEach [e] X.env)).all (fun x => !x.1) && (backToKw cpos (keywordEach [] X.env)).all (fun x => x.1.isSome)
      && decide (([e] : List Expr).length + ([] : List Keyword).length + (if ([] : List Keyword).isEmpty then 0 else 1) < 30)) = true := by rfl)
    (hline : (apos.endLine == cpos.line) = true := by rfl) (hs : starEach [e] X.env = (false, eval e X.env) :: starEach [] X.env := by rfl) (hplain : (backTo cpos (starEach [] X.env)).any (·.1) = false := by rfl) :
    DE X (.Call (.Attribute o "index" apos) [e] [] cpos) (dIndex to te) := by
  refine ⟨?_⟩
  intro F Fr env l σ H Q hE hR ht
  refine (pe_bm PySem.F.plainAttrs_list PySem.F.slot_list_index PySem.F.type_list_index (mt_indexD (by have := hr.un; omega)) peW paW hbase hfew hline hs hplain).we ?_
  refine (ho F Fr env l σ H _ hE hR ht).mono fun x H1 ⟨F1, d, l1, s1, r1, R1, q1⟩ => ?_
  cases r1 with
  | @lst a vs ds h1 rr =>
    refine ⟨.inl ⟨rfl, vs, .inl (.inl (R1.fz _ _ h1))⟩, ?_⟩
    let P : D → LH → Prop := fun y l2 => okD (.lst ds) ∧ okD y ∧ ∃ (j : Nat) (z : D), ds[j]? = some z ∧ eqD z y = true ∧ (∀ (m : Nat) (z' : D), m < j → ds[m]? = some z' → eqD z' y = false) ∧ Q (.int (j : Nat)) l2
    refine (da_cons h da_nil hs F1 Fr env l1 σ H1 (fun ys l2 => ∃ y, ys = [y] ∧ P y l2) (hE.mono s1) R1 ?_).mono fun vs H2 ⟨F2, ys, l2, s2, r2, R2, y, e2, c1, c2, j, z, hz, hj, hno, q3⟩ => ?_
    · have e : (fun (y : D) (l2 : LH) => ∃ z, [y] = [z] ∧ P z l2) = P := by
        funext y l2
        refine propext ⟨fun ⟨z, e, h⟩ => by cases e; exact h, fun h => ⟨y, rfl, h⟩⟩
      show te env l1 fun y l2 => ∃ z, [y] = [z] ∧ P z l2
      rw [e]
      exact q1
    · subst e2
      obtain ⟨v, rfl, rv⟩ := r2.one
      have c3 := SeqAt.canLay_of_shaped c1
      have c4 := SeqAt.canLay_of_shaped c2
      refine ⟨a, v, toPy y, toPys ds, j, toPy z, rfl, rfl, RelD.dp R2.fz (.lst (s2 _ _ h1) (rr.mono s2)) c3, RelD.dp R2.fz rv c4, c1, c2, toPys_get hz, hj, fun m z' hm hz' => ?_, (LK.mk (.int _) R2 q3).weak (s1.trans s2)⟩
      rw [toPys_map, List.getElem?_map] at hz'
      cases hd : ds[m]? with
      | none => rw [hd] at hz'; cases hz'
      | some d' =>
        rw [hd] at hz'
        cases hz'
        exact hno m d' hm hd
  | _ => exact q1.elim
/-! ### len, of dicts too -/
def kLen2 : List D → LH → DK → Prop := fun ds l Q => match ds with
  | [.dT ks _] => Q (.int ks.length) l
  | [.ref a] => getO l a fun o => match o with | .dT ks _ => Q (.int ks.length) l | .lst xs => Q (.int xs.length) l | _ => False
  | ds => kLen ds l Q
theorem kLen2_ok : KCall X (fun xs H Q => ((∃ p ys, xs = [.ref p] ∧ (SqL X.K H p ys ∨ SqT X.K H p ys) ∧ Q (.int ys.length) H) ∨ ∃ z, xs = [.str z] ∧ z.length ≤ sizeLine ∧ Q (.int z.length) H) ∨ rLenDT xs H Q) kLen2 := by
  intro F Fr l H Q ds vs Q' R rd hq q
  have old : ∀ {ds : List D} {vs : List V}, RelDs X.K F ds vs → kLen ds l Q → ((∃ p ys, vs = [.ref p] ∧ (SqL X.K H p ys ∨ SqT X.K H p ys) ∧ Q' (.int ys.length) H) ∨ ∃ z, vs = [.str z] ∧ z.length ≤ sizeLine ∧ Q' (.int z.length) H) ∨ rLenDT vs H Q' := fun r q => .inl (kLen_ok F Fr l H Q _ _ Q' R r hq q)
  cases rd with
  | nil => exact old .nil q
  | @cons d v ds' vs' r1 rr =>
    cases rr with
    | cons r2 rr =>
      have := old (.cons r1 (.cons r2 rr)) (by cases d <;> exact q)
      exact this
    | nil =>
      cases r1 with
      | @dT _ _ _ _ ds' h hl rr => exact .inr (kLenDT_ok F Fr l H Q _ _ Q' R (.cons (.dT h hl rr) .nil) hq q)
      | ref a =>
        obtain ⟨o, ho, q⟩ := q
        cases o with
        | dT ks ds => exact .inr (kLenDT_ok F Fr l H Q _ _ Q' R (.cons (.ref a) .nil) hq ⟨_, ho, q⟩)
        | lst xs => exact old (.cons (.ref a) .nil) ⟨_, ho, q⟩
        | _ => exact q.elim
      | non => exact old (.cons .non .nil) q
      | bl b => exact old (.cons (.bl b) .nil) q
      | int i => exact old (.cons (.int i) .nil) q
      | str b => exact old (.cons (.str b) .nil) q
      | tup h1 h2 => exact old (.cons (.tup h1 h2) .nil) q
      | scr h1 => exact old (.cons (.scr h1) .nil) q
      | lst h1 h2 => exact old (.cons (.lst h1 h2) .nil) q
      | dK h1 h2 h3 => exact old (.cons (.dK h1 h2 h3) .nil) q
      | exc h1 h2 => exact old (.cons (.exc h1 h2) .nil) q
      | exc1 h1 h2 h3 h4 => exact old (.cons (.exc1 h1 h2 h3 h4) .nil) q
theorem de_len2 (hg : Gl X "len") (hm : X.mg "len" = none) (h : DE X e te) (he : starEach [e] X.env = (false, eval e X.env) :: starEach [] X.env := by rfl) : DE X (.Call (.Name "len" p) [e] [] pos) (dCall kLen2 (aCons te aNil)) :=
  de_callB (call_len2.or cr_lenDT) kLen2_ok hg hm PySem.boot_len (da_cons h da_nil he) (by decide) (by decide) he
theorem da_consT {a : List Expr} {b : Nat} {c : Pos} {es : List Expr} {te : DTE} {u : DTA} (ha : DE X (.Tuple a b c) te) (hr : DA X es u) : DA X (.Tuple a b c :: es) (aCons te u) := da_cons ha hr rfl
theorem da_consL {a : List Expr} {c : Pos} {es : List Expr} {te : DTE} {u : DTA} (ha : DE X (.List a c) te) (hr : DA X es u) : DA X (.List a c :: es) (aCons te u) := da_cons ha hr rfl
end
end DL

namespace DL
open PySem PySem.Spec PyProof.Rows L2
/-! ### written data, as one -/
def litL (f : Expr → D → Bool) : List Expr → List D → Bool
  | [], [] => true
  | e :: es, d :: ds => f e d && litL f es ds
  | _, _ => false
def litN : Nat → Expr → D → Bool
  | n + 1, .Tuple es _ _, .tup ds => decide (es.length ≤ 1000) && litL (litN n) es ds
  | n + 1, .List es _, .lst ds => decide (es.length ≤ 1000) && litL (litN n) es ds
  | _, .Constant (.int i) _ _, .int j => decide (i = j)
  | _, .Constant (.bool i) _ _, .bl j => i == j
  | _, .Constant (.str i) _ _, .str j => decide (i = j)
  | _, .Constant .none _ _, .non => true
  | _, .UnaryOp .USub (.Constant (.int i) _ _) _, .int j => decide (-i = j)
  | _, _, _ => false
section
variable {X : Cx}
abbrev LitOk (X : Cx) (e : Expr) (d : D) : Prop := DE X e (dC d) ∧ ∀ es, starEach (e :: es) X.env = (false, eval e X.env) :: starEach es X.env
theorem litL_ok {f : Expr → D → Bool} (hf : ∀ {e : Expr} {d : D}, f e d = true → LitOk X e d) : ∀ {es : List Expr} {ds : List D}, litL f es ds = true → es.length = ds.length ∧ DA X es (fun _ l Q => Q ds l)
  | [], [], _ => ⟨rfl, da_nil⟩
  | [], _ :: _, h => by cases h
  | _ :: _, [], h => by cases h
  | e :: es, d :: ds, h => by
    rw [litL, Bool.and_eq_true] at h
    obtain ⟨h1, h2⟩ := hf h.1
    obtain ⟨h3, h4⟩ := litL_ok hf h.2
    exact ⟨by rw [List.length_cons, List.length_cons, h3], da_cons h1 h4 (h2 es)⟩
theorem litN_ok : ∀ (n : Nat) {e : Expr} {d : D}, litN n e d = true → LitOk X e d := by
  intro n
  induction n with
  | zero =>
    intro e d h
    unfold litN at h
    split at h
    · exact absurd ‹0 = Nat.succ _› (by omega)
    · exact absurd ‹0 = Nat.succ _› (by omega)
    · obtain rfl := of_decide_eq_true h; exact ⟨de_int, fun _ => rfl⟩
    · obtain rfl := beq_iff_eq.mp h; exact ⟨de_bl, fun _ => rfl⟩
    · obtain rfl := of_decide_eq_true h; exact ⟨de_str, fun _ => rfl⟩
    · exact ⟨de_non, fun _ => rfl⟩
    · obtain rfl := of_decide_eq_true h; exact ⟨de_neg de_int, fun _ => rfl⟩
    · cases h
  | succ n ih =>
    have T : ∀ {es : List Expr} {k : Nat} {pos : Pos} {ds : List D}, (decide (es.length ≤ 1000) && litL (litN n) es ds) = true → DE X (.Tuple es k pos) (dC (.tup ds)) := by
      intro es k pos ds h
      rw [Bool.and_eq_true, decide_eq_true_eq] at h
      obtain ⟨h1, h2⟩ := litL_ok ih h.2
      exact ⟨fun F Fr env l σ H Q hE hR ht => (de_tup h2).run F Fr env l σ H Q hE hR ⟨Nat.le_trans (by omega) (show 1000 ≤ sizeLine by decide), ht⟩⟩
    have L : ∀ {es : List Expr} {pos : Pos} {ds : List D}, (decide (es.length ≤ 1000) && litL (litN n) es ds) = true → DE X (.List es pos) (dC (.lst ds)) := by
      intro es pos ds h
      rw [Bool.and_eq_true, decide_eq_true_eq] at h
      obtain ⟨h1, h2⟩ := litL_ok ih h.2
      exact ⟨fun F Fr env l σ H Q hE hR ht => (de_lst h2).run F Fr env l σ H Q hE hR ⟨Nat.le_trans (by omega) (show 1000 ≤ sizeLine by decide), ht⟩⟩
    intro e d h
    unfold litN at h
    split at h
    · have hn := ‹n + 1 = Nat.succ _›
      cases hn
      exact ⟨T h, fun _ => rfl⟩
    · have hn := ‹n + 1 = Nat.succ _›
      cases hn
      exact ⟨L h, fun _ => rfl⟩
    · obtain rfl := of_decide_eq_true h; exact ⟨de_int, fun _ => rfl⟩
    · obtain rfl := beq_iff_eq.mp h; exact ⟨de_bl, fun _ => rfl⟩
    · obtain rfl := of_decide_eq_true h; exact ⟨de_str, fun _ => rfl⟩
    · exact ⟨de_non, fun _ => rfl⟩
    · obtain rfl := of_decide_eq_true h; exact ⟨de_neg de_int, fun _ => rfl⟩
    · cases h
theorem de_lit {e : Expr} {d : D} (n : Nat) (h : litN n e d = true) : DE X e (dC d) := (litN_ok n h).1
end
end DL

namespace DL
open PySem PySem.Spec PyProof.Rows L2
/-! ### list.insert -/
section
variable {X : Cx}
def kInsert : Addr → List D → LH → DK → Prop := fun a ds l Q => match ds with
  | [.int i, d] => getO l a fun u => match u with | .lst xs => (xs.length < sizeLine ∧ 0 ≤ i ∧ i < 2 ^ 63) ∧ Q .non (uL l a (.lst (xs.take i.toNat ++ [d] ++ xs.drop i.toNat))) | _ => False
  | _ => False
def rInsert : V → List V → Hp → VK → Prop := fun x vs H Q => ∃ (l : Addr) (xs : List V) (i : Int) (y : V), x = .ref l ∧ vs = [.int i, y] ∧ H l = some (.lst xs) ∧ xs.length < sizeLine ∧ 0 ≤ i ∧ i < 2 ^ 63 ∧
    Q .non (upd H l (.lst (xs.take i.toNat ++ [y] ++ xs.drop i.toNat)))
theorem kInsert_ok : KMt X rInsert kInsert := by
  intro F Fr l H Q a ds vs Q' R rd hq q
  cases rd with
  | nil => exact q.elim
  | cons r1 rr =>
    cases r1 with
    | @int i =>
      cases rr with
      | nil => exact q.elim
      | cons r2 r3 =>
        cases r3 with
        | cons _ _ => exact q.elim
        | nil =>
          obtain ⟨u, ho, q⟩ := q
          cases u with
          | lst xs =>
            obtain ⟨ws, rw', h1⟩ := (R.lv _ _ ho).2
            exact ⟨a, ws, i, _, rfl, rfl, h1, by rw [← rw'.length]; exact q.1.1, q.1.2.1, q.1.2.2, hq _ _ (LK.wr R ho rfl (((rw'.take _).append (.cons r2 .nil)).append (rw'.drop _)) .non q.2)⟩
          | _ => exact q.elim
    | _ => exact q.elim
/-! ### list(range(n)) -/
def dLstRg1 (ta : DTE) : DTE := fun env l Q => ta env l fun d l1 => match d with
  | .int n => (0 ≤ n ∧ n ≤ 16000000) ∧ Q (.lst (rgD 0 n.toNat)) l1
  | _ => False
theorem relDs_rg {K : PySem.W.Frag} {F : Hp} (f : Nat → Int) : ∀ (xs : List Nat), RelDs K F (xs.map fun k => D.int (f k)) (xs.map fun k => V.int (f k))
  | [] => .nil
  | x :: xs => .cons (.int _) (relDs_rg f xs)
theorem de_listRg1 {e : Expr} {ta : DTE} {p p2 pos pos2 : Pos} (hc : X.calm = true) (hg : Gl X "list") (hm : X.mg "list" = none) (hg2 : Gl X "range") (hm2 : X.mg "range" = none) (ha : DE X e ta)
    (na : starEach [.Call (.Name "range" p2) [e] [] pos2] X.env = (false, eval (.Call (.Name "range" p2) [e] [] pos2) X.env) :: starEach [] X.env := by rfl) (na2 : starEach [e] X.env = (false, eval e X.env) :: starEach [] X.env := by rfl) :
    DE X (.Call (.Name "list" p) [.Call (.Name "range" p2) [e] [] pos2] [] pos) (dLstRg1 ta) := by
  refine ⟨?_⟩
  intro F Fr env l σ H Q he hR ht
  refine (pe_listRg hc hg hm (prg_1 hg2 hm2 peW na2) na).we ?_
  refine (ha F Fr env l σ H _ he hR ht).mono fun x H1 ⟨F1, d, l1, s1, r1, R1, q1⟩ => ?_
  cases r1 <;> try exact q1.elim
  refine ⟨_, rfl, .of_le (by omega) (by omega) (by omega) (by omega), fun q hq => ?_⟩
  rename_i n _
  have e1 : (n - 0).toNat = n.toNat := by rw [Int.sub_zero]
  have e2 : rgV 0 n = (List.range n.toNat).map fun k => V.int (0 + (k : Nat)) := by unfold rgV; rw [e1]
  rw [e2]
  exact (LK.lst hq R1 (relDs_rg (fun k => 0 + ((k : Nat) : Int)) (List.range n.toNat)) q1.2).weak s1
/-! ### range downwards -/
theorem room3 {k : Nat} {A : Around} (hr : Room k A) : A.units + 3 < cLine := by have := hr.un; omega
def rgDn (hi : Int) (n : Nat) : List D := (List.range n).map fun i => D.int (hi + (i : Nat) * (-1))
theorem jok_rngDn {K : PySem.W.Frag} {F : Hp} (lo : Int) (n : Nat) : JOk K F (Itc lo (-1) n) (rgDn lo n) := by
  intro i F' Fr l H s R
  refine ⟨fun hi => by
    show n ≤ i
    simpa [rgDn] using hi, fun d hd => ?_⟩
  have hi : i < n := by
    have := (List.getElem?_eq_some_iff.mp hd).1
    simpa [rgDn] using this
  refine ⟨hi, fun x H' y => ?_⟩
  obtain ⟨e, y⟩ := y
  subst e y
  have e : d = .int (lo + (i : Nat) * (-1)) := by
    unfold rgDn at hd
    rw [List.getElem?_map, List.getElem?_range hi] at hd
    exact (Option.some.inj hd).symm
  subst e
  exact ⟨F', Same.refl _, .int _, R⟩
def iRg3 (ta : DTA) : DTI := fun env l R => ta env l fun ds l1 => match ds with
  | [.int i, .int j, .int c] => (c = -1 ∧ -(2 ^ 62) ≤ i ∧ i < 2 ^ 62 ∧ -(2 ^ 62) ≤ j ∧ j < 2 ^ 62) ∧ R (rgDn i (i - j).toNat) l1
  | _ => False
theorem di_range3 {tg a b c : Expr} {ta : DTA} {p pos : Pos} (hg : Gl X "range") (hm : X.mg "range" = none) (ha : DA X [a, b, c] ta)
    (hs : starEach [a, b, c] X.env = (false, eval a X.env) :: starEach [b, c] X.env := by rfl) (hpl : (backTo pos (starEach [b, c] X.env)).any (·.1) = false := by rfl) : DI X tg (.Call (.Name "range" p) [a, b, c] [] pos) (iRg3 ta) := by
  refine ⟨?_⟩
  intro F Fr env l σ H R he hr ht
  refine (pi_range3 hg hm paW hs hpl).wi ?_
  refine (ha F Fr env l σ H _ he hr ht).mono fun vs H1 ⟨F1, ds, l1, s1, r1, R1, q1⟩ => ?_
  cases r1 with
  | nil => exact q1.elim
  | cons ra rr =>
    cases ra <;> try (cases rr <;> exact q1.elim)
    cases rr with
    | nil => exact q1.elim
    | cons rb rr =>
      cases rb <;> try (cases rr <;> exact q1.elim)
      cases rr with
      | nil => exact q1.elim
      | cons rc rr =>
        cases rr with
        | cons _ _ => cases rc <;> exact q1.elim
        | nil =>
          cases rc <;> try exact q1.elim
          obtain ⟨⟨e, a1, a2, a3, a4⟩, q2⟩ := q1
          subst e
          exact ⟨_, _, _, _, rfl, RgC.neg a1 a2 a3 a4, F1, l1, _, s1, R1, jok_rngDn _ _, q2⟩
/-! ### for over a list that may be written, as long as it stays -/
def forR (a : Addr) (all : List D) (g : DTG) (tb : DTS) : List D → DTS
  | [], E, env, l => l a = some (.lst all) ∧ E.nx env l
  | d :: ds, E, env, l => l a = some (.lst all) ∧ g d env l fun env1 l1 => tb ⟨forR a all g tb ds E, E.rt, E.nx, forR a all g tb ds E⟩ env1 l1
theorem forR_at {a : Addr} {all : List D} {g : DTG} {tb : DTS} {ds : List D} {E : DEnds} {env : DSt} {l : LH} (h : forR a all g tb ds E env l) : l a = some (.lst all) := by
  cases ds <;> exact h.1
def sForR (te : DTE) (g : DTG) (tb : DTS) : DTS := fun E env l => te env l fun d l1 => match d with
  | .lst ds => forL g tb ds E env l1
  | .tup ds => forL g tb ds E env l1
  | .ref a => getO l1 a fun o => match o with | .lst ds => forR a ds g tb ds E env l1 | _ => False
  | _ => False
def LI2 (K : PySem.W.Frag) (F Fr : Hp) (g : DTG) (tb : DTS) (E : DEnds) (env : DSt) : It → Hp → Prop := fun J H => ∃ F1 l1, Same F F1 ∧ Rep K F1 Fr l1 H ∧
  ((∃ ds, JOk K F1 J ds ∧ forL g tb ds E env l1) ∨ ∃ a ds, J = Itl K a ∧ forR a ds g tb ds E env l1)
theorem ds_forR {tg e : Expr} {body : List Stmt} {te : DTE} {g : DTG} {tb : DTS} {vs : List Nat} (hp : PassesOwn (model X.prog X.w) X.A X.env X.xe) (hc : X.calm = true) (hi : DE X e te) (hg : DG X tg vs g) (hb : DSs X body tb)
    (hs : ∀ x, foldedSetIterable e X.env x = pure x := by intro _; rfl) : DS X (.For tg e body [] pos) (sForR te g tb) := by
  refine ⟨?_⟩
  intro F Fr env l σ H E he hr ht
  refine (ps_for hp hc piW pgW pssW hs).ws ?_
  have w : WI X tg e σ H (LI2 X.K F Fr g tb E env) := fun pins s I => by
    refine thn (hi F Fr env l σ H _ he hr ht pins s I) fun v s1 ⟨x, H1, I1, r1, F1, d, l1, s1', rd, R1, q1⟩ => ?_
    cases rd with
    | @tup p vs ds h1 rr => cases r1; exact it_tup I1 (tq (R1.fz _ _ h1)) ⟨F1, l1, s1', R1, .inl ⟨ds, jok_tup (tq h1) rr, q1⟩⟩
    | @lst p vs ds h1 rr => cases r1; exact it_list I1 (.inl (.inl (R1.fz _ _ h1))) ⟨F1, l1, s1', R1, .inl ⟨ds, jok_list (.inl (.inl h1)) rr, q1⟩⟩
    | ref a =>
      obtain ⟨o, ho, q⟩ := q1
      cases o with
      | lst ds =>
        obtain ⟨ws, rw', h1⟩ := (R1.lv _ _ ho).2
        cases r1
        exact it_list I1 (.inl (.inl h1)) ⟨F1, l1, s1', R1, .inr ⟨a, ds, rfl, q⟩⟩
      | _ => exact q.elim
    | _ => exact q1.elim
  refine w.mono fun J H1 ⟨F1, l1, s1, R1, q1⟩ => ?_
  have body_ok : ∀ {F2 : Hp} {l2 : LH} {σ2 : St} {H2 : Hp} {env2 : DSt} {d : D} {x : V} {Ek : DEnds} {N : St → Hp → Prop}, Same F1 F2 → RepE X.K F2 env2 σ2 → Rep X.K F2 Fr l2 H2 → RelD X.K F2 d x → Ek.rt = E.rt → Ek.bk = E.nx →
      (g d env2 l2 fun env1 l1 => tb Ek env1 l1) → (∀ σ5 H5 F5 env5 l5, Same F2 F5 → RepE X.K F5 env5 σ5 → Rep X.K F5 Fr l5 H5 → (Ek.nx env5 l5 ∨ Ek.ct env5 l5) → N σ5 H5) →
      WG X tg x σ2 H2 fun σ' H' => WSs X body { LE X.K F Fr E with nx := N, ct := N, bk := (LE X.K F Fr E).nx } σ' H' := by
    intro F2 l2 σ2 H2 env2 d x Ek N s2 he2 R2 rx e1 e2 q2 hN
    refine (hg F2 Fr env2 l2 σ2 H2 _ _ _ he2 R2 rx q2).mono fun σ4 H4 ⟨_, F4, env4, l4, s4, he4, R4, q4⟩ => ?_
    have S : Same F1 F4 := s2.trans s4
    refine (hb F4 Fr env4 l4 σ4 H4 _ he4 R4 q4).mono (fun σ5 H5 q => ?_) (fun _ _ q => ?_) (fun _ _ q => ?_) (fun σ5 H5 q => ?_)
    · obtain ⟨F5, env5, l5, s5, he5, R5, q5⟩ := q
      exact hN _ _ F5 env5 l5 (s4.trans s5) he5 R5 (.inl q5)
    · rw [show (LE X.K F4 Fr Ek).rt = LK X.K F4 Fr Ek.rt from rfl, e1] at q
      exact LK.weak (s1.trans S) q
    · rw [show (LE X.K F4 Fr Ek).bk = LS X.K F4 Fr Ek.bk from rfl, e2] at q
      exact LS.weak (s1.trans S) q
    · obtain ⟨F5, env5, l5, s5, he5, R5, q5⟩ := q
      exact hN _ _ F5 env5 l5 (s4.trans s5) he5 R5 (.inr q5)
  rcases q1 with ⟨ds, jk, q1⟩ | ⟨a, ds, ej, q1⟩
  · refine ⟨fun i m σ H => m = ds.length - i ∧ i ≤ ds.length ∧ ∃ F' env l, Same F1 F' ∧ RepE X.K F' env σ ∧ Rep X.K F' Fr l H ∧ forL g tb (ds.drop i) E env l, ⟨_, rfl, Nat.zero_le _, F1, env, l1, Same.refl _, he.mono s1, R1, q1⟩, ?_⟩
    rintro i m σ H ⟨rfl, hi, F2, env, l, s2, he2, R2, q2⟩
    obtain ⟨j1, j2⟩ := jk i F2 Fr l H s2 R2
    by_cases hlt : i < ds.length
    · rw [List.drop_eq_getElem_cons hlt] at q2
      obtain ⟨go, y⟩ := j2 ds[i] (List.getElem?_eq_getElem hlt)
      refine .inr ⟨go, fun σ H => ∃ F' env l, Same F1 F' ∧ RepE X.K F' env σ ∧ Rep X.K F' Fr l H ∧ forL g tb (ds.drop (i + 1)) E env l, fun σ' H' h => ⟨_, by omega, rfl, hlt, h⟩, fun x H' hy => ?_⟩
      obtain ⟨F3, s3, rx, R3⟩ := y x H' hy
      refine body_ok (Ek := ⟨forL g tb (ds.drop (i + 1)) E, E.rt, E.nx, forL g tb (ds.drop (i + 1)) E⟩) (s2.trans s3) (he2.mono s3) R3 rx rfl rfl q2 fun σ5 H5 F5 env5 l5 s5 he5 R5 q5 => ⟨F5, env5, l5, (s2.trans s3).trans s5, he5, R5, by rcases q5 with q5 | q5 <;> exact q5⟩
    · have e : i = ds.length := by omega
      subst e
      rw [List.drop_length] at q2
      exact .inl ⟨j1 (Nat.le_refl _), F2, env, l, s1.trans s2, he2, R2, q2⟩
  · subst ej
    refine ⟨fun i m σ H => m = ds.length - i ∧ i ≤ ds.length ∧ ∃ F' env l, Same F1 F' ∧ RepE X.K F' env σ ∧ Rep X.K F' Fr l H ∧ forR a ds g tb (ds.drop i) E env l, ⟨_, rfl, Nat.zero_le _, F1, env, l1, Same.refl _, he.mono s1, R1, q1⟩, ?_⟩
    rintro i m σ H ⟨rfl, hi, F2, env, l, s2, he2, R2, q2⟩
    obtain ⟨vs, rv, hq⟩ := (R2.lv _ _ (forR_at q2)).2
    have q : SqL X.K H a vs := .inl (.inl hq)
    by_cases hlt : i < ds.length
    · rw [List.drop_eq_getElem_cons hlt] at q2
      obtain ⟨v, hv, rx⟩ := rv.get (List.getElem?_eq_getElem hlt)
      refine .inr ⟨⟨vs, v, q, hv⟩, fun σ H => ∃ F' env l, Same F1 F' ∧ RepE X.K F' env σ ∧ Rep X.K F' Fr l H ∧ forR a ds g tb (ds.drop (i + 1)) E env l, fun σ' H' h => ⟨_, by omega, rfl, hlt, h⟩, fun x H' hy => ?_⟩
      obtain ⟨e, y⟩ := hy
      subst e
      have e := y vs q
      rw [hv] at e
      cases e
      refine body_ok (Ek := ⟨forR a ds g tb (ds.drop (i + 1)) E, E.rt, E.nx, forR a ds g tb (ds.drop (i + 1)) E⟩) s2 he2 R2 rx rfl rfl q2.2 fun σ5 H5 F5 env5 l5 s5 he5 R5 q5 => ⟨F5, env5, l5, s2.trans s5, he5, R5, by rcases q5 with q5 | q5 <;> exact q5⟩
    · have e : i = ds.length := by omega
      subst e
      rw [List.drop_length] at q2
      exact .inl ⟨⟨vs, q, by rw [← rv.length]; exact Nat.le_refl _⟩, F2, env, l, s1.trans s2, he2, R2, q2.2⟩
/-! ### a new list of two, to be changed -/
def kAddM : D → D → LH → DK → Prop := fun x y l Q => match x, y with
  | .lst xs, .lst ys => xs.length + ys.length ≤ sizeLine ∧ newL (.lst (xs ++ ys)) l Q
  | _, _ => False
theorem kAddM_ok : KOp X (rAdd4 X.K) kAddM := by
  intro F Fr l H Q d e v u Q' R rd re hq q
  cases rd with
  | @lst p vs ds h1 r1 =>
    cases re <;> try exact q.elim
    rename_i p2 vs2 ds2 h2 r2
    exact .inr (.inr (.inl ⟨p, p2, vs, vs2, rfl, rfl, R.fz _ _ h1, R.fz _ _ h2, by rw [← r1.length, ← r2.length]; exact q.1, fun p np => hq _ _ (LK.mut np R (r1.append r2) q.2)⟩))
  | _ => exact q.elim
def dAddM : DTE → DTE → DTE := dOp kAddM
theorem de_addM {a b : Expr} {ta tb : DTE} {pos : Pos} (ha : DE X a ta) (hb : DE X b tb) : DE X (.BinOp a .Add b pos) (dAddM ta tb) := de_op op_add4 kAddM_ok ha hb
end
end DL

namespace DL
open PySem PySem.Spec PyProof.Rows L2
/-! the end: the law's def, called by the claim -/
/-- from an abstract heap that tracks at most the script -/
theorem law_core {P : Program} {w : World} {K : PySem.W.Frag} {mg mb : Str → Option Value} {k : Nat} {fa a : Addr} {fd : FuncData} {x : Str} {dsp : DSp} {s1 : Shared} {vs : List Value} {ns : List Int}
    (KX : K.In s1.heap) (hns : s1.heap.Ns mainGlobals mg) (hb : s1.heap.Ns builtinsNs mb) (hbb : ∀ x : Str, x ≠ "__name__" → mb x = bootBuiltins x) (hlim : s1.heap.NoLimit) (hg : s1.gens = #[])
    (ha : s1.heap.get? a = some { cls := .type "list", data := .seq vs.toArray }) (hr : Room k callerA)
    (G : ∀ base : Heap, K.In base → base.Ns mainGlobals mg → FnG P w K mg base k fa fd [x] dsp) (hbind : ∀ (s : Shared) (u : Value), BindsTo s fd ⟨[u], []⟩ [(x, u)])
    (hsp : dsp [.scr ns] (fun _ => none) fun d _ => d = .bl true)
    (H : Hp) (hO : Only H) (hS : SqL K H a (ns.map V.int)) (hok : HOk P w H s1.heap) (hA : ∀ b, H b ≠ none → b = a) (hK : H a ≠ none → K.lookup a = none) :
    codeAny (model P w) callerA (.call (.ref fa) ⟨[.ref a], []⟩) (fun r s' => r = .ok (.ret (.bool true)) ∧ OldK s1.heap s'.heap ∧ s'.os = s1.os ∧ AllBare s'.gens) s1 := by
  have tracked : ∀ {b : Addr}, H b ≠ none → s1.heap.get? b = some { cls := .type "list", data := .seq vs.toArray } := fun {b} h => by rw [hA b h]; exact ha
  have free : ∀ {b : Addr} {o : Obj} {es : Array DictEntry} {ep : Nat}, s1.heap.get? b = some o → o.data = .dict es ep → H b = none := fun {b o es ep} e d => by
    by_cases q : H b = none
    · exact q
    · rw [tracked q] at e
      cases e
      exact nomatch d
  have toBase : ∀ {b : Addr} {m : Str → Option Value}, s1.heap.Ns b m → (hidT s1.heap H).Ns b m := fun ⟨o, es, ep, e, d, r⟩ => ⟨o, es, ep, hidT_get e (free e d), d, r⟩
  have kbase : K.In (hidT s1.heap H) := fun b o e => hidT_get (KX b o e) (by
    by_cases q : H b = none
    · exact q
    · have eb := hA b q
      subst eb
      rw [hK q] at e
      cases e)
  have md : Mod K mg (hidT s1.heap H) := ⟨kbase, toBase hns, ⟨mb, toBase hb, hbb⟩, hlim.elim fun mc h => ⟨mc, toBase h.1, h.2⟩⟩
  have e0 : Env0 P w K mg (hidT s1.heap H) callerA [] s1 H := ⟨rfl, md, fun b o e => of_hidT e, Nat.le_of_eq (hidT_size _ _), trivial, (fun b hb => nomatch (show b ∈ ([] : List Addr) from hb)), hok, .of_eq hg⟩
  have rep : Rep K H (fun _ => none) (fun _ => none) H := ⟨fun _ _ e => e, (fun _ _ e => nomatch e), (fun _ _ e => nomatch e), (fun _ _ e => nomatch e), (fun _ _ e => nomatch e)⟩
  have sp : spOf K dsp [.ref a] H (fun v _ => v = .bl true) L2.E0 := ⟨H, fun _ => none, [.scr ns], fun _ => none, fun d _ => d = .bl true, .cons (.scr hS) .nil, rep, hsp, fun v H' ⟨F', d, l, _, r, _, e⟩ => by subst e; cases r; rfl⟩
  refine codeAny_mono ((G _ kbase (toBase hns)).run callerA [] s1 H ⟨[.ref a], []⟩ [.ref a] [.ref a] _ _ hr rfl e0 (hbind s1 (.ref a)) (.cons rfl .nil) sp) fun r s' h => ?_
  cases r with
  | error e => exact h.elim
  | ok fl =>
    cases fl with
    | next => exact h.elim
    | brk => exact h.elim
    | cont => exact h.elim
    | ret u =>
      obtain ⟨v, H', os, bare, un, hok', rv, q⟩ := h
      replace q : v = .bl true := q
      subst q
      cases (show u = Value.bool true from rv)
      refine ⟨rfl, OldK.of_keep fun b o e => ?_, os, bare⟩
      by_cases q : H b = none
      · exact un.keep b o e q (fun z => nomatch (show b ∈ ([] : List Addr) from z)) (fun z => nomatch (show b ∈ ([] : List Addr) from z))
      · rcases hO b with z | ⟨ob, xs, z⟩
        · exact absurd z q
        · have z1 := (hok b _ z).1
          have z2 := (hok' b _ (un.frzs b ob _ z)).1
          rw [e] at z1
          cases z1
          exact z2
theorem law_callG {P : Program} {w : World} {K : PySem.W.Frag} {mg mb : Str → Option Value} {k : Nat} {fa a : Addr} {fd : FuncData} {x : Str} {dsp : DSp} {s1 : Shared} {vs : List Value} {ns : List Int}
    (KX : K.In s1.heap) (hns : s1.heap.Ns mainGlobals mg) (hb : s1.heap.Ns builtinsNs mb) (hbb : ∀ x : Str, x ≠ "__name__" → mb x = bootBuiltins x) (hlim : s1.heap.NoLimit) (hg : s1.gens = #[])
    (ha : s1.heap.get? a = some { cls := .type "list", data := .seq vs.toArray }) (hi : IntsAre vs ns) (hl : ns.length ≤ sizeLine) (hr : Room k callerA)
    (G : ∀ base : Heap, K.In base → base.Ns mainGlobals mg → FnG P w K mg base k fa fd [x] dsp) (hbind : ∀ (s : Shared) (u : Value), BindsTo s fd ⟨[u], []⟩ [(x, u)])
    (hsp : dsp [.scr ns] (fun _ => none) fun d _ => d = .bl true) :
    codeAny (model P w) callerA (.call (.ref fa) ⟨[.ref a], []⟩) (fun r s' => r = .ok (.ret (.bool true)) ∧ OldK s1.heap s'.heap ∧ s'.os = s1.os ∧ AllBare s'.gens) s1 := by
  have rv := vals_of_ints hi
  have lenV := hi.length
  by_cases hk : K.lookup a = none
  · let H : Hp := upd (fun _ => none) a (.frz { cls := .type "list", data := .seq vs.toArray } (.lst (ns.map V.int)))
    have other : ∀ {b : Addr}, b ≠ a → H b = none := fun h => upd_ne h
    have same : H a = _ := upd_same
    refine law_core KX hns hb hbb hlim hg ha hr G hbind hsp H (fun b => ?_) (.inl (.inr ⟨_, same⟩)) (fun b u z => ?_) (fun b z => ?_) fun _ => hk
    · by_cases e : b = a
      · subst e; exact .inr ⟨_, _, same⟩
      · exact .inl (other e)
    · by_cases e : b = a
      · subst e
        rw [same] at z
        cases z
        exact ⟨ha, by rw [List.length_map]; exact hl, vs, _, rv, ha⟩
      · rw [other e] at z
        cases z
    · by_cases e : b = a
      · exact e
      · exact absurd (other e) z
  · cases q : K.lookup a with
    | none => exact absurd q hk
    | some o =>
      have e := KX a o q
      rw [ha] at e
      cases e
      refine law_core KX hns hb hbb hlim hg ha hr G hbind hsp (fun _ => none) (fun _ => .inl rfl) (.inr ⟨_, vs.toArray, _, q, rfl, rfl, rfl, by rw [List.size_toArray, lenV]; exact hl, by simpa using rv⟩) (fun b u z => nomatch (show (none : Option HO) = some u from z)) (fun b z => absurd rfl z) fun z => absurd rfl z
theorem walk_ofG {l : PySem.W.OpenLaw} {n k : Nat} {q : Program} {loose : List Str} {XP : (Str → Option Value) → Heap → Prop} {YP : World → Heap → Prop} {d : DefRec} {K : Params → PySem.W.Frag} {dsp : DSp} {x : Str}
    (hn : l.most = some n) (hn2 : n ≤ sizeLine) (hdf : d.params.defaults = []) (hr : Room k callerA) (hY : ∀ (w : World) (h : Heap), YP w h → (K w.params).In h)
    (F : ∀ (w : World) (mg : Str → Option Value) (fa : Addr) (h : Heap), (K w.params).In h → h.Ns mainGlobals mg → mg d.name = some (.ref fa) →
      ∃ fd : FuncData, (∀ (s : Shared) (u : Value), BindsTo s fd ⟨[u], []⟩ [(x, u)]) ∧ ∀ base : Heap, (K w.params).In base → base.Ns mainGlobals mg → FnG l.prog w (K w.params) mg base k fa fd [x] dsp)
    (hsp : ∀ ns : List Int, ns.length ≤ n → dsp [.scr ns] (fun _ => none) fun d _ => d = .bl true) :
    PySem.W.WalkO q loose XP YP l.row.toRowW d [] (fun f vs => PySem.call f vs) := by
  refine Att.attach_call hn hdf fun w s₀ s₁ mg mb fa o pm cd doc a vs ns G Y ho hd hcd hmg hobj hints hlen hg => ?_
  have KX := hY w _ Y
  obtain ⟨fd, hb, hF⟩ := F w mg fa _ KX G.T.g hmg
  exact law_callG KX G.T.g G.T.b G.T.builtins G.T.nolimit hg hobj hints (Nat.le_trans hlen hn2) hr hF hb (hsp ns hlen)
end DL

/-! != of two lists of dicts whose keys are tuples, whose values are numbers -/
namespace PySem.SeqAt
open AutoSeq1 (wpAny_loadPart')
open MeetsSeq MeetsSeq2 MeetsSeq3 SeqRoads2
section
variable {prog : Program} {w : World}
/-- the turns of list.__ne__ -/
theorem dl_ne_turns (la lb : Addr) (us ws : Array Value) (m1 m2 : Nat) (d1 d2 : Option Addr) (z1 z2 : Array (Option Value)) (same : us.size = ws.size) (e : Nat → Bool) (left : Nat) :
    ∀ i : Nat, us.size - i = left → MeetsIn prog w (Builtin.«list.__eq__.loop» ⟨[.ref la, .ref lb, rawInt i, rawInt 3], []⟩)
      (fun A R s => s.heap.get? la = some { cls := .type "list", dict := d1, data := .seq us m1, slots := z1 } ∧ s.heap.get? lb = some { cls := .type "list", dict := d2, data := .seq ws m2, slots := z2 } ∧
        (∀ j (g1 : j < us.size) (g2 : j < ws.size), EqP prog w A.in1 s us[j] ws[j] (e j)) ∧ R (.ok (.ret (.bool (!((List.range us.size).drop i).all e)))) s) := by
  induction left with
  | zero =>
    intro i ik A R s q
    obtain ⟨s1, s2, s3, s4, s5⟩ := s; obtain ⟨ga, gb, ge, q⟩ := q
    wp_walk using wpAny_loadPart' ga, wpAny_loadPart' gb
    have n1 : us[((i : Nat) : Int).toNat]? = none := by simp; omega
    have n2 : ws[((i : Nat) : Int).toNat]? = none := by simp; omega
    have n3 : (List.range us.size).drop i = [] := by simp; omega
    rw [n3] at q
    rw [n1, n2]
    wp_walk using wpAny_loadPart' ga, wpAny_loadPart' gb
    show R (.ok (.ret (.bool (us.size != ws.size)))) _
    rw [same]
    simpa using q
  | succ left ih =>
    intro i ik A R s q
    obtain ⟨s1, s2, s3, s4, s5⟩ := s; obtain ⟨ga, gb, ge, q⟩ := q
    wp_walk using wpAny_loadPart' ga, wpAny_loadPart' gb
    have i1 : i < us.size := by omega
    have i2 : i < ws.size := by omega
    have n1 : us[((i : Nat) : Int).toNat]? = some us[i] := by simp [i1]
    have n2 : ws[((i : Nat) : Int).toNat]? = some ws[i] := by simp [i2]
    have n3 : (List.range us.size).drop i = i :: (List.range us.size).drop (i + 1) := by simp [List.drop_eq_getElem_cons, i1]
    have n4 : ((i : Int) + 1) = ((i + 1 : Nat) : Int) := by omega
    rw [n3, List.all_cons] at q
    rw [n1, n2]
    refine wpAny_bind (ge i i1 i2 _ _ ?_)
    cases hy : e i with
    | true =>
      rw [hy] at q
      wp_walk
      rw [n4]
      exact ⟨plainId_quiet plain_eq_loop _, codeAny_builtin entry_eq_loop (by rw [Around.under_plainId plain_eq_loop _]; exact ih (i + 1) (by omega) A R _ ⟨ga, gb, ge, by simpa using q⟩)⟩
    | false =>
      rw [hy] at q
      wp_walk using wpAny_loadPart' ga, wpAny_loadPart' gb
      rw [n1, n2]
      wp_walk
      simpa using q
theorem dl_list_ne (la lb : Addr) (us ws : Array Value) (m1 m2 : Nat) (d1 d2 : Option Addr) (z1 z2 : Array (Option Value)) (same : us.size = ws.size) (e : Nat → Bool) :
    MeetsIn prog w (Builtin.«list.__ne__» ⟨[.ref la, .ref lb], []⟩)
      (fun A R s => s.heap.get? la = some { cls := .type "list", dict := d1, data := .seq us m1, slots := z1 } ∧ s.heap.get? lb = some { cls := .type "list", dict := d2, data := .seq ws m2, slots := z2 } ∧
        (∀ j (g1 : j < us.size) (g2 : j < ws.size), EqP prog w A.in1 s us[j] ws[j] (e j)) ∧ R (.ok (.ret (.bool (!(List.range us.size).all e)))) s) := by
  intro A R s q
  obtain ⟨s1, s2, s3, s4, s5⟩ := s; obtain ⟨ga, gb, ge, q⟩ := q
  have f0 := AutoSeq1.sub_list_list
  have ns : ¬ (us.size != ws.size) = true := by simp [same]
  wp_walk using wpAny_loadPart' ga, wpAny_loadPart' gb
  exact ⟨plainId_quiet plain_eq_loop _, codeAny_builtin entry_eq_loop (by rw [Around.under_plainId plain_eq_loop _]; exact dl_ne_turns la lb us ws m1 m2 d1 d2 z1 z2 same e _ 0 rfl A R _ ⟨ga, gb, ge, by simpa using q⟩)⟩
theorem dl_ne_lists {A : Around} {s : Shared} {la lb : Addr} {us ws : Array Value} {e : Nat → Bool} (ga : s.heap.IsList la us) (gb : s.heap.IsList lb ws) (same : us.size = ws.size) (hu : A.units < cLine)
    (ge : ∀ j (g1 : j < us.size) (g2 : j < ws.size), EqP prog w A.in1 s us[j] ws[j] (e j)) (E Q : Value → Shared → Prop) (q : Q (.bool (!(List.range us.size).all e)) s) : wpAny (model prog w) A (richCompare .NotEq (.ref la) (.ref lb)) Q E s := by
  obtain ⟨⟨c1, d1, t1, z1⟩, o1, k1, m1, b1⟩ := id ga
  obtain ⟨⟨c2, d2, t2, z2⟩, o2, k2, m2, b2⟩ := id gb
  simp only at k1 b1 k2 b2
  subst k1 b1 k2 b2
  have y1 : s.TypeIs (.ref la) "list" := ⟨_, o1, rfl⟩
  have y2 : s.TypeIs (.ref lb) "list" := ⟨_, o2, rfl⟩
  exact wpAny_richCompare_same_room (op := .NotEq) y1 y2 F.slot_list_ne (call_meetsIn F.slot_list_ne y1 F.entry_list_ne (F.args_list_ne_2 _ _) (dl_list_ne la lb us ws m1 m2 d1 d2 z1 z2 same e)
    ⟨o1, o2, ge, show Value.bool (!(List.range us.size).all e) ≠ Value.notImplemented ∧ Q (.bool (!(List.range us.size).all e)) s from ⟨(fun x => nomatch x), q⟩⟩) hu
end
end PySem.SeqAt
namespace PySem.W
open Lean Elab Tactic Meta PySem PySem.Calls PyProof.Rows PyProof.V PySem.Spec
section
variable {prog : Program} {w : World} {K : Type} [DecidableEq K] {knd : HeapKind prog w K} {A : Around} {E : Value → Shared → Prop} {s : Shared}
/-- the entries of the one found in the other -/
inductive DlHits {K : Type} (prog : Program) (w : World) (A : Around) (s : Shared) (ys : List (K × Addr × Value)) : List (K × Addr × Value) → Bool → Prop
  | nil : DlHits prog w A s ys [] true
  | miss {k : K} {p : Addr × Value} {r : List (K × Addr × Value)} : (∀ (j : Nat) (q : Addr × Value), ys[j]? ≠ some (k, q)) → DlHits prog w A s ys ((k, p) :: r) false
  | hit {k : K} {p q : Addr × Value} {r : List (K × Addr × Value)} {j : Nat} {e b : Bool} : ys[j]? = some (k, q) → SeqAt.EqP prog w A s p.2 q.2 e → DlHits prog w A s ys r b → DlHits prog w A s ys ((k, p) :: r) (e && b)
theorem DlHits.inv {ys : List (K × Addr × Value)} {k : K} {p : Addr × Value} {r : List (K × Addr × Value)} {b : Bool} (h : DlHits prog w A s ys ((k, p) :: r) b) :
    ((∀ (j : Nat) (q : Addr × Value), ys[j]? ≠ some (k, q)) ∧ b = false) ∨ ∃ (j : Nat) (q : Addr × Value) (e b' : Bool), ys[j]? = some (k, q) ∧ SeqAt.EqP prog w A s p.2 q.2 e ∧ DlHits prog w A s ys r b' ∧ b = (e && b') := by
  cases h with
  | miss hn => exact .inl ⟨hn, rfl⟩
  | hit hy he hr => exact .inr ⟨_, _, _, _, hy, he, hr, rfl⟩
theorem dl_same {nm : String} {a b : Addr} {xs ys : List (K × Addr × Value)} {r : Bool} {Q : Bool → Shared → Prop} (hu : knd.room A) (na : (a == sysModules) = false) (nb : (b == sysModules) = false)
    (da : s.heap.DictOfH knd a xs) (db : s.heap.DictOfH knd b ys) (hits : xs.length = ys.length → DlHits prog w A s ys xs r) (q : Q (xs.length == ys.length && r) s) :
    wpAny (model prog w) A (Builtin.Dict.samePairs nm a b) Q E s := by
  obtain ⟨oa, ea, pa, ga, _, ta, la, ia, ua⟩ := da
  obtain ⟨ob, eb, pb, gb, _, tb, lb, ib, ub⟩ := db
  have za : ea.size = xs.length := size_of_entries la
  have zb : eb.size = ys.length := size_of_entries lb
  rw [← za, ← zb] at q
  unfold Builtin.Dict.samePairs Builtin.Dict.showsAll
  rw [if_neg (show ¬ (a == sysModules) = true by rw [na]; decide), if_neg (show ¬ (b == sysModules) = true by rw [nb]; decide)]
  refine wpAny_bind (wpAny_pure (wpAny_bind (wpAny_pure ?_)))
  refine wpAny_bind (wpAny_dictEntries ga ta ?_)
  dsimp only
  refine wpAny_bind (wpAny_dictEntries gb tb ?_)
  by_cases hz : ea.size = eb.size
  case neg =>
    rw [if_pos (by simpa using hz)]
    have bf : (ea.size == eb.size) = false := by simpa using hz
    rw [bf, Bool.false_and] at q
    exact wpAny_bind (wpAny_rule (wpAny_pure q))
  case pos =>
    have q' : Q r s := by simpa [hz] using q
    have all := hits (by rw [← za, ← zb]; exact hz)
    rw [if_neg (by rw [hz]; simp)]
    refine wpAny_bind (wpAny_dictEpoch ga ta ?_)
    refine wpAny_bind ?_
    rw [Std.Legacy.Range.forIn_eq_forIn_range']
    simp only [Std.Legacy.Range.size, Nat.sub_zero, Nat.add_sub_cancel, Nat.div_one]
    refine wpAny_forIn_list _ (fun rest z s' => s' = s ∧ z = (none, ()) ∧ ∃ i, rest = List.range' i (ea.size - i) ∧ i ≤ ea.size ∧ DlHits prog w A s ys (xs.drop i) r) _ ?_ ?_ _ _ ⟨rfl, rfl, 0, by simp, Nat.zero_le _, all⟩
    · rintro x rest z s' ⟨rfl, rfl, i, hr, hi, pre⟩
      have lt : i < ea.size := by
        rcases Nat.lt_or_ge i ea.size with h | h
        · exact h
        · rw [Nat.sub_eq_zero_of_le h] at hr; simp at hr
      obtain ⟨rfl, hrest⟩ : x = i ∧ rest = List.range' (i + 1) (ea.size - (i + 1)) := by
        rw [show ea.size - i = (ea.size - (i + 1)) + 1 by omega, List.range'_succ] at hr
        injection hr with h1 h2
        exact ⟨h1, h2⟩
      refine wpAny_bind (wpAny_dictEntries ga ta ?_)
      rw [Array.getElem?_eq_getElem lt]
      have lt' : x < xs.length := by rw [← za]; exact lt
      obtain ⟨k, p, hkp⟩ : ∃ k p, xs[x] = (k, p) := ⟨_, _, rfl⟩
      have dr : xs.drop x = (k, p) :: xs.drop (x + 1) := by rw [← hkp]; exact List.drop_eq_getElem_cons lt'
      have hx? : xs[x]? = some (k, p) := by rw [List.getElem?_eq_getElem lt', hkp]
      have ent : ea[x] = entryOfKey knd (k, p) := by
        have := entry_at la x
        rw [Array.getElem?_eq_getElem lt, hx?] at this
        exact Option.some.inj this
      have key : knd.is s'.heap k p.1 := ia (k, p) (List.mem_of_getElem? hx?)
      rw [dr] at pre
      rw [ent]
      show wpAny _ _ (holding [Value.ref p.1, p.2] _ >>= _) _ _ _
      refine wpAny_bind (wpAny_holding (wpAny_bind ?_))
      refine wpAny_dictFind_heap (k := k) hu key gb tb lb ib ub (fun none' => ?_) fun j y hy => ?_
      · rcases pre.inv with ⟨_, er⟩ | ⟨j, y, _, _, hy, _⟩
        · rw [er] at q'
          refine wpAny_pure ?_
          show wpAny _ _ (if (!false) = true then _ else _) _ _ _
          rw [if_pos (by decide)]
          exact wpAny_pure (wpAny_pure q')
        · exact absurd hy (none' j y)
      · refine wpAny_bind (wpAny_dictEntries gb tb ?_)
        have ej : eb[j]? = some (entryOfKey knd (k, y)) := by rw [entry_at lb j, hy]; rfl
        rw [ej]
        rcases pre.inv with ⟨hn, _⟩ | ⟨j2, y2, e, b', hy2, he, hrr, er⟩
        · exact absurd hy (hn j y)
        · have jj := idxH_unique ub hy hy2
          subst jj
          rw [hy] at hy2
          have ey : y = y2 := by injection Option.some.inj hy2
          subst ey
          refine wpAny_holding (he _ _ ?_)
          cases e with
          | false =>
            rw [er, Bool.false_and] at q'
            show wpAny _ _ (if (!false) = true then _ else _) _ _ _
            rw [if_pos (by decide)]
            exact wpAny_pure (wpAny_pure q')
          | true =>
            rw [Bool.true_and] at er
            rw [← er] at hrr
            show wpAny _ _ (if (!true) = true then _ else _) _ _ _
            rw [if_neg (by decide)]
            refine wpAny_bind (wpAny_dictEpoch ga ta ?_)
            rw [if_neg (by simp)]
            exact wpAny_pure ⟨rfl, rfl, x + 1, hrest, lt, hrr⟩
    · rintro z s' ⟨rfl, rfl, i, hr, hi, pre⟩
      have ie : i = ea.size := by
        rcases Nat.lt_or_ge i ea.size with h | h
        · rw [show ea.size - i = (ea.size - (i + 1)) + 1 by omega, List.range'_succ] at hr; exact nomatch hr
        · exact Nat.le_antisymm hi h
      refine wpAny_pure ?_
      rw [ie, za, List.drop_length] at pre
      cases pre
      exact q'
theorem dl_eq_dicts {a b : Addr} {xs ys : List (K × Addr × Value)} {r : Bool} (hr : knd.room A.in1) (na : (a == sysModules) = false) (nb : (b == sysModules) = false)
    (da : s.heap.DictOfH knd a xs) (db : s.heap.DictOfH knd b ys) (hu : A.units < cLine) (hits : xs.length = ys.length → DlHits prog w A.in1 s ys xs r) (E Q : Value → Shared → Prop) (q : Q (.bool (xs.length == ys.length && r)) s) : wpAny (model prog w) A (richCompare .Eq (.ref a) (.ref b)) Q E s := by
  refine wpAny_richCompare_same_room (op := .Eq) da.typeIs db.typeIs PySem.F.slot_dict_eq (wpAny_call_entry PySem.F.slot_dict_eq da.typeIs PySem.F.entry_dict_eq ?_ (PySem.F.args_dict_eq_2 _ _)) hu
  show wpAny _ _ (Builtin.Dict.dictSlotArgs "__eq__" ⟨[.ref a, .ref b], []⟩ >>= _) _ _ s
  unfold Builtin.Dict.dictSlotArgs
  refine wpAny_bind (wpAny_bind (wpAny_notOrdered_dict da.typeIs ?_))
  refine (wpAny_pure ?_ : wpAny _ _ (pure (Value.ref a, Value.ref b)) _ _ s)
  refine wpAny_bind (wpAny_isInstance (T := "dict") db.typeIs PySem.F.sub_dict_dict ?_)
  simp only [Bool.not_true, Bool.false_eq_true, if_false]
  refine wpAny_bind (wpAny_pure (wpAny_bind (wpAny_pure ?_)))
  refine wpAny_bind (dl_same hr na nb da db hits ?_)
  refine wpAny_pure ⟨_, rfl, ?_, by simpa using q⟩
  exact fun x => nomatch x
end
end PySem.W
namespace DL
open PySem PySem.Spec PyProof.Rows L2
def getKI : List (List Key × Int) → List Key → Option Int
  | [], _ => none
  | p :: r, k => if p.1 = k then some p.2 else getKI r k
def eqRowK (r t : List (List Key × Int)) : Bool := r.length == t.length && r.all fun p => decide (getKI t p.1 = some p.2)
def tdD (r : List (List Key × Int)) : D := .dT (r.map (·.1)) (r.map fun p => .int p.2)
def tdV (r : List (List Key × Int)) : List (List Key × V) := r.map fun p => (p.1, .int p.2)
theorem dl_hits {P : Program} {w : World} {H : Hp} {A : Around} {s : Shared} {ys : List (List Key × Addr × Value)} {t : List (List Key × Int)} (rt : KT H (tdV t) ys) (nd : (ys.map (·.1)).Nodup) : ∀ {r : List (List Key × Int)} {xs : List (List Key × Addr × Value)}, KT H (tdV r) xs →
    PySem.W.DlHits P w A s ys xs (r.all fun p => decide (getKI t p.1 = some p.2)) := by
  have find : ∀ {t : List (List Key × Int)} {ys : List (List Key × Addr × Value)}, KT H (tdV t) ys → (ys.map (·.1)).Nodup → ∀ k : List Key, (getKI t k = none ∧ ∀ (j : Nat) (q : Addr × Value), ys[j]? ≠ some (k, q)) ∨ ∃ (j : Nat) (q : Addr × Value) (i : Int) (tk : Tok), getKI t k = some i ∧ ys[j]? = some (k, q) ∧ q.2 = .int i tk := by
    intro t
    induction t with
    | nil =>
      intro ys rt _ k
      cases rt
      exact .inl ⟨rfl, fun j q h => by simp at h⟩
    | cons p t ih =>
      intro ys rt nd k
      cases rt with
      | @cons _ y _ ys h rt =>
        rw [List.map_cons, List.nodup_cons] at nd
        obtain ⟨y1, y2, y3⟩ := y
        obtain ⟨e1, _, e3⟩ := h
        have e1 : p.1 = y1 := e1
        obtain ⟨tk, e3⟩ : ∃ tk, y3 = .int p.2 tk := e3
        by_cases e : p.1 = k
        · refine .inr ⟨0, (y2, y3), p.2, tk, ?_, ?_, e3⟩
          · show (if p.1 = k then some p.2 else getKI t k) = _
            rw [if_pos e]
          · rw [← e, e1]; rfl
        · rcases ih rt nd.2 k with ⟨g, f⟩ | ⟨j, q, i, tk, g, f, v⟩
          · refine .inl ⟨?_, fun j q hq => ?_⟩
            · show (if p.1 = k then some p.2 else getKI t k) = _
              rw [if_neg e]; exact g
            · cases j with
              | zero =>
                have := Option.some.inj hq
                injection this with h1 h2
                exact e (e1.trans h1)
              | succ j => exact f j q (by simpa using hq)
          · refine .inr ⟨j + 1, q, i, tk, ?_, by simpa using f, v⟩
            show (if p.1 = k then some p.2 else getKI t k) = _
            rw [if_neg e]; exact g
  intro r
  induction r with
  | nil =>
    intro xs rr
    cases rr
    exact .nil
  | cons p r ih =>
    intro xs rr
    cases rr with
    | @cons _ x _ xs h rr =>
      obtain ⟨x1, x2, x3⟩ := x
      obtain ⟨e1, _, e3⟩ := h
      have e1 : p.1 = x1 := e1
      obtain ⟨tk, e3⟩ : ∃ tk, x3 = .int p.2 tk := e3
      subst e1 e3
      rcases find rt nd p.1 with ⟨g, f⟩ | ⟨j, q, i, tk2, g, f, v⟩
      · have e : ((p :: r).all fun p => decide (getKI t p.1 = some p.2)) = false := by
          rw [List.all_cons, g, decide_eq_false (by simp), Bool.false_and]
        rw [e]
        exact .miss f
      · rw [List.all_cons, g]
        have e : decide (some i = some p.2) = (p.2 == i) := by
          by_cases z : p.2 = i
          · rw [z]; simp
          · rw [decide_eq_false fun y => z (Option.some.inj y).symm]; simp [z]
        rw [e]
        refine .hit f ?_ (ih rr)
        show SeqAt.EqP P w A s (.int p.2 tk) q.2 (p.2 == i)
        rw [v]
        exact (SeqAt.EqAt.int_int _ _ _ _).eqP
section
variable {X : Cx} {a b : Expr} {ta tb : DTE} {pos : Pos} {k : Nat}
def rNeTD (K : PySem.W.Frag) : R2 := fun x y H Q => ∃ (p q : Addr) (as bs : List Addr) (R T : List (List (List Key × Int))), x = .ref p ∧ y = .ref q ∧ SqL K H p (as.map V.ref) ∧ SqL K H q (bs.map V.ref) ∧ as.length = R.length ∧ bs.length = T.length ∧ R.length = T.length ∧
  (∀ (i : Nat) (c : Addr) (r : List (List Key × Int)), as[i]? = some c → R[i]? = some r → Rd H c (.dT (tdV r))) ∧ (∀ (i : Nat) (c : Addr) (r : List (List Key × Int)), bs[i]? = some c → T[i]? = some r → Rd H c (.dT (tdV r))) ∧ Q (.bl (!((R.zip T).all fun z => eqRowK z.1 z.2))) H
theorem vals_refs : ∀ {as : List Addr} {us : List Value}, Vals (as.map V.ref) us → us = as.map Value.ref
  | [], [], .nil => rfl
  | a :: as, u :: us, .cons r rr => by
    have e : u = .ref a := r
    rw [e, vals_refs rr]
    rfl
theorem all_range {α : Type} (f : α → Bool) : ∀ (zs : List α) (e : Nat → Bool), (∀ i z, zs[i]? = some z → e i = f z) → (List.range zs.length).all e = zs.all f := by
  intro zs e h
  rw [Bool.eq_iff_iff, List.all_eq_true, List.all_eq_true]
  constructor
  · intro g z hz
    obtain ⟨i, hi⟩ := List.getElem?_of_mem hz
    rw [← h i z hi]
    exact g i (List.mem_range.mpr (List.getElem?_eq_some_iff.mp hi).1)
  · intro g i hi
    have hl := List.mem_range.mp hi
    rw [h i zs[i] (List.getElem?_eq_getElem hl)]
    exact g _ (List.getElem_mem hl)
theorem tdV_keys {H : Hp} : ∀ {r : List (List Key × Int)} {xs : List (List Key × Addr × Value)}, KT H (tdV r) xs → xs.length = r.length
  | r, xs, h => by
    have := Paired.length h
    unfold tdV at this
    rw [List.length_map] at this
    exact this.symm
theorem dl_entries {h : Heap} {P : Program} {w : World} : ∀ {xs ys : List (List Key × Addr × Value)}, (∀ x ∈ xs, (tupleKind (mixKind P w)).is h x.1 x.2.1) → (∀ y ∈ ys, (tupleKind (mixKind P w)).is h y.1 y.2.1) → xs.map (entryOfKey (tupleKind (mixKind P w))) = ys.map (entryOfKey (tupleKind (mixKind P w))) → xs = ys
  | [], [], _, _, _ => rfl
  | [], y :: ys, _, _, e => by cases e
  | x :: xs, [], _, _, e => by cases e
  | x :: xs, y :: ys, o, o', e => by
    rw [List.map_cons, List.map_cons] at e
    injection e with e1 e2
    unfold entryOfKey at e1
    injection e1 with f1 f2 f3
    injection f2 with f2
    have i1 := o x List.mem_cons_self
    have i2 := o' y List.mem_cons_self
    rw [← f2] at i2
    have f0 := (tupleKind (mixKind P w)).inj i1 i2
    rw [dl_entries (fun z hz => o z (List.mem_cons_of_mem _ hz)) (fun z hz => o' z (List.mem_cons_of_mem _ hz)) e2]
    obtain ⟨x1, x2, x3⟩ := x
    obtain ⟨y1, y2, y3⟩ := y
    simp only at f0 f2 f3
    subst f0 f2 f3
    rfl
theorem dl_pairs {H : Hp} : ∀ {r t : List (List Key × Int)} {xs : List (List Key × Addr × Value)}, KT H (tdV r) xs → KT H (tdV t) xs → r = t
  | [], [], _, _, _ => rfl
  | [], _ :: _, _, g1, g2 => by cases g1; cases g2
  | _ :: _, [], _, g1, g2 => by cases g2; cases g1
  | p :: r, p2 :: t, _, g1, g2 => by
    cases g1 with
    | cons f1 g1 =>
      cases g2 with
      | cons f2 g2 =>
        rw [dl_pairs g1 g2]
        obtain ⟨u1, _, tk1, u3⟩ := f1
        obtain ⟨v1, _, tk2, v3⟩ := f2
        rw [u3] at v3
        injection v3 with v3 _
        have w1 : p.1 = p2.1 := u1.trans v1.symm
        have w2 : p.2 = p2.2 := v3
        rw [show p = p2 from Prod.ext w1 w2]
theorem eqRowK_self {r : List (List Key × Int)} (nd : (r.map (·.1)).Nodup) : eqRowK r r = true := by
  unfold eqRowK
  rw [Bool.and_eq_true]
  have go : ∀ {r : List (List Key × Int)}, (r.map (·.1)).Nodup → ∀ z ∈ r, getKI r z.1 = some z.2 := by
    intro r
    induction r with
    | nil => intro _ z hz; cases hz
    | cons p r ih =>
      intro nd z hz
      rw [List.map_cons, List.nodup_cons] at nd
      show (if p.1 = z.1 then some p.2 else getKI r z.1) = some z.2
      rcases List.mem_cons.mp hz with g | g
      · rw [g, if_pos rfl]
      · rw [if_neg fun f => nd.1 (by rw [f]; exact List.mem_map.mpr ⟨z, g, rfl⟩)]
        exact ih nd.2 z g
  exact ⟨by simp, List.all_eq_true.mpr fun z hz => decide_eq_true (go nd z hz)⟩
theorem op_neTD (hu : X.A.units + 6 < cLine) : OpR X (compareOp .NotEq) (rNeTD X.K) := by
  intro pins s σ H x y v u Q I rx ry h
  obtain ⟨p, q, as, bs, R, T, rfl, rfl, hp, hq, l1, l2, l3, h1, h2, fin⟩ := h
  obtain rfl : v = .ref p := rx
  obtain rfl : u = .ref q := ry
  obtain ⟨us, r1, p1, _⟩ := I.list hp
  obtain ⟨ws, r2, p2, _⟩ := I.list hq
  have e1 := vals_refs r1
  have e2 := vals_refs r2
  subst e1 e2
  have big : ∀ {c : Addr} {r : List (List Key × Int)}, Rd H c (.dT (tdV r)) → (c == sysModules) = false ∧ ∃ xs, KT H (tdV r) xs ∧ s.heap.DictOfH (tupleKind (mixKind X.prog X.w)) c xs := fun g => by
    obtain ⟨_, z, xs, k, d⟩ := dt_rd I.hok g
    exact ⟨z, xs, k, d⟩
  refine SeqAt.dl_ne_lists (e := fun i => match R[i]?, T[i]? with | some r, some t => eqRowK r t | _, _ => false) p1.isList p2.isList (by simp; omega) (by omega) (fun j g1 g2 => ?_) _ _ ?_
  · have j1 : j < as.length := by simpa using g1
    have j2 : j < bs.length := by simpa using g2
    have a1 : as[j]? = some as[j] := List.getElem?_eq_getElem j1
    have a2 : bs[j]? = some bs[j] := List.getElem?_eq_getElem j2
    have b1 : R[j]? = some R[j] := List.getElem?_eq_getElem (by omega)
    have b2 : T[j]? = some T[j] := List.getElem?_eq_getElem (by omega)
    have d1 := h1 j _ _ a1 b1
    have d2 := h2 j _ _ a2 b2
    obtain ⟨n1, xs, k1, m1⟩ := big d1
    obtain ⟨n2, ys, k2, m2⟩ := big d2
    have nx := m1.nodup
    have ny := m2.nodup
    rw [b1, b2]
    have z1 : (as.map Value.ref).toArray[j] = .ref as[j] := by simp
    have z2 : (bs.map Value.ref).toArray[j] = .ref bs[j] := by simp
    rw [z1, z2]
    show SeqAt.EqP X.prog X.w X.A.in1 s (.ref as[j]) (.ref bs[j]) (eqRowK R[j] T[j])
    have lx := tdV_keys k1
    have ly := tdV_keys k2
    have hh := dl_hits (P := X.prog) (w := X.w) (A := X.A.in1.in1) (s := s) k2 ny k1
    by_cases e : as[j] = bs[j]
    · have self : eqRowK R[j] T[j] = true := by
        have ex : xs = ys := by
          rw [← e] at m2
          obtain ⟨o, es, ep, o1, o2, o3, o4, o5, o6⟩ := m1
          obtain ⟨o', es', ep', o1', o2', o3', o4', o5', o6'⟩ := m2
          rw [o1] at o1'
          cases o1'
          rw [o3] at o3'
          cases o3'
          exact dl_entries o5 o5' (o4.symm.trans o4')
        subst ex
        rw [← dl_pairs k1 k2]
        refine eqRowK_self ?_
        have kk := kt_keys k1
        unfold tdV at kk
        rw [List.map_map] at kk
        have kk : (R[j]).map (·.1) = xs.map (·.1) := kk
        rw [kk]
        exact nx
      rw [self, e]
      exact (SeqAt.EqAt.same _).eqP
    · refine SeqAt.eqP_refs e fun E Q' q' => ?_
      refine PySem.W.dl_eq_dicts (knd := tupleKind (mixKind X.prog X.w)) (by show X.A.units + 1 + 1 < cLine; omega) n1 n2 m1 m2 (by show X.A.units + 1 < cLine; omega) (fun _ => hh) E Q' ?_
      unfold eqRowK at q'
      rw [lx, ly]
      exact q'
  · have e : ((List.range (as.map Value.ref).toArray.size).all fun i => match R[i]?, T[i]? with | some r, some t => eqRowK r t | _, _ => false) = (R.zip T).all fun z => eqRowK z.1 z.2 := by
      have n : (as.map Value.ref).toArray.size = (R.zip T).length := by simp; omega
      rw [n]
      refine all_range _ _ _ fun i z hz => ?_
      rw [List.getElem?_zip_eq_some] at hz
      rw [hz.1, hz.2]
    rw [e]
    exact ⟨.bl _, H, I, rfl, fin⟩
def kNeR : D → D → LH → DK → Prop := fun x y l Q => ∃ R T : List (List (List Key × Int)), x = .lst (R.map tdD) ∧ y = .lst (T.map tdD) ∧ R.length = T.length ∧ Q (.bl (!((R.zip T).all fun z => eqRowK z.1 z.2))) l
theorem relDs_td {K : PySem.W.Frag} {F : Hp} : ∀ {R : List (List (List Key × Int))} {vs : List V}, RelDs K F (R.map tdD) vs → ∃ as : List Addr, vs = as.map V.ref ∧ as.length = R.length ∧ ∀ (i : Nat) (c : Addr) (r : List (List Key × Int)), as[i]? = some c → R[i]? = some r → ∃ o, F c = some (.frz o (.dT (tdV r)))
  | [], _, .nil => ⟨[], rfl, rfl, fun i c r h => by simp at h⟩
  | r :: R, _, .cons (v := v) rv rr => by
    obtain ⟨as, e, hl, h⟩ := relDs_td rr
    cases rv with
    | @dT p od us ks ds h1 hl1 r1 =>
      have e1 : r.map (fun p => D.int p.2) = (r.map (·.2)).map D.int := by rw [List.map_map]; rfl
      rw [e1] at r1
      have e2 := r1.ints
      subst e2
      refine ⟨p :: as, by rw [e]; rfl, by rw [List.length_cons, hl, List.length_cons], fun i c q hc hq => ?_⟩
      cases i with
      | zero =>
        cases hc
        cases hq
        refine ⟨od, ?_⟩
        rw [h1]
        congr 3
        unfold tdV
        clear h1 hl1 r1 e1 h hl e rr
        induction r with
        | nil => rfl
        | cons p r ih => rw [List.map_cons, List.map_cons, List.map_cons, List.zip_cons_cons, ih]; rfl
      | succ i => exact h i c q (by simpa using hc) (by simpa using hq)
theorem kNeR_ok : KOp X (rNeTD X.K) kNeR := by
  intro F Fr l H Q d e v u Q' R rd re hq q
  obtain ⟨R1, T1, rfl, rfl, hl, q⟩ := q
  cases rd with
  | lst h1 r1 =>
    cases re with
    | lst h2 r2 =>
      obtain ⟨as, rfl, n1, g1⟩ := relDs_td r1
      obtain ⟨bs, rfl, n2, g2⟩ := relDs_td r2
      refine ⟨_, _, as, bs, R1, T1, rfl, rfl, .inl (.inl (R.fz _ _ h1)), .inl (.inl (R.fz _ _ h2)), n1, n2, hl, fun i c r hc hr => ?_, fun i c r hc hr => ?_, hq _ _ (LK.mk (.bl _) R q)⟩
      · obtain ⟨o, ho⟩ := g1 i c r hc hr
        exact .inr ⟨o, R.fz _ _ ho⟩
      · obtain ⟨o, ho⟩ := g2 i c r hc hr
        exact .inr ⟨o, R.fz _ _ ho⟩
def dNeR : DTE → DTE → DTE := dOp kNeR
theorem dt_neR (hr : Room k X.A) (ha : DE X a ta) (hb : DE X b tb) : DT X (.Compare a [.NotEq] [b] pos) (dTV (dNeR ta tb)) := dt_cmp (op_neTD (by have := hr.un; omega)) kNeR_ok ha hb (nomark _)
end
end DL

/-! for i, x in enumerate(t), t a tuple -/
namespace PySem
open Sem (wp)
open AutoSeq1 (wpAny_loadPart')
abbrev dlTI (t : Addr) : Obj := { cls := .type "tuple_iterator", data := .fields #[.ref t, .int 0 0] }
abbrev dlEN (h : Heap) : Obj := { cls := .type "enumerate", data := .fields #[.none, .bool false, .ref h.objs.size, rawInt 0, .none, .none] }
theorem dl_enum_meets (t : Addr) (us : Array Value) (m : Nat) (d0 : Option Addr) (z0 : Array (Option Value)) :
    Meets (Builtin.«enumerate.__new__» ⟨[.type "enumerate", .ref t], []⟩) (fun _ R s => s.heap.get? t = some { cls := .type "tuple", dict := d0, data := .seq us m, slots := z0 } ∧
      R (.ok (.ret (.ref (s.heap.push (dlTI t)).objs.size))) { s with heap := (s.heap.push (dlTI t)).push (dlEN s.heap) }) :=
  .of_wp fun prog w A R s q => by
    obtain ⟨s1, s2, s3, s4, s5⟩ := s; obtain ⟨gt, q⟩ := q
    have f0 := sub_enumerate
    have gT : Heap.IsTuple (Shared.heap ⟨s1, s2, s3, s4, s5⟩) t us := ⟨_, gt, rfl, m, rfl⟩
    wp_walk using wpAny_loadPart' gt
    refine wpAny_stack_any fun _ => wpAny_pure ?_
    split
    · rename_i c _ _ _ _ _
      cases (c == Value.type "enumerate") <;> (wp_walk using wpAny_loadPart' gt, wpAny_pyIter_tuple gT; exact ⟨_, rfl, q⟩)
    · wp_walk using wpAny_loadPart' gt, wpAny_pyIter_tuple gT
      exact ⟨_, rfl, q⟩
section
variable {prog : Program} {w : World} {A : Around} {E : Value → Shared → Prop} {s : Shared}
theorem dl_call_enum {t : Addr} {us : Array Value} {Q : Value → Shared → Prop} (gT : s.heap.IsTuple t us)
    (q : ∀ h', IsEnum h' (s.heap.objs.size + 1) s.heap.objs.size 0 .none → h'.IsTupleIter s.heap.objs.size t 0 → h'.objs.size = s.heap.objs.size + 2 → (∀ b o, s.heap.get? b = some o → h'.get? b = some o) → Q (.ref (s.heap.objs.size + 1)) { s with heap := h' }) :
    wpAny (model prog w) A (call (.type "enumerate") [.ref t]) Q E s := by
  obtain ⟨⟨c0, d0, t0, z0⟩, gt, e1, m, e2⟩ := gT
  replace e1 : c0 = .type "tuple" := e1
  replace e2 : t0 = .seq us m := e2
  subst e1 e2
  refine callType_new F.called_enumerate (by decide) (F.typeCall_enumerate_1 _) (F.newCall_enumerate_1 _) (fun obj => F.args_object_init_2 obj _) F.entry_enumerate_new (dl_enum_meets t us m d0 z0) ⟨gt, ?_⟩
  have hz : (s.heap.push (dlTI t)).objs.size = s.heap.objs.size + 1 := Heap.size_push ..
  show _ ∧ _
  rw [hz]
  have en : IsEnum ((s.heap.push (dlTI t)).push (dlEN s.heap)) (s.heap.objs.size + 1) s.heap.objs.size 0 .none := by
    have k := Heap.get?_push_size (s.heap.push (dlTI t)) (o := dlEN s.heap) rfl
    rw [hz] at k; exact k
  exact ⟨⟨_, en, rfl⟩, q _ en ⟨_, Heap.get?_push_of_some _ (Heap.get?_push_size _ rfl), rfl, rfl⟩ (by rw [Heap.size_push, hz]) fun b o x => Heap.get?_push_of_some _ (Heap.get?_push_of_some _ x)⟩
end
end PySem
namespace DL
open PySem PySem.Spec PyProof.Rows L2
/-- the tuple at a, each item in a new pair -/
def IteT (K : PySem.W.Frag) (a : Addr) : It :=
  ⟨fun i H => ∃ (xs : List V) (x : V), SqT K H a xs ∧ xs[i]? = some x, fun i H v H' => ∃ T x, v = .ref T ∧ H T = none ∧ H' = upd H T (.tup [.int (i : Nat), x]) ∧ ∀ xs, SqT K H a xs → xs[i]? = some x, fun i H => ∃ xs : List V, SqT K H a xs ∧ xs.length ≤ i⟩
theorem turn_enumT {P : Program} {w : World} {K : PySem.W.Frag} {elts : List Expr} {kk : Nat} {tpos : Pos} (a e it : Addr) :
    Turn P w K (.Tuple elts kk tpos) (IteT K a) [e, it] e (fun i h => (∃ old, IsEnum h e it ((i : Nat) : Int) old) ∧ h.IsTupleIter it a i ∧ e ≠ it) where
  mem := by simp
  obj := fun i h st b hb => by
    obtain ⟨⟨old, en⟩, ⟨o, g1, g2, g3⟩, _⟩ := st
    rcases (show b = e ∨ b = it by simpa using hb) with z | z
    · rw [z]; exact ⟨_, en, fun v q => nomatch q⟩
    · rw [z]; exact ⟨o, g1, fun v q => by rw [g3] at q; cases q⟩
  keep := fun i h h' st k => let ⟨⟨old, en⟩, hi, hne⟩ := st; ⟨⟨old, k e (by simp) _ en⟩, hi.at fun o q => k it (by simp) o q, hne⟩
  item := by
    intro X hP hw hK hc i pins s σ H E I hf st hg
    subst hP hw hK
    obtain ⟨⟨old, en⟩, hit, hne⟩ := st
    obtain ⟨xs, x, hq, hx⟩ := hg
    obtain ⟨its, rv, p, hz⟩ := I.tuple hq
    obtain ⟨u, hu, ru⟩ := rv.get hx
    have el : e < s.heap.objs.size := Heap.lt_size en
    have il : it < s.heap.objs.size := by obtain ⟨_, q, _⟩ := hit; exact Heap.lt_size q
    have at_ : a ≠ it := fun z => by
      obtain ⟨o1, g1, c1, _⟩ := id p
      obtain ⟨o2, g2, c2, _⟩ := id hit
      rw [z, g2] at g1
      cases g1
      rw [c2] at c1
      exact absurd c1 (by decide)
    have ea : e ≠ a := fun z => by
      obtain ⟨o1, g1, c1, _⟩ := id p
      have g2 : s.heap.get? e = some _ := en
      rw [z, g1] at g2
      cases g2
      exact absurd (show Value.type "enumerate" = Value.type "tuple" from c1) (by decide)
    have hi : i < its.toArray.size := by
      have := (List.getElem?_eq_some_iff.mp hu).1
      simpa using this
    refine wpAny_pyNext_enum_itemD (Draws.tuple (A := X.A.in1) (I.ok.hd hc) it a at_ its.toArray) en ⟨hit, p⟩ hi hne (fun z => (show e = it ∨ e = a by simpa using z).elim hne ea) fun x' h' tk hx' ho hit' hT hsz hk => ?_
    have ex : x' = u := by
      have : its[i]? = some x' := by simpa using hx'
      rw [hu] at this
      exact (Option.some.inj this).symm
    subst ex
    refine ⟨_, rfl, wpAny_letOwnedTupleGo_enum (s := { s with heap := h', toks := tk + 1 }) ho fun h'' en' sb => ?_⟩
    have hT2 : h''.get? s.heap.objs.size = some { cls := .type "tuple", data := .seq #[.int i tk, x'] } := (sb.2 _ (Nat.ne_of_gt el)).trans hT
    have new : ObjOk X.prog X.w (upd H s.heap.objs.size (.tup [.int (i : Nat), x])) h'' s.heap.objs.size (.tup [.int (i : Nat), x]) :=
      ⟨by show 2 ≤ sizeLine; decide, [.int i tk, x'], .cons ⟨_, rfl⟩ (.cons ru .nil), ⟨_, hT2, rfl, _, rfl⟩⟩
    have I1 : Inv X pins σ (upd H s.heap.objs.size (.tup [.int (i : Nat), x])) { s with heap := h'', toks := tk + 1 } :=
      I.turnedNew (ch := [e, it]) (fun b ob hb q => (sb.2 b (fun z => hb (by simp [z]))).trans (hk b ob (fun z => hb (by simp [z])) (fun z => hb (by simp [z])) q)) hf (Nat.le_refl _) new
    refine ⟨.ref s.heap.objs.size, _, I1, rfl, ⟨_, x, rfl, I.hok.fresh (Nat.le_refl _), rfl, fun ys hy => by rw [I.tuple_inj hy hq]; exact hx⟩, ⟨⟨x', ?_⟩, hit'.1.at fun o q => (sb.2 it (Ne.symm hne)).trans q, hne⟩, fun b hb => ?_⟩
    · rw [show ((i + 1 : Nat) : Int) = (i : Int) + 1 by omega]
      exact en'
    · have hb' : b < s.heap.objs.size := by
        rcases (show b = e ∨ b = it by simpa using hb) with z | z
        · rw [z]; exact el
        · rw [z]; exact il
      rw [upd_ne (Nat.ne_of_lt hb')]
      exact (hf b hb).1
  done := by
    intro X hP hw hK hc i pins s σ H E I hf st hg
    subst hP hw hK
    obtain ⟨⟨old, en⟩, hit, hne⟩ := st
    obtain ⟨xs, hq, hx⟩ := hg
    obtain ⟨its, rv, p, hz⟩ := I.tuple hq
    obtain ⟨f0, f1, f2, f3, f4, f5⟩ := hf it (by simp)
    have hl := rv.length
    have hT : s.TypeIs (.ref e) "enumerate" := ⟨_, en, rfl⟩
    have fin : wpAny (model X.prog X.w) X.A.in1 (Builtin.SmallTypes.nextOf (.ref it)) (fun _ _ => False) (fun x s' => ∃ a h', x = .ref a ∧ s' = { s with heap := h' } ∧ Heap.ExtBut it s.heap h' ∧ ∃ o, h'.get? a = some o ∧ o.cls = .type "StopIteration") s :=
      wpAny_nextOf_tuple_end (I.ok.hd hc) hit p (by simp; omega) fun h' x k o => ⟨x, h', rfl, rfl, k, o⟩
    unfold pyNext
    refine wpAny_bind (wpAny_attempt (wpAny_callSpecial?_slot (name := Str.ofString "__next__") hT PySem.F.slot_enumerate_next (wpAny_call_entry PySem.F.slot_enumerate_next hT PySem.F.entry_enumerate_next ?_ (PySem.F.args_enumerate_next_1 _))))
    show wpAny _ _ (field (.ref e) 2 >>= _) _ _ _
    refine wpAny_bind (wpAny_field en rfl (x := .ref it) rfl ?_)
    refine wpAny_bind (wpAny_mono fin (fun _ _ z => z.elim) fun x s' ⟨b, h', ex, es, k, o, ho, hcl⟩ => ?_)
    subst ex es
    refine wpAny_bind (wpAny_isInstance (T := "StopIteration") (b := true) ⟨o, ho, hcl⟩ isSubtype_stop ?_)
    exact wpAny_pure ⟨rfl, I.turned (t' := s.toks) (fun b o hb q => k b o hb q) f0 f1 f3 f4 f5⟩
  self := fun A i s Q E st h => let ⟨⟨_, en⟩, _⟩ := st; wpAny_pyIter_enum en h
def lEnumA (K : PySem.W.Frag) (ta : TA) : TI := fun σ H R => ta σ H fun vs H1 => ∃ a xs, vs = [.ref a] ∧ ((SqL K H1 a xs ∧ R (Ite K a) H1) ∨ (SqT K H1 a xs ∧ R (IteT K a) H1))
theorem pi_enumA {X : Cx} {e : Expr} {ta : TA} {p pos tpos : Pos} {elts : List Expr} {kk : Nat} (hg : Gl X "enumerate") (hm : X.mg "enumerate" = none) (ha : PA X [e] ta) (hs : starEach [e] X.env = [(false, eval e X.env)] := by rfl) :
    PI X (.Tuple elts kk tpos) (.Call (.Name "enumerate" p) [e] [] pos) (lEnumA X.K ta) := by
  refine ⟨fun pins s σ H R I h => ?_⟩
  refine Call_ (ld_blt I hg hm boot_enumerate (PyProof.Rows.callWith_type1 (thn (ha.run pos pins s σ H _ I h) fun us s1 ⟨vs, H1, I1, r1, q1⟩ => ?_) hs rfl))
  obtain ⟨a, xs, ex, q1⟩ := q1
  subst ex
  have new2 : ∀ b ∈ [s1.heap.objs.size + 1, s1.heap.objs.size], FpOk X pins H1 b := fun b hb => by
    have hle : s1.heap.objs.size ≤ b := by
      rcases (show b = s1.heap.objs.size + 1 ∨ b = s1.heap.objs.size by simpa using hb) with z | z
      · rw [z]; exact Nat.le_add_right _ _
      · rw [z]; exact Nat.le_refl _
    exact I1.fpOk hle (I1.hok.fresh hle)
  cases r1 with
  | cons r rr =>
    cases rr
    cases r
    rcases q1 with ⟨hq, q⟩ | ⟨hq, q⟩
    · obtain ⟨its, rv, p', hz⟩ := I1.list hq
      refine call_enumerate_list p'.isList fun h' en hit hsz hk => wpAny_pyIter_enum en ?_
      exact ⟨s1.heap.objs.size + 1, [s1.heap.objs.size + 1, s1.heap.objs.size], _, _, H1, rfl, I1.kept (t' := s1.toks) hk, turn_enum a (s1.heap.objs.size + 1) s1.heap.objs.size, ⟨⟨.none, en⟩, hit, Nat.succ_ne_self _⟩, new2, q⟩
    · obtain ⟨its, rv, p', hz⟩ := I1.tuple hq
      refine dl_call_enum (show s1.heap.IsTuple a its.toArray from p') fun h' en hit hsz hk => wpAny_pyIter_enum en ?_
      exact ⟨s1.heap.objs.size + 1, [s1.heap.objs.size + 1, s1.heap.objs.size], _, _, H1, rfl, I1.kept (t' := s1.toks) hk, turn_enumT a (s1.heap.objs.size + 1) s1.heap.objs.size, ⟨⟨.none, en⟩, hit, Nat.succ_ne_self _⟩, new2, q⟩
theorem jok_enumT {K : PySem.W.Frag} {F : Hp} {a : Addr} {vs : List V} {ds : List D} (h : SqT K F a vs) (r : RelDs K F ds vs) : JOk K F (IteT K a) (enumD 0 ds) := by
  intro i F' Fr l H s R
  have q : SqT K H a vs := sqT_mono R.fz (sqT_mono s h)
  refine ⟨fun hi => ⟨vs, q, by rw [← r.length]; rw [enumD_length] at hi; exact hi⟩, fun d hd => ?_⟩
  rw [enumD_get] at hd
  cases e0 : ds[i]? with
  | none => rw [e0] at hd; cases hd
  | some d0 =>
    rw [e0] at hd
    cases hd
    obtain ⟨v, hv, rv⟩ := r.get e0
    refine ⟨⟨vs, v, q, hv⟩, fun x H' y => ?_⟩
    obtain ⟨T, x0, rfl, nT, rfl, y⟩ := y
    have e := y vs q
    rw [hv] at e
    cases e
    rw [Nat.zero_add]
    exact ⟨_, same_upd (R.F_none nT), relTup (R.F_none nT) (.cons (.int _) (.cons (rv.mono s) .nil)), R.laid nT _⟩
/-- for over enumerate(x), x a list or tuple that stays, or a list that may be written, as long as it is as it was -/
def sForRE (ta : DTA) (g : DTG) (tb : DTS) : DTS := fun E env l => ta env l fun ds l1 => match ds with
  | [.lst xs] => forL g tb (enumD 0 xs) E env l1
  | [.tup xs] => forL g tb (enumD 0 xs) E env l1
  | [.ref a] => getO l1 a fun o => match o with | .lst xs => forR a xs g tb (enumD 0 xs) E env l1 | _ => False
  | _ => False
section
variable {X : Cx}
def LI3 (K : PySem.W.Frag) (F Fr : Hp) (g : DTG) (tb : DTS) (E : DEnds) (env : DSt) : It → Hp → Prop := fun J H => ∃ F1 l1, Same F F1 ∧ Rep K F1 Fr l1 H ∧
  ((∃ ds, JOk K F1 J ds ∧ forL g tb ds E env l1) ∨ ∃ a ds, J = Ite K a ∧ forR a ds g tb (enumD 0 ds) E env l1)
theorem ds_forRE {e : Expr} {elts : List Expr} {kk : Nat} {tpos : Pos} {body : List Stmt} {ta : DTA} {g : DTG} {tb : DTS} {vs : List Nat} {p pos pos' : Pos} (hp : PassesOwn (model X.prog X.w) X.A X.env X.xe) (hc : X.calm = true) (hgl : Gl X "enumerate") (hm : X.mg "enumerate" = none) (hi : DA X [e] ta) (hg : DG X (.Tuple elts kk tpos) vs g) (hb : DSs X body tb)
    (hse : starEach [e] X.env = [(false, eval e X.env)] := by rfl) (hs : ∀ x, foldedSetIterable (.Call (.Name "enumerate" p) [e] [] pos') X.env x = pure x := by intro _; rfl) : DS X (.For (.Tuple elts kk tpos) (.Call (.Name "enumerate" p) [e] [] pos') body [] pos) (sForRE ta g tb) := by
  refine ⟨?_⟩
  intro F Fr env l σ H E he hr ht
  refine (ps_for hp hc piW pgW pssW hs).ws ?_
  have w : WI X (.Tuple elts kk tpos) (.Call (.Name "enumerate" p) [e] [] pos') σ H (LI3 X.K F Fr g tb E env) := by
    refine (pi_enumA hgl hm paW hse).wi ?_
    refine (hi F Fr env l σ H _ he hr ht).mono fun us H1 ⟨F1, ds, l1, s1, r1, R1, q1⟩ => ?_
    cases r1 with
    | nil => exact q1.elim
    | cons ra rr =>
      cases rr with
      | cons _ _ => cases ra <;> exact q1.elim
      | nil =>
        cases ra with
        | @tup p vs ds h1 rr => exact ⟨p, _, rfl, .inr ⟨tq (R1.fz _ _ h1), F1, l1, s1, R1, .inl ⟨_, jok_enumT (tq h1) rr, q1⟩⟩⟩
        | @lst p vs ds h1 rr => exact ⟨p, _, rfl, .inl ⟨.inl (.inl (R1.fz _ _ h1)), F1, l1, s1, R1, .inl ⟨_, jok_enum (.inl (.inl h1)) rr, q1⟩⟩⟩
        | ref a =>
          obtain ⟨o, ho, q⟩ := q1
          cases o with
          | lst ds =>
            obtain ⟨ws, rw', h1⟩ := (R1.lv _ _ ho).2
            exact ⟨a, _, rfl, .inl ⟨.inl (.inl h1), F1, l1, s1, R1, .inr ⟨a, ds, rfl, q⟩⟩⟩
          | _ => exact q.elim
        | _ => exact q1.elim
  refine w.mono fun J H1 ⟨F1, l1, s1, R1, q1⟩ => ?_
  have body_ok : ∀ {F2 : Hp} {l2 : LH} {σ2 : St} {H2 : Hp} {env2 : DSt} {d : D} {x : V} {Ek : DEnds} {N : St → Hp → Prop}, Same F1 F2 → RepE X.K F2 env2 σ2 → Rep X.K F2 Fr l2 H2 → RelD X.K F2 d x → Ek.rt = E.rt → Ek.bk = E.nx →
      (g d env2 l2 fun env1 l1 => tb Ek env1 l1) → (∀ σ5 H5 F5 env5 l5, Same F2 F5 → RepE X.K F5 env5 σ5 → Rep X.K F5 Fr l5 H5 → (Ek.nx env5 l5 ∨ Ek.ct env5 l5) → N σ5 H5) →
      WG X (.Tuple elts kk tpos) x σ2 H2 fun σ' H' => WSs X body { LE X.K F Fr E with nx := N, ct := N, bk := (LE X.K F Fr E).nx } σ' H' := by
    intro F2 l2 σ2 H2 env2 d x Ek N s2 he2 R2 rx e1 e2 q2 hN
    refine (hg F2 Fr env2 l2 σ2 H2 _ _ _ he2 R2 rx q2).mono fun σ4 H4 ⟨_, F4, env4, l4, s4, he4, R4, q4⟩ => ?_
    have S : Same F1 F4 := s2.trans s4
    refine (hb F4 Fr env4 l4 σ4 H4 _ he4 R4 q4).mono (fun σ5 H5 q => ?_) (fun _ _ q => ?_) (fun _ _ q => ?_) (fun σ5 H5 q => ?_)
    · obtain ⟨F5, env5, l5, s5, he5, R5, q5⟩ := q
      exact hN _ _ F5 env5 l5 (s4.trans s5) he5 R5 (.inl q5)
    · rw [show (LE X.K F4 Fr Ek).rt = LK X.K F4 Fr Ek.rt from rfl, e1] at q
      exact LK.weak (s1.trans S) q
    · rw [show (LE X.K F4 Fr Ek).bk = LS X.K F4 Fr Ek.bk from rfl, e2] at q
      exact LS.weak (s1.trans S) q
    · obtain ⟨F5, env5, l5, s5, he5, R5, q5⟩ := q
      exact hN _ _ F5 env5 l5 (s4.trans s5) he5 R5 (.inr q5)
  rcases q1 with ⟨ds, jk, q1⟩ | ⟨a, all, ej, q1⟩
  · refine ⟨fun i m σ H => m = ds.length - i ∧ i ≤ ds.length ∧ ∃ F' env l, Same F1 F' ∧ RepE X.K F' env σ ∧ Rep X.K F' Fr l H ∧ forL g tb (ds.drop i) E env l, ⟨_, rfl, Nat.zero_le _, F1, env, l1, Same.refl _, he.mono s1, R1, q1⟩, ?_⟩
    rintro i m σ H ⟨rfl, hi, F2, env, l, s2, he2, R2, q2⟩
    obtain ⟨j1, j2⟩ := jk i F2 Fr l H s2 R2
    by_cases hlt : i < ds.length
    · rw [List.drop_eq_getElem_cons hlt] at q2
      obtain ⟨go, y⟩ := j2 ds[i] (List.getElem?_eq_getElem hlt)
      refine .inr ⟨go, fun σ H => ∃ F' env l, Same F1 F' ∧ RepE X.K F' env σ ∧ Rep X.K F' Fr l H ∧ forL g tb (ds.drop (i + 1)) E env l, fun σ' H' h => ⟨_, by omega, rfl, hlt, h⟩, fun x H' hy => ?_⟩
      obtain ⟨F3, s3, rx, R3⟩ := y x H' hy
      refine body_ok (Ek := ⟨forL g tb (ds.drop (i + 1)) E, E.rt, E.nx, forL g tb (ds.drop (i + 1)) E⟩) (s2.trans s3) (he2.mono s3) R3 rx rfl rfl q2 fun σ5 H5 F5 env5 l5 s5 he5 R5 q5 => ⟨F5, env5, l5, (s2.trans s3).trans s5, he5, R5, by rcases q5 with q5 | q5 <;> exact q5⟩
    · have e : i = ds.length := by omega
      subst e
      rw [List.drop_length] at q2
      exact .inl ⟨j1 (Nat.le_refl _), F2, env, l, s1.trans s2, he2, R2, q2⟩
  · subst ej
    have hlen : (enumD 0 all).length = all.length := enumD_length all 0
    refine ⟨fun i m σ H => m = all.length - i ∧ i ≤ all.length ∧ ∃ F' env l, Same F1 F' ∧ RepE X.K F' env σ ∧ Rep X.K F' Fr l H ∧ forR a all g tb ((enumD 0 all).drop i) E env l, ⟨_, rfl, Nat.zero_le _, F1, env, l1, Same.refl _, he.mono s1, R1, q1⟩, ?_⟩
    rintro i m σ H ⟨rfl, hi, F2, env, l, s2, he2, R2, q2⟩
    obtain ⟨vs, rv, hq⟩ := (R2.lv _ _ (forR_at q2)).2
    have q : SqL X.K H a vs := .inl (.inl hq)
    by_cases hlt : i < all.length
    · have hlt2 : i < (enumD 0 all).length := by rw [hlen]; exact hlt
      rw [List.drop_eq_getElem_cons hlt2] at q2
      have ei : (enumD 0 all)[i] = .tup [.int (i : Nat), all[i]] := by
        have h1 := enumD_get all 0 i
        rw [List.getElem?_eq_getElem hlt2, List.getElem?_eq_getElem hlt, Nat.zero_add] at h1
        exact Option.some.inj h1
      rw [ei] at q2
      obtain ⟨v, hv, rx⟩ := rv.get (List.getElem?_eq_getElem hlt)
      refine .inr ⟨⟨vs, v, q, hv⟩, fun σ H => ∃ F' env l, Same F1 F' ∧ RepE X.K F' env σ ∧ Rep X.K F' Fr l H ∧ forR a all g tb ((enumD 0 all).drop (i + 1)) E env l, fun σ' H' h => ⟨_, by omega, rfl, hlt, h⟩, fun x H' hy => ?_⟩
      obtain ⟨T, x0, ex, nT, eH, y⟩ := hy
      subst ex eH
      have e := y vs q
      rw [hv] at e
      cases e
      have s3 : Same F2 (upd F2 T (.tup [.int (i : Nat), v])) := same_upd (R2.F_none nT)
      refine body_ok (Ek := ⟨forR a all g tb ((enumD 0 all).drop (i + 1)) E, E.rt, E.nx, forR a all g tb ((enumD 0 all).drop (i + 1)) E⟩) (s2.trans s3) (he2.mono s3) (R2.laid nT _) (relTup (R2.F_none nT) (.cons (.int _) (.cons rx .nil))) rfl rfl q2.2 fun σ5 H5 F5 env5 l5 s5 he5 R5 q5 => ⟨F5, env5, l5, (s2.trans s3).trans s5, he5, R5, by rcases q5 with q5 | q5 <;> exact q5⟩
    · have e : i = all.length := by omega
      subst e
      rw [← hlen, List.drop_length] at q2
      exact .inl ⟨⟨vs, q, by rw [← rv.length]; exact Nat.le_refl _⟩, F2, env, l, s1.trans s2, he2, R2, q2.2⟩
end
end DL

/-! a comprehension over a list that may be written, as long as it is as it was -/
namespace DL
open PySem PySem.Spec PyProof.Rows L2
def compR (a : Addr) (all : List D) (g : DTG) (tt : DTT) (te : DTE) (vs : List Nat) : List D → DSt → LH → (List D → LH → Prop) → Prop
  | [], _, l, Q => l a = some (.lst all) ∧ Q [] l
  | d :: ds, env, l, Q => l a = some (.lst all) ∧ wipeK vs env fun env0 => g d env0 l fun env1 l1 => tt env1 l1 fun c l2 =>
      ifB c (te env1 l2 fun r l3 => compR a all g tt te vs ds env l3 fun rs l4 => Q (r :: rs) l4) (compR a all g tt te vs ds env l2 Q)
theorem compR_at {a : Addr} {all : List D} {g : DTG} {tt : DTT} {te : DTE} {vs : List Nat} {ds : List D} {env : DSt} {l : LH} {Q : List D → LH → Prop} (h : compR a all g tt te vs ds env l Q) : l a = some (.lst all) := by
  cases ds <;> exact h.1
/-- the readings that a list at hand allows -/
def seqR (te : DTE) (R : List D → LH → Prop) (S : Addr → List D → LH → Prop) : DSt → LH → Prop := fun env l => te env l fun d l1 => match d with
  | .lst ds => R ds l1
  | .tup ds => R ds l1
  | .ref a => getO l1 a fun o => match o with | .lst ds => S a ds l1 | _ => False
  | _ => False
def LI4 (K : PySem.W.Frag) (F Fr : Hp) (R : List D → LH → Prop) (S : Addr → List D → LH → Prop) : It → Hp → Prop := fun J H => ∃ F1 l1, Same F F1 ∧ Rep K F1 Fr l1 H ∧
  ((∃ ds, JOk K F1 J ds ∧ R ds l1) ∨ ∃ a ds, J = Itl K a ∧ S a ds l1)
section
variable {X : Cx} {elt tg iter : Expr} {ifs : List Expr} {scope : Scope} {own : List (Str × Nat)} {pos : Pos} {tx : DTE} {g : DTG} {tt : DTT} {te : DTE}
theorem seqR_ok (hi : DE X iter tx) {F Fr : Hp} {env : DSt} {l : LH} {σ : St} {H : Hp} {R : List D → LH → Prop} {S : Addr → List D → LH → Prop} (he : RepE X.K F env σ) (hr : Rep X.K F Fr l H) (q : seqR tx R S env l) : WI X tg iter σ H (LI4 X.K F Fr R S) := fun pins s I => by
  refine thn (hi F Fr env l σ H _ he hr q pins s I) fun v s1 ⟨x, H1, I1, r1, F1, d, l1, s1', rd, R1, q1⟩ => ?_
  cases rd with
  | @tup p vs ds h1 rr => cases r1; exact it_tup I1 (tq (R1.fz _ _ h1)) ⟨F1, l1, s1', R1, .inl ⟨ds, jok_tup (tq h1) rr, q1⟩⟩
  | @lst p vs ds h1 rr => cases r1; exact it_list I1 (.inl (.inl (R1.fz _ _ h1))) ⟨F1, l1, s1', R1, .inl ⟨ds, jok_list (.inl (.inl h1)) rr, q1⟩⟩
  | ref a =>
    obtain ⟨o, ho, q⟩ := q1
    cases o with
    | lst ds =>
      obtain ⟨ws, rw', h1⟩ := (R1.lv _ _ ho).2
      cases r1
      exact it_list I1 (.inl (.inl h1)) ⟨F1, l1, s1', R1, .inr ⟨a, ds, rfl, q⟩⟩
    | _ => exact q.elim
  | _ => exact q1.elim
theorem comp_coreR {F Fr : Hp} {env : DSt} {l : LH} {σ : St} {H : Hp} {Qf : List D → LH → Prop} {Qd : VK} {vs : List Nat} {G : TG} {TT' : TT} {TE' : TE} (he : RepE X.K F env σ) (hr : Rep X.K F Fr l H)
    (hi : DE X iter tx)
    (hg : ∀ F Fr env l σ H d v Q, RepE X.K F env σ → Rep X.K F Fr l H → RelD X.K F d v → g d env l Q → G v σ H (LG X.K F Fr vs σ Q))
    (hgm : ∀ v σ H Q Q', G v σ H Q → (∀ σ H, Q σ H → Q' σ H) → G v σ H Q')
    (ht : ∀ F Fr env l σ H Q, RepE X.K F env σ → Rep X.K F Fr l H → tt env l Q → TT' σ H (LB X.K F Fr Q))
    (htm : ∀ σ H Q Q', TT' σ H Q → (∀ b H, Q b H → Q' b H) → TT' σ H Q')
    (hE : ∀ F Fr env l σ H Q, RepE X.K F env σ → Rep X.K F Fr l H → te env l Q → TE' σ H (LK X.K F Fr Q))
    (hEm : ∀ σ H Q Q', TE' σ H Q → (∀ v H, Q v H → Q' v H) → TE' σ H Q')
    (hd : ∀ F' Fr' l' H' D acc vacc, Same F F' → Fr' = upd Fr D (.lst vacc) → Fr D = none → RelDs X.K F' acc vacc → Rep X.K F' Fr' l' H' → Qf acc l' → Qd (.ref D) H')
    (q : seqR tx (fun ds l1 => ds.length ≤ sizeLine ∧ compL g tt te vs ds env l1 Qf) (fun a ds l1 => ds.length ≤ sizeLine ∧ compR a ds g tt te vs ds env l1 Qf) env l) : tLc (WI X tg iter) G TT' TE' vs σ H Qd := by
  refine (seqR_ok hi he hr q).mono fun J H1 ⟨F1, l1, s1, R1, q1⟩ => ?_
  intro p nD
  have nFr : Fr p = none := R1.Fr_none nD
  rcases q1 with ⟨ds, jk, hz, q1⟩ | ⟨a, ds, ej, hz, q1⟩
  · refine ⟨fun i m H => m = ds.length - i ∧ i ≤ ds.length ∧ ∃ F' l acc vacc, Same F1 F' ∧ Rep X.K F' (upd Fr p (.lst vacc)) l H ∧ RelDs X.K F' acc vacc ∧ acc.length ≤ i ∧ compL g tt te vs (ds.drop i) env l fun rs l' => Qf (acc ++ rs) l',
      ⟨_, rfl, Nat.zero_le _, F1, l1, [], [], Same.refl _, R1.take nD _, .nil, Nat.le_refl _, q1⟩, ?_⟩
    rintro i m H ⟨rfl, hi, F2, l2, acc, vacc, s2, R2, ra, hl, q2⟩
    obtain ⟨j1, j2⟩ := jk i F2 _ l2 H s2 R2
    by_cases hlt : i < ds.length
    · rw [List.drop_eq_getElem_cons hlt] at q2
      obtain ⟨go, y⟩ := j2 ds[i] (List.getElem?_eq_getElem hlt)
      refine .inr ⟨go, fun H => ∃ F' l acc vacc, Same F1 F' ∧ Rep X.K F' (upd Fr p (.lst vacc)) l H ∧ RelDs X.K F' acc vacc ∧ acc.length ≤ i + 1 ∧ compL g tt te vs (ds.drop (i + 1)) env l fun rs l' => Qf (acc ++ rs) l', fun H' h => ⟨_, by omega, rfl, hlt, h⟩, fun x H' hy => ?_⟩
      obtain ⟨F3, s3, rx, R3⟩ := y x H' hy
      replace q2 : wipeK vs env _ := q2
      rw [wipeK_eq] at q2
      have he3 : RepE X.K F3 (wipeE env vs) (L2.wipe σ vs) := (((he.mono s1).mono s2).mono s3).wipe vs
      refine hgm _ _ _ _ _ (hg F3 _ _ l2 _ H' _ _ _ he3 R3 rx q2) fun σ4 H4 ⟨w4, F4, env4, l4, s4, he4, R4, q4⟩ => ?_
      refine ⟨w4.trans (wipe_wipe σ vs), ?_⟩
      refine htm _ _ _ _ (ht F4 _ env4 l4 σ4 H4 _ he4 R4 q4) fun c H5 ⟨F5, l5, s5, R5, q5⟩ => ?_
      have S5 : Same F2 F5 := s3.trans (s4.trans s5)
      cases c with
      | false =>
        exact L2.iteF ⟨F5, l5, acc, vacc, s2.trans S5, R5, ra.mono S5, Nat.le_succ_of_le hl, ifB_F q5⟩
      | true =>
        refine L2.iteT (hEm _ _ _ _ (hE F5 _ env4 l5 σ4 H5 _ (he4.mono s5) R5 (ifB_T q5)) fun v H6 ⟨F6, d6, l6, s6, r6, R6, q6⟩ => ?_)
        have S6 : Same F2 F6 := S5.trans s6
        have ra6 := ra.mono S6
        refine ⟨vacc, R6.fr p _ upd_same, ?_, F6, l6, acc ++ [d6], vacc ++ [v], s2.trans S6, R6.turn _, ra6.append (.cons r6 .nil), ?_, ?_⟩
        · rw [← ra6.length]; omega
        · rw [List.length_append]; exact Nat.succ_le_succ hl
        · have e : (fun (rs : List D) l' => Qf (acc ++ [d6] ++ rs) l') = fun rs l' => Qf (acc ++ (d6 :: rs)) l' := by
            funext rs l'
            rw [List.append_assoc]
            rfl
          rw [e]
          exact q6
    · have e : i = ds.length := by omega
      subst e
      rw [List.drop_length] at q2
      replace q2 : Qf (acc ++ []) l2 := q2
      rw [List.append_nil] at q2
      exact .inl ⟨j1 (Nat.le_refl _), hd F2 _ l2 H p acc vacc (s1.trans s2) rfl nFr ra R2 q2⟩
  · subst ej
    refine ⟨fun i m H => m = ds.length - i ∧ i ≤ ds.length ∧ ∃ F' l acc vacc, Same F1 F' ∧ Rep X.K F' (upd Fr p (.lst vacc)) l H ∧ RelDs X.K F' acc vacc ∧ acc.length ≤ i ∧ compR a ds g tt te vs (ds.drop i) env l fun rs l' => Qf (acc ++ rs) l',
      ⟨_, rfl, Nat.zero_le _, F1, l1, [], [], Same.refl _, R1.take nD _, .nil, Nat.le_refl _, q1⟩, ?_⟩
    rintro i m H ⟨rfl, hi, F2, l2, acc, vacc, s2, R2, ra, hl, q2⟩
    obtain ⟨ws, rv, hq⟩ := (R2.lv _ _ (compR_at q2)).2
    have q : SqL X.K H a ws := .inl (.inl hq)
    by_cases hlt : i < ds.length
    · rw [List.drop_eq_getElem_cons hlt] at q2
      obtain ⟨v0, hv, rx⟩ := rv.get (List.getElem?_eq_getElem hlt)
      refine .inr ⟨⟨ws, v0, q, hv⟩, fun H => ∃ F' l acc vacc, Same F1 F' ∧ Rep X.K F' (upd Fr p (.lst vacc)) l H ∧ RelDs X.K F' acc vacc ∧ acc.length ≤ i + 1 ∧ compR a ds g tt te vs (ds.drop (i + 1)) env l fun rs l' => Qf (acc ++ rs) l', fun H' h => ⟨_, by omega, rfl, hlt, h⟩, fun x H' hy => ?_⟩
      obtain ⟨e, y⟩ := hy
      subst e
      have e := y ws q
      rw [hv] at e
      cases e
      replace q2 := q2.2
      replace q2 : wipeK vs env _ := q2
      rw [wipeK_eq] at q2
      have he3 : RepE X.K F2 (wipeE env vs) (L2.wipe σ vs) := ((he.mono s1).mono s2).wipe vs
      refine hgm _ _ _ _ _ (hg F2 _ _ l2 _ _ _ _ _ he3 R2 rx q2) fun σ4 H4 ⟨w4, F4, env4, l4, s4, he4, R4, q4⟩ => ?_
      refine ⟨w4.trans (wipe_wipe σ vs), ?_⟩
      refine htm _ _ _ _ (ht F4 _ env4 l4 σ4 H4 _ he4 R4 q4) fun c H5 ⟨F5, l5, s5, R5, q5⟩ => ?_
      have S5 : Same F2 F5 := s4.trans s5
      cases c with
      | false =>
        exact L2.iteF ⟨F5, l5, acc, vacc, s2.trans S5, R5, ra.mono S5, Nat.le_succ_of_le hl, ifB_F q5⟩
      | true =>
        refine L2.iteT (hEm _ _ _ _ (hE F5 _ env4 l5 σ4 H5 _ (he4.mono s5) R5 (ifB_T q5)) fun v H6 ⟨F6, d6, l6, s6, r6, R6, q6⟩ => ?_)
        have S6 : Same F2 F6 := S5.trans s6
        have ra6 := ra.mono S6
        refine ⟨vacc, R6.fr p _ upd_same, ?_, F6, l6, acc ++ [d6], vacc ++ [v], s2.trans S6, R6.turn _, ra6.append (.cons r6 .nil), ?_, ?_⟩
        · rw [← ra6.length]; omega
        · rw [List.length_append]; exact Nat.succ_le_succ hl
        · have e : (fun (rs : List D) l' => Qf (acc ++ [d6] ++ rs) l') = fun rs l' => Qf (acc ++ (d6 :: rs)) l' := by
            funext rs l'
            rw [List.append_assoc]
            rfl
          rw [e]
          exact q6
    · have e : i = ds.length := by omega
      subst e
      rw [List.drop_length] at q2
      replace q2 : _ ∧ Qf (acc ++ []) l2 := q2
      rw [List.append_nil] at q2
      exact .inl ⟨⟨ws, q, by rw [← rv.length]; exact Nat.le_refl _⟩, hd F2 _ l2 H p acc vacc (s1.trans s2) rfl nFr ra R2 q2.2⟩
/-- [.. for x in e], e a list or tuple that stays, or a list that may be written -/
def dLcR (tx : DTE) (g : DTG) (tt : DTT) (te : DTE) (vs : List Nat) : DTE := fun env l Q => tx env l fun d l1 => match d with
  | .lst ds => ds.length ≤ sizeLine ∧ compL g tt te vs ds env l1 fun rs l2 => Q (.lst rs) l2
  | .tup ds => ds.length ≤ sizeLine ∧ compL g tt te vs ds env l1 fun rs l2 => Q (.lst rs) l2
  | .ref a => getO l1 a fun o => match o with | .lst ds => ds.length ≤ sizeLine ∧ compR a ds g tt te vs ds env l1 fun rs l2 => Q (.lst rs) l2 | _ => False
  | _ => False
variable (hc : X.calm = true) (hN : X.N.Nodup) (hi : DE X iter tx) (ok : BlkOk X.N X.env.scope scope own)
    (hg : ∀ (s : Shared) (H : Hp) (C : Addr) (cl : List (Str × Addr)) (fp : List Addr), DG (X.blk s H scope (compEnvC scope cl C X.env) fp) tg (own.map (·.2)) g)
    (ht : ∀ (s : Shared) (H : Hp) (C : Addr) (cl : List (Str × Addr)) (fp : List Addr), DTs (X.blk s H scope (compEnvC scope cl C X.env) fp) ifs tt)
    (he : ∀ (s : Shared) (H : Hp) (C : Addr) (cl : List (Str × Addr)) (fp : List Addr), DE (X.blk s H scope (compEnvC scope cl C X.env) fp) elt te)
include hi hg ht he
theorem comp_anyR {F Fr : Hp} {env : DSt} {l : LH} {σ : St} {H : Hp} {Qf : List D → LH → Prop} {Qd : VK} (hE : RepE X.K F env σ) (hr : Rep X.K F Fr l H)
    (hd : ∀ F' Fr' l' H' D acc vacc, Same F F' → Fr' = upd Fr D (.lst vacc) → Fr D = none → RelDs X.K F' acc vacc → Rep X.K F' Fr' l' H' → Qf acc l' → Qd (.ref D) H')
    (q : seqR tx (fun ds l1 => ds.length ≤ sizeLine ∧ compL g tt te (own.map (·.2)) ds env l1 Qf) (fun a ds l1 => ds.length ≤ sizeLine ∧ compR a ds g tt te (own.map (·.2)) ds env l1 Qf) env l) : tLc (WI X tg iter) (AG X scope tg) (AT X scope ifs) (AE X scope elt) (own.map (·.2)) σ H Qd :=
  comp_coreR hE hr hi (fun F Fr env l σ H d v Q a b c d' s H0 C cl fp => hg s H0 C cl fp F Fr env l σ H d v Q a b c d') (fun v σ H Q Q' w h s H0 C cl fp => (w s H0 C cl fp).mono h)
    (fun F Fr env l σ H Q a b c s H0 C cl fp => (ht s H0 C cl fp).w F Fr env l σ H Q a b c) (fun σ H Q Q' w h s H0 C cl fp => (w s H0 C cl fp).mono h)
    (fun F Fr env l σ H Q a b c s H0 C cl fp => he s H0 C cl fp F Fr env l σ H Q a b c) (fun σ H Q Q' w h s H0 C cl fp => (w s H0 C cl fp).mono h) hd q
include hc hN ok
theorem de_lcR (hs : ∀ x, foldedSetIterable iter X.env x = pure x := by intro _; rfl) : DE X (.ListComp elt [⟨tg, iter, ifs, 0⟩] scope pos) (dLcR tx g tt te (own.map (·.2))) := by
  refine ⟨?_⟩
  intro F Fr env l σ H Q hE hr q
  refine (pe_lc (g := AG X scope tg) (tt := AT X scope ifs) (te := AE X scope elt) hc hN piW ok (fun s H0 C cl fp => ⟨fun pins s' σ' H' v u Q' I r h => h s H0 C cl fp pins s' u I r⟩) (fun s H0 C cl fp => ⟨fun pins s' σ' H' Q' I h => h s H0 C cl fp pins s' I⟩) (fun s H0 C cl fp => ⟨fun pins s' σ' H' Q' I h => h s H0 C cl fp pins s' I⟩) hs).we ?_
  exact comp_anyR hi hg ht he hE hr (fun F' Fr' l' H' p acc vacc s e n ra R q => lc_end s e n ra R q) q
theorem ds_setLcR {i : Nat} {y : Str} {py spos : Pos} (hy : X.N[i]? = some y) (hyl : X.env.scope.names.lookup y = some .local) (hsw : swapsWith (.ListComp elt [⟨tg, iter, ifs, 0⟩] scope pos) (some (.Name y py)) spos.line X.env = pure true)
    (hs : ∀ x, foldedSetIterable iter X.env x = pure x := by intro _; rfl) : DS X (.Assign [.Name y py] (.ListComp elt [⟨tg, iter, ifs, 0⟩] scope pos) spos) (sSet i (dLcR tx g tt te (own.map (·.2)))) := by
  refine ⟨?_⟩
  intro F Fr env l σ H E hE hr q
  refine (ps_setLc (g := AG X scope tg) (tt := AT X scope ifs) (te := AE X scope elt) hc hN hy hyl hsw piW ok (fun s H0 C cl fp => ⟨fun pins s' σ' H' v u Q' I r h => h s H0 C cl fp pins s' u I r⟩) (fun s H0 C cl fp => ⟨fun pins s' σ' H' Q' I h => h s H0 C cl fp pins s' I⟩) (fun s H0 C cl fp => ⟨fun pins s' σ' H' Q' I h => h s H0 C cl fp pins s' I⟩) hs).ws ?_
  refine comp_anyR hi hg ht he hE hr (fun F' Fr' l' H' p acc vacc s e n ra R q => ?_) q
  obtain ⟨F2, d, l2, s2, r2, R2, q2⟩ := lc_end (Q := fun d l1 => setK env i d fun env' => E.nx env' l1) s e n ra R q
  rw [setK_eq] at q2
  exact ⟨F2, _, l2, s2, (hE.mono s2).set r2 i, R2, q2⟩
end
end DL

/-! enumerate of a tuple in a comprehension; is True; lists of lists that may be written, compared -/
namespace DL
open PySem PySem.Spec PyProof.Rows L2
section
variable {X : Cx}
def iEnumA (ta : DTA) : DTI := fun env l R => ta env l fun ds l1 => match ds with
  | [.lst xs] => R (enumD 0 xs) l1
  | [.tup xs] => R (enumD 0 xs) l1
  | _ => False
theorem di_enumA {e : Expr} {ta : DTA} {p pos tpos : Pos} {elts : List Expr} {kk : Nat} (hg : Gl X "enumerate") (hm : X.mg "enumerate" = none) (ha : DA X [e] ta) (hs : starEach [e] X.env = [(false, eval e X.env)] := by rfl) : DI X (.Tuple elts kk tpos) (.Call (.Name "enumerate" p) [e] [] pos) (iEnumA ta) := by
  refine ⟨?_⟩
  intro F Fr env l σ H R he hr ht
  refine (pi_enumA hg hm paW hs).wi ?_
  refine (ha F Fr env l σ H _ he hr ht).mono fun us H1 ⟨F1, ds, l1, s1, r1, R1, q1⟩ => ?_
  cases r1 with
  | nil => exact q1.elim
  | cons ra rr =>
    cases rr with
    | cons _ _ => cases ra <;> exact q1.elim
    | nil =>
      cases ra with
      | @tup p vs ds h1 rr => exact ⟨p, _, rfl, .inr ⟨tq (R1.fz _ _ h1), F1, l1, _, s1, R1, jok_enumT (tq h1) rr, q1⟩⟩
      | @lst p vs ds h1 rr => exact ⟨p, _, rfl, .inl ⟨.inl (.inl (R1.fz _ _ h1)), F1, l1, _, s1, R1, jok_enum (.inl (.inl h1)) rr, q1⟩⟩
      | _ => exact q1.elim
/-! is True -/
def rNotB : V → V → Hp → VK → Prop := fun x y H Q => ∃ b c, x = .bl b ∧ y = .bl c ∧ Q (.bl (!(b == c))) H
theorem op_notB : OpR X (compareOp .IsNot) rNotB := by
  intro pins s σ H x y v u Q I rx ry h
  obtain ⟨b, c, rfl, rfl, q⟩ := h
  cases rx
  cases ry
  show wpAny _ _ ((isSame (Value.bool b) (Value.bool c)) >>= fun z => pure (Value.bool (!z))) _ _ s
  refine wpAny_bind (wpAny_isSame_plain rfl (wpAny_pure (fin_bl I q ?_)))
  cases b <;> cases c <;> rfl
def kNotB : D → D → LH → DK → Prop := fun x y l Q => match x, y with | .bl b, .bl c => Q (.bl (!(b == c))) l | _, _ => False
theorem kNotB_ok : KOp X rNotB kNotB := by
  intro F Fr l H Q d e v u Q' R rd re hq q
  cases rd with
  | bl b =>
    cases re with
    | bl c => exact ⟨b, c, rfl, rfl, hq _ _ (LK.mk (.bl _) R q)⟩
    | _ => exact q.elim
  | _ => exact q.elim
def dNotB : DTE → DTE → DTE := dOp kNotB
theorem de_notB {a b : Expr} {ta tb : DTE} {pos : Pos} (ha : DE X a ta) (hb : DE X b tb) : DE X (.Compare a [.IsNot] [b] pos) (dNotB ta tb) := de_cmp op_notB kNotB_ok ha hb (nomark _)
theorem dt_notB {a b : Expr} {ta tb : DTE} {pos : Pos} (ha : DE X a ta) (hb : DE X b tb) : DT X (.Compare a [.IsNot] [b] pos) (dTV (dNotB ta tb)) := dt_cmp op_notB kNotB_ok ha hb (nomark _)
/-! a list of lists that may be written, as they stand -/
def resLs : List D → LH → (List D → Prop) → Prop
  | [], _, k => k []
  | d :: ds, l, k => resL d l fun d' => resLs ds l fun ds' => k (d' :: ds')
theorem resLs_ok {K : PySem.W.Frag} {F Fr H : Hp} {l : LH} (R : Rep K F Fr l H) : ∀ {ds : List D} {vs : List V} {k : List D → Prop}, RelDs K F ds vs → resLs ds l k → ∃ ds', k ds' ∧ (PyData.canLayAll0 (toPys ds') = true → DpAll K H vs (toPys ds'))
  | [], _, k, .nil, q => ⟨[], q, fun _ => .nil⟩
  | d :: ds, _, k, .cons r rr, q => by
    obtain ⟨d', q, h1⟩ := resL_ok R r q
    obtain ⟨ds', q, h2⟩ := resLs_ok R rr q
    refine ⟨d' :: ds', q, fun c => ?_⟩
    rw [toPys, PyData.canLayAll0, Bool.and_eq_true] at c
    exact .cons (h1 c.1) (h2 c.2)
def resN (d : D) (l : LH) (k : D → Prop) : Prop := match d with
  | .lst ds => resLs ds l fun ds' => k (.lst ds')
  | _ => False
theorem resN_ok {K : PySem.W.Frag} {F Fr H : Hp} {l : LH} {d : D} {v : V} {k : D → Prop} (R : Rep K F Fr l H) (r : RelD K F d v) (q : resN d l k) : ∃ d', k d' ∧ ((toPy d').canLay0 = true → Dp K H v (toPy d')) := by
  cases r with
  | @lst p vs ds h1 rr =>
    obtain ⟨ds', q, h⟩ := resLs_ok R rr q
    refine ⟨_, q, fun c => ?_⟩
    rw [toPy, PyData.canLay0] at c
    exact .lst (.inl (.inl (R.fz _ _ h1))) (h c)
  | _ => exact q.elim
def kNeN : D → D → LH → DK → Prop := fun x y l Q => resN x l fun x => resN y l fun y => okD x ∧ okD y ∧ Q (.bl (!eqD x y)) l
theorem kNeN_ok : KOp X (rNeD X.K) kNeN := by
  intro F Fr l H Q d e v u Q' R rd re hq q
  obtain ⟨d', q, h1⟩ := resN_ok R rd q
  obtain ⟨e', q, h2⟩ := resN_ok R re q
  obtain ⟨c1, c2, q⟩ := q
  exact ⟨_, _, h1 (SeqAt.canLay_of_shaped c1), h2 (SeqAt.canLay_of_shaped c2), c1, c2, hq _ _ (LK.mk (.bl _) R q)⟩
def dNeN : DTE → DTE → DTE := dOp kNeN
theorem dt_neN {a b : Expr} {ta tb : DTE} {pos : Pos} (hu : X.A.units + 64 < cLine) (ha : DE X a ta) (hb : DE X b tb) : DT X (.Compare a [.NotEq] [b] pos) (dTV (dNeN ta tb)) := dt_cmp (op_neD hu) kNeN_ok ha hb (nomark _)
end
end DL

/-! min(list of numbers, default=number) -/
namespace DL
open PySem PySem.Spec PyProof.Rows L2
def minOf (e : Int) : List Int → Int
  | [] => e
  | n :: ns => ns.foldl min n
def rMinDef (K : PySem.W.Frag) : List V → List V → Hp → VK → Prop := fun vs zs H Q => ∃ (a : Addr) (ns : List Int) (e : Int), vs = [V.ref a] ∧ zs = [V.int e] ∧ SqL K H a (ns.map V.int) ∧ Q (.int (minOf e ns)) H
theorem dp_ints {K : PySem.W.Frag} {H : Hp} : ∀ ns : List Int, DpAll K H (ns.map V.int) (ns.map PyData.int)
  | [] => .nil
  | n :: ns => .cons (.int n) (dp_ints ns)
theorem depth_ints : ∀ ns : List Int, PyData.depthAll (ns.map PyData.int) = 0
  | [] => by rw [List.map_nil, PyData.depthAll]
  | n :: ns => by rw [List.map_cons, PyData.depthAll, PyData.depth, depth_ints ns]; rfl
theorem alike_intsM (ns : List Int) : PySem.W.AlikeAll (ns.map PyData.int) := ⟨fun x hx y hy => by
  obtain ⟨a, _, rfl⟩ := List.mem_map.mp hx
  obtain ⟨b, _, rfl⟩ := List.mem_map.mp hy
  rw [PySem.W.alike], fun x hx => by
  obtain ⟨a, _, rfl⟩ := List.mem_map.mp hx
  exact fun h => by cases h⟩
section
variable {X : Cx} {k : Nat}
theorem cr_minDef (hc : X.calm = true) (hr : Room k X.A) : CallRK X (.builtin "min") [Str.ofString "default"] (rMinDef X.K) := by
  intro pins s σ H vs zs us ws Q I r rz ⟨a, ns, e, ev, ez, hs, q⟩
  subst ev ez
  obtain ⟨its, rv, hl, _⟩ := I.list hs
  rw [Vals.ref1 r]
  obtain ⟨w1, ew, rw1⟩ := vals1 rz
  subst ew
  obtain ⟨t0, rfl⟩ := rw1
  obtain ⟨as, rd⟩ := Dp.readsAll I (ns.map PyData.int) _ its (dp_ints ns) rv
  show wpAny _ _ (call (.builtin "min") [.ref a] [(Str.ofString "default", .int e t0)]) _ _ s
  refine PySem.W.min_list_default (xs := ns.map PyData.int) (I.ok.hd hc) hl.isList (by simpa using rd) (alike_intsM ns) (by rw [depth_ints]; have := hr.un; omega) (fun hz h' tk hk => ?_) fun y ys i v h' tk bs hy hi r' hk => ?_
  · have e0 : ns = [] := List.map_eq_nil_iff.mp hz
    subst e0
    exact ⟨.int e, H, I.kept hk, ⟨t0, rfl⟩, q⟩
  · cases ns with
    | nil => cases hy
    | cons n ns =>
      rw [List.map_cons] at hy
      injection hy with h1 h2
      subst h1 h2
      rw [PySem.W.minD_ints] at r'
      cases r'
      exact ⟨.int (minOf e (n :: ns)), H, I.kept hk, ⟨_, rfl⟩, q⟩
def kMinDef : D → D → LH → DK → Prop := fun d z l2 Q => match d, z with
  | .lst ds, .int e => ∃ ns : List Int, ds = ns.map D.int ∧ Q (.int (minOf e ns)) l2
  | _, _ => False
def dMinDef (te td : DTE) : DTE := fun env l Q => te env l fun d l1 => td env l1 fun z l2 => kMinDef d z l2 Q
theorem rel_ints {K : PySem.W.Frag} {F : Hp} : ∀ {ns : List Int} {vs : List V}, RelDs K F (ns.map D.int) vs → vs = ns.map V.int
  | [], _, .nil => rfl
  | n :: ns, _, .cons r rr => by
    cases r
    rw [rel_ints rr]
    rfl
theorem de_minDef {e e2 : Expr} {te td : DTE} {p pos kp : Pos} (hr : Room k X.A) (hc : X.calm = true) (hg : Gl X "min") (hm : X.mg "min" = none) (h : DE X e te) (h2 : DE X e2 td)
    (he2 : backTo pos (starEach [e] X.env) = (false, eval e X.env) :: backTo pos (starEach [] X.env) := by rfl) (he : starEach [e] X.env = (false, eval e X.env) :: starEach [] X.env := by rfl) (hpl : (backTo pos (starEach [e] X.env)).any (·.1) = false := by rfl)
    (hall : (backToKw pos (keywordEach [⟨some "default", e2, kp⟩] X.env)).all (·.1.isSome) = true := by rfl) (hnone : (backToKw pos (keywordEach [⟨some "default", e2, kp⟩] X.env)).any (·.1.isNone) = false := by rfl) (hks : (backToKw pos (keywordEach [⟨some "default", e2, kp⟩] X.env)).filterMap (·.1) = [Str.ofString "default"] := by rfl) :
    DE X (.Call (.Name "min" p) [e] [⟨some "default", e2, kp⟩] pos) (dMinDef te td) := by
  refine ⟨?_⟩
  intro F Fr env l σ H Q hE hR ht
  refine (pe_callBK (r := rMinDef X.K) (cr_minDef hc hr) hg hm (by decide +kernel) paW (pk_cons peW pk_nil) (by decide) (by decide) he2 hpl hall hnone hks).we ?_
  have ha := da_cons h da_nil he
  refine (ha F Fr env l σ H (fun ds l1 => match ds with | [d] => td env l1 fun z l2 => kMinDef d z l2 Q | _ => False) hE hR ht).mono fun vs H1 ⟨F1, ds, l1, s1, r1, R1, q1⟩ => ?_
  cases r1 with
  | nil => exact q1.elim
  | cons r2 rr =>
    cases rr with
    | cons _ _ => exact q1.elim
    | nil =>
      refine (h2 F1 Fr env l1 σ H1 _ (hE.mono s1) R1 q1).mono fun v H2 ⟨F2, z, l2, s2, rz, R2, q2⟩ => ?_
      cases r2 with
      | lst h1 rr =>
        cases rz with
        | int e =>
          obtain ⟨ns, rfl, q2⟩ := q2
          have ei := rel_ints rr
          subst ei
          exact ⟨_, ns, e, rfl, rfl, .inl (.inl (R2.fz _ _ (s2 _ _ h1))), (LK.mk (.int _) R2 q2).weak (s1.trans s2)⟩
        | _ => exact q2.elim
      | _ => cases rz <;> exact q2.elim
end
end DL

/-! list(enumerate(x)), x a list or a tuple -/
namespace PySem.W
open PySem PySem.Calls PyProof.Rows PyProof.V PySem.Spec
section
variable {prog : Program} {w : World} {A : Around} {E : Value → Shared → Prop} {s : Shared}
/-- the next pair while the one given out last is kept: over anything that is drawn from -/
theorem dl_enum_held {e it T : Addr} {fp : List Addr} {n i : Nat} {P : Nat → Value → Prop} {St : Nat → Heap → Prop} {old : Value} {f : Bool} {oT : Obj} {Q : Option Value → Shared → Prop}
    (D : Draws prog w A.in1 it fp n P St) (he : IsEnumHeld s.heap e it i old T f) (hT : s.heap.get? T = some oT) (hTe : T ≠ e) (hTi : T ≠ it) (hst : St i s.heap) (hlt : i < n) (hne : e ≠ it) (hef : e ∉ fp)
    (hQ : ∀ x h' tk, P i x → IsEnumHeld h' e it ((i : Int) + 1) old T true → St (i + 1) h' →
      h'.get? s.heap.objs.size = some { cls := .type "tuple", data := .seq #[.int i tk, x] } → h'.objs.size = s.heap.objs.size + 1 →
      (∀ b o, b ≠ e → b ≠ it → s.heap.get? b = some o → h'.get? b = some o) → Q (some (.ref s.heap.objs.size)) { s with heap := h', toks := tk + 1 }) :
    wpAny (model prog w) A (pyNext (.ref e)) Q E s := by
  have hTy : s.TypeIs (.ref e) "enumerate" := ⟨_, he, rfl⟩
  unfold pyNext
  refine wpAny_bind (wpAny_attempt (wpAny_callSpecial?_slot (name := Str.ofString "__next__") hTy F.slot_enumerate_next
    (wpAny_call_entry F.slot_enumerate_next hTy F.entry_enumerate_next ?_ (F.args_enumerate_next_1 _))))
  obtain ⟨hp, g, d, tk₀, os⟩ := s
  show wpAny _ _ (field (.ref e) 2 >>= _) _ _ _
  refine wpAny_bind (wpAny_field he rfl (x := .ref it) rfl ?_)
  refine wpAny_bind (D.item i _ _ _ hlt hst fun x h₁ tk hPx hit₁ hs₁ => ?_)
  replace hs₁ : Heap.SameBut it hp h₁ := hs₁
  have he₁ : IsEnumHeld h₁ e it i old T f := (hs₁.2 e hne).trans he
  show wpAny _ _ (field (.ref e) 3 >>= _) _ _ ⟨h₁, g, d, tk, os⟩
  refine wpAny_bind (wpAny_field he₁ rfl (x := rawInt i) rfl ?_)
  show wpAny _ _ (field (.ref e) 4 >>= _) _ _ ⟨h₁, g, d, tk, os⟩
  refine wpAny_bind (wpAny_field he₁ rfl (x := .none) rfl ?_)
  show wpAny _ _ (mkInt i >>= _) _ _ ⟨h₁, g, d, tk, os⟩
  refine wpAny_bind (wpAny_mkInt ?_)
  show wpAny _ _ (setField (.ref e) 3 (rawInt ((i : Int) + 1)) >>= _) _ _ ⟨h₁, g, d, tk + 1, os⟩
  refine wpAny_bind (wpAny_setField_rec he₁ (by simp) fun h₂ he₂ hs₂ => ?_)
  replace hs₂ : Heap.SameBut e h₁ h₂ := hs₂
  replace he₂ : IsEnumHeld h₂ e it ((i : Int) + 1) old T f := he₂
  show wpAny _ _ (setField (.ref e) 4 .none >>= _) _ _ ⟨h₂, g, d, tk + 1, os⟩
  refine wpAny_bind (wpAny_setField_rec he₂ (by simp) fun h₃ he₃ hs₃ => ?_)
  replace hs₃ : Heap.SameBut e h₂ h₃ := hs₃
  replace he₃ : IsEnumHeld h₃ e it ((i : Int) + 1) old T f := he₃
  show wpAny _ _ (newTuple [.int i tk, x] >>= _) _ _ ⟨h₃, g, d, tk + 1, os⟩
  refine wpAny_bind (wpAny_newTuple ?_)
  have he₄ : IsEnumHeld (h₃.push { cls := .type "tuple", data := .seq #[.int i tk, x] }) e it ((i : Int) + 1) old T f := Heap.get?_push_of_some _ he₃
  generalize hh₄ : h₃.push { cls := .type "tuple", data := .seq #[.int i tk, x] } = h₄ at he₄
  have hsz : h₃.objs.size = hp.objs.size := by rw [hs₃.1, hs₂.1, hs₁.1]
  have hel : e < hp.objs.size := Heap.lt_size he
  have ht₄ : h₄.get? hp.objs.size = some { cls := .type "tuple", data := .seq #[.int i tk, x] } := by rw [← hh₄, ← hsz]; exact Heap.get?_push_size _ rfl
  have hz₄ : h₄.objs.size = hp.objs.size + 1 := by rw [← hh₄, Heap.size_push, hsz]
  have hk₄ : ∀ b o, b ≠ e → b ≠ it → hp.get? b = some o → h₄.get? b = some o := fun b o hbe hbi hb => by
    rw [← hh₄]; exact Heap.get?_push_of_some _ (hs₃.extBut b o hbe (hs₂.extBut b o hbe (hs₁.extBut b o hbi hb)))
  have hit₄ : St (i + 1) h₄ := D.frame _ _ _ hit₁ fun b hb o y => by
    have hbe : b ≠ e := fun q => hef (q ▸ hb)
    rw [← hh₄]; exact Heap.get?_push_of_some _ (hs₃.extBut b o hbe (hs₂.extBut b o hbe y))
  show wpAny _ _ (Builtin.SmallTypes.ownedTupleIsFree (.ref e) >>= _) _ _ ⟨h₄, g, d, tk + 1, os⟩
  rw [hsz]
  clear hh₄ he₃ hs₃ he₂ hs₂ he₁ hs₁ hit₁ hsz h₃ h₂ h₁
  refine wpAny_bind (wpAny_tupleHeld_enum (s := ⟨h₄, g, d, tk + 1, os⟩) he₄ (hk₄ T oT hTe hTi hT) fun h₅ he₅ hs₅ => ?_)
  replace hs₅ : Heap.SameBut e h₄ h₅ := hs₅
  simp only [Bool.false_eq_true, if_false]
  refine wpAny_pure ⟨_, rfl, wpAny_pure (hQ x h₅ tk hPx he₅ (D.frame _ _ _ hit₄ fun b hb o y => hs₅.extBut b o (fun q => hef (q ▸ hb)) y) (hs₅.extBut _ _ (Nat.ne_of_gt hel) ht₄) ?_ fun b o hbe hbi hb => hs₅.extBut b o hbe (hk₄ b o hbe hbi hb))⟩
  show h₅.objs.size = hp.objs.size + 1
  rw [hs₅.1, hz₄]
theorem dl_enum_end {e it T : Addr} {fp : List Addr} {n : Nat} {P : Nat → Value → Prop} {St : Nat → Heap → Prop} {i : Int} {old : Value} {f : Bool} {Q : Option Value → Shared → Prop}
    (D : Draws prog w A.in1 it fp n P St) (he : IsEnumHeld s.heap e it i old T f) (hst : St n s.heap)
    (hQ : ∀ h', Heap.ExtBut it s.heap h' → Q none { s with heap := h' }) : wpAny (model prog w) A (pyNext (.ref e)) Q E s := by
  have hTy : s.TypeIs (.ref e) "enumerate" := ⟨_, he, rfl⟩
  unfold pyNext
  refine wpAny_bind (wpAny_attempt (wpAny_callSpecial?_slot (name := Str.ofString "__next__") hTy F.slot_enumerate_next
    (wpAny_call_entry F.slot_enumerate_next hTy F.entry_enumerate_next ?_ (F.args_enumerate_next_1 _))))
  show wpAny _ _ (field (.ref e) 2 >>= _) _ _ _
  refine wpAny_bind (wpAny_field he rfl (x := .ref it) rfl ?_)
  refine wpAny_bind (D.done _ _ _ hst fun h' x he' hx' => ?_)
  obtain ⟨o, ho, hc⟩ := hx'
  refine wpAny_bind (wpAny_isInstance (T := "StopIteration") (b := true) ⟨o, ho, hc⟩ isSubtype_stop ?_)
  exact wpAny_pure (hQ _ he')
end
/-- what stands while list() takes the pairs -/
def EnSt (St : Nat → Heap → Prop) (e it S : Addr) (i : Nat) (h : Heap) : Prop := St i h ∧ ((∃ old, IsEnum h e it i old) ∨ ∃ old T f oT, IsEnumHeld h e it i old T f ∧ h.get? T = some oT ∧ T ≠ e ∧ T ≠ it ∧ T ≠ S)
structure EnG (P : Nat → Value → Prop) (lo : Addr) (h : Heap) (as : List Addr) : Prop where
  rise : as.Pairwise (· < ·)
  above : ∀ a ∈ as, lo ≤ a
  pairs : ∀ (j : Nat) (a : Addr), as[j]? = some a → ∃ t x, P j x ∧ h.get? a = some { cls := .type "tuple", data := .seq #[.int j t, x] }
theorem EnG.there {P : Nat → Value → Prop} {lo : Addr} {h : Heap} {as : List Addr} (g : EnG P lo h as) {a : Addr} (ha : a ∈ as) : a < h.objs.size := by
  obtain ⟨j, hj⟩ := List.mem_iff_getElem?.mp ha
  obtain ⟨_, _, _, e⟩ := g.pairs j a hj
  exact Heap.lt_size e
section
variable {prog : Program} {w : World} {A : Around} {s : Shared} {R : Result → Shared → Prop} {fp : List Addr} {n : Nat} {P : Nat → Value → Prop} {St : Nat → Heap → Prop}
theorem EnSt.keep {e it S : Addr} {i : Nat} {h h' : Heap} (D : Draws prog w A.in1 it fp n P St) (hSf : S ∉ fp) (hSe : S ≠ e) (x : EnSt St e it S i h) (hk : ∀ b o, b ≠ S → h.get? b = some o → h'.get? b = some o) : EnSt St e it S i h' := by
  obtain ⟨st, he⟩ := x
  refine ⟨D.frame _ _ _ st fun b hb o y => hk b o (fun z => hSf (z ▸ hb)) y, ?_⟩
  rcases he with ⟨old, he⟩ | ⟨old, T, f, oT, he, hT, r1, r2, r3⟩
  · exact .inl ⟨old, hk _ _ (Ne.symm hSe) he⟩
  · exact .inr ⟨old, T, f, oT, hk _ _ (Ne.symm hSe) he, hk _ _ r3 hT, r1, r2, r3⟩
theorem en_item {e it S : Addr} {i : Nat} {E : Value → Shared → Prop} {Q : Option Value → Shared → Prop} (D : Draws prog w A.in1.in1 it fp n P St) (hst : EnSt St e it S i s.heap) (hlt : i < n) (hne : e ≠ it) (hef : e ∉ fp) (hS : S < s.heap.objs.size) (hit : it < s.heap.objs.size)
    (hQ : ∀ x h' tk, P i x → EnSt St e it S (i + 1) h' → h'.get? s.heap.objs.size = some { cls := .type "tuple", data := .seq #[.int i tk, x] } → h'.objs.size = s.heap.objs.size + 1 →
      (∀ b o, b ≠ e → b ≠ it → s.heap.get? b = some o → h'.get? b = some o) → Q (some (.ref s.heap.objs.size)) { s with heap := h', toks := tk + 1 }) : wpAny (model prog w) A.in1 (pyNext (.ref e)) Q E s := by
  obtain ⟨st, he⟩ := hst
  have ec : ((i + 1 : Nat) : Int) = (i : Int) + 1 := by omega
  rcases he with ⟨old, he⟩ | ⟨old, T, f, oT, he, hT, r1, r2, r3⟩
  · refine wpAny_pyNext_enum_itemD D he st hlt hne hef fun x h' tk hP ho hs' hT hsz hk => ?_
    exact hQ x h' tk hP ⟨hs', .inr ⟨_, s.heap.objs.size, false, _, (by rw [ec]; exact ho), hT, Nat.ne_of_gt (Heap.lt_size he), Nat.ne_of_gt hit, Nat.ne_of_gt hS⟩⟩ hT hsz hk
  · refine dl_enum_held D he hT r1 r2 st hlt hne hef fun x h' tk hP ho hs' hT' hsz hk => ?_
    exact hQ x h' tk hP ⟨hs', .inr ⟨old, T, true, oT, (by rw [ec]; exact ho), hk _ _ r1 r2 hT, r1, r2, r3⟩⟩ hT' hsz hk
theorem en_done {e it S : Addr} {E : Value → Shared → Prop} {Q : Option Value → Shared → Prop} (D : Draws prog w A.in1.in1 it fp n P St) (hst : EnSt St e it S n s.heap) (hQ : ∀ h', Heap.ExtBut it s.heap h' → Q none { s with heap := h' }) : wpAny (model prog w) A.in1 (pyNext (.ref e)) Q E s := by
  obtain ⟨st, he⟩ := hst
  rcases he with ⟨old, he⟩ | ⟨old, T, f, oT, he, _⟩
  · exact wpAny_pyNext_enum_endD D he st hQ
  · exact dl_enum_end D he st hQ
theorem en_loop {S e it : Addr} (D : Draws prog w A.in1.in1 it fp n P St) (hSe : S ≠ e) (hSi : S ≠ it) (hSf : S ∉ fp) (hne : e ≠ it) (hef : e ∉ fp) (hn : n ≤ sizeLine) (res : Value) {lo : Addr} (lS : S < lo) (le : e < lo) (li : it < lo) {h₁ : Heap}
    (hR : ∀ h' tk acc c as, (∀ b o, b ≠ S → b ≠ e → b ≠ it → h₁.get? b = some o → h'.get? b = some o) → h'.get? S = some { cls := .type "list", dict := none, data := .seq acc c, slots := #[] } → as.length = n → EnG P lo h' as →
      acc.toList = as.map Value.ref → R (.ok (.ret res)) { s with heap := h', toks := tk }) :
    ∀ (k i : Nat) (h : Heap) (tk : Nat) (c : Nat) (acc : Array Value) (as : List Addr), n - i = k → i ≤ n → EnSt St e it S i h → (∀ b o, b ≠ S → b ≠ e → b ≠ it → h₁.get? b = some o → h.get? b = some o) →
      h.get? S = some { cls := .type "list", dict := none, data := .seq acc c, slots := #[] } → acc.toList = as.map Value.ref → as.length = i → EnG P lo h as → lo ≤ h.objs.size →
      codeAny (model prog w) A (.builtin "list.extend.loop" ⟨[.ref S, .ref e, res], []⟩) R { s with heap := h, toks := tk } := by
  intro k
  induction k with
  | zero =>
    intro i h tk c acc as hk hi hst hkeep hS hacc hal hG hIs
    have hin : i = n := by omega
    subst hin
    refine codeAny_builtin PySem.F.entry_extend_loop ?_
    rw [Around.under_plainId PySem.F.plain_extend_loop _]
    show wpAny _ A.in1 (pyNext (.ref e) >>= _) _ _ _
    refine wpAny_bind (en_done (s := { s with heap := h, toks := tk }) D hst fun h' he => ?_)
    refine wpAny_pure (hR h' tk acc c as (fun b o h1 h2 h3 e => he b o h3 (hkeep b o h1 h2 h3 e)) (he S _ hSi hS) hal ⟨hG.rise, hG.above, fun j a hj => ?_⟩ hacc)
    obtain ⟨t, x, e1, e2⟩ := hG.pairs j a hj
    have := hG.above a (List.mem_of_getElem? hj)
    exact ⟨t, x, e1, he a _ (Nat.ne_of_gt (Nat.lt_of_lt_of_le li this)) e2⟩
  | succ k ih =>
    intro i h tk c acc as hk hi hst hkeep hS hacc hal hG hIs
    have hlt : i < n := by omega
    have hsz : acc.size = i := by rw [← Array.length_toList, hacc, List.length_map, hal]
    have hSl : S < h.objs.size := Heap.lt_size hS
    refine codeAny_builtin PySem.F.entry_extend_loop ?_
    rw [Around.under_plainId PySem.F.plain_extend_loop _]
    show wpAny _ A.in1 (pyNext (.ref e) >>= _) _ _ _
    refine wpAny_bind (en_item (s := { s with heap := h, toks := tk }) D hst hlt hne hef hSl (Nat.lt_of_lt_of_le li hIs) fun x h' tk' hP hst' ht hz hkp => ?_)
    dsimp only at ht hz hkp ⊢
    have hS' := hkp S _ hSe hSi hS
    have up : ∀ b o, b ≠ S → h'.get? b = some o → (h'.update S (Obj.mapSeq (·.push (Value.ref h.objs.size)))).get? b = some o := fun b o hb e => (Heap.get?_update_other _ _ (Ne.symm hb)).trans e
    show wpAny _ A.in1 (updateSeq S (·.push (Value.ref h.objs.size)) >>= _) _ _ _
    refine wpAny_bind ?_
    refine wpAny_updateSeq hS' rfl (wpAny_pure ⟨plainId_quiet PySem.F.plain_extend_loop _, ih (i + 1) _ (tk' + 1) _ (acc.push (Value.ref h.objs.size)) (as ++ [h.objs.size]) (by omega) hlt (hst'.keep D hSf hSe up)
      (fun b o h1 h2 h3 e => up b o h1 (hkp b o h2 h3 (hkeep b o h1 h2 h3 e))) (Heap.get?_update_self _ hS' rfl) (by rw [Array.toList_push, hacc, List.map_append]; rfl) (by rw [List.length_append, hal]; rfl) ⟨?_, ?_, ?_⟩ ?_⟩) (by rw [hsz]; omega) (by show (acc.push (Value.ref h.objs.size)).size ≤ sizeLine + 1; rw [Array.size_push, hsz]; omega)
    · refine List.pairwise_append.mpr ⟨hG.rise, List.pairwise_singleton _ _, fun a ha b hb => ?_⟩
      rw [List.mem_singleton.mp hb]
      exact hG.there ha
    · intro a ha
      rcases List.mem_append.mp ha with ha | ha
      · exact hG.above a ha
      · rw [List.mem_singleton.mp ha]; exact hIs
    · intro j b hj
      rcases Nat.lt_trichotomy j as.length with h1 | h1 | h1
      · rw [List.getElem?_append_left h1] at hj
        obtain ⟨t', x', e1, e2⟩ := hG.pairs j b hj
        have hb := hG.above b (List.mem_of_getElem? hj)
        exact ⟨t', x', e1, up b _ (Nat.ne_of_gt (Nat.lt_of_lt_of_le lS hb)) (hkp b _ (Nat.ne_of_gt (Nat.lt_of_lt_of_le le hb)) (Nat.ne_of_gt (Nat.lt_of_lt_of_le li hb)) e2)⟩
      · subst h1
        have hb : h.objs.size = b := by simpa using hj
        subst hb
        refine ⟨tk', x, by rw [hal]; exact hP, up _ _ (Nat.ne_of_gt hSl) ?_⟩
        rw [hal]
        exact ht
      · have hnone : (as ++ [h.objs.size])[j]? = none := List.getElem?_eq_none (by rw [List.length_append, List.length_singleton]; omega)
        rw [hnone] at hj; cases hj
    · have e1 : (h'.update S (Obj.mapSeq (·.push (Value.ref h.objs.size)))).get? h.objs.size = _ := up _ _ (Nat.ne_of_gt hSl) ht
      exact Nat.le_of_lt (Nat.lt_of_le_of_lt hIs (Heap.lt_size e1))
end
theorem en_len : typeLookup (.type "enumerate") "__len__" = pure none := am_miss_of_fast (by decide +kernel)
theorem en_lenhint : typeLookup (.type "enumerate") "__length_hint__" = pure none := am_miss_of_fast (by decide +kernel)
section
variable {prog : Program} {w : World} {A : Around} {E : Value → Shared → Prop} {s : Shared}
theorem en_hint {r : Addr} (hT : s.TypeIs (.ref r) "enumerate") {Q : Bool → Shared → Prop} (h : Q true s) : wpAny (model prog w) A (Builtin.List.listLengthHint (.ref r)) Q E s := by
  unfold Builtin.List.listLengthHint
  refine wpAny_bind (wpAny_specialOf hT en_len ?_)
  refine wpAny_bind (wpAny_specialOf hT en_lenhint ?_)
  exact wpAny_pure h
variable {R : Result → Shared → Prop} {fp : List Addr} {n : Nat} {P : Nat → Value → Prop} {St : Nat → Heap → Prop}
theorem en_extend {e it S : Addr} (D : Draws prog w A.in1.in1 it fp n P St) (hSe : S ≠ e) (hSi : S ≠ it) (hSf : S ∉ fp) (hne : e ≠ it) (hef : e ∉ fp) (hn : n ≤ sizeLine) (res : Value) (c₀ : Nat) {old : Value}
    (he : IsEnum s.heap e it ((0 : Nat) : Int) old) (st : St 0 s.heap) (hit : it < s.heap.objs.size) (hS : s.heap.get? S = some { cls := .type "list", data := .seq #[] c₀ })
    (hR : ∀ h' tk acc c as, (∀ b o, b ≠ S → b ≠ e → b ≠ it → s.heap.get? b = some o → h'.get? b = some o) → h'.get? S = some { cls := .type "list", dict := none, data := .seq acc c, slots := #[] } → as.length = n → EnG P s.heap.objs.size h' as →
      acc.toList = as.map Value.ref → R (.ok (.ret res)) { s with heap := h', toks := tk }) :
    wpAny (model prog w) A.in1 (Builtin.List.listExtendWith (.ref S) (.ref e) res)
      (fun fin s' => match fin with | .done f => R (.ok f) s' | .again c' => c'.quiet = true ∧ codeAny (model prog w) A c' R s') (fun e s' => R (.error e) s') s := by
  have hSl : S < s.heap.objs.size := Heap.lt_size hS
  have hel : e < s.heap.objs.size := Heap.lt_size he
  have hT : s.TypeIs (.ref e) "enumerate" := ⟨_, he, rfl⟩
  have key : ∀ (h : Heap) (c₁ tk : Nat), s.heap.objs.size ≤ h.objs.size → (∀ b o, b ≠ S → s.heap.get? b = some o → h.get? b = some o) →
      h.get? S = some { cls := .type "list", data := .seq #[] c₁ } → codeAny (model prog w) A (.builtin "list.extend.loop" ⟨[.ref S, .ref e, res], []⟩) R { s with heap := h, toks := tk } := by
    intro h c₁ tk hz hk hS₁
    have st₁ : EnSt St e it S 0 s.heap := ⟨st, .inl ⟨old, he⟩⟩
    refine en_loop (s := s) (h₁ := s.heap) (lo := s.heap.objs.size) D hSe hSi hSf hne hef hn res hSl hel hit hR n 0 h tk c₁ #[] [] (Nat.sub_zero _) (Nat.zero_le _) (st₁.keep D hSf hSe hk) (fun b o h1 _ _ e => hk b o h1 e) hS₁ rfl rfl ⟨List.Pairwise.nil, (fun _ ha => nomatch ha), (fun j a hj => by simp at hj)⟩ hz
  unfold Builtin.List.listExtendWith
  refine wpAny_bind (wpAny_typeOf (T := "enumerate") hT ?_)
  have h1 : Builtin.List.listSameRef (.ref S) (.ref e) = false := by simp [Builtin.List.listSameRef, hSe]
  have h2 : (Value.type "enumerate" == Value.type "list") = false := by decide
  have h3 : (Value.type "enumerate" == Value.type "tuple") = false := by decide
  simp only [h1, h2, h3, Bool.or_false, Bool.false_eq_true, if_false]
  refine wpAny_bind (wpAny_pyIter_enum he ?_)
  refine wpAny_bind (wpAny_holding (en_hint hT ?_))
  refine wpAny_ite_split (fun _ => ?_) (fun _ => wpAny_pure ⟨plainId_quiet PySem.F.plain_extend_loop _, key _ c₀ _ (Nat.le_refl _) (fun b o _ e => e) hS⟩)
  refine wpAny_bind (wpAny_rule ?_)
  refine wpAny_bind ?_
  show wpAny _ _ (updateSeq S (·.push .none) >>= fun _ => updateSeq S (·.pop)) _ _ _
  refine wpAny_bind (wpAny_updateSeq hS rfl ?_)
  have hS₂ := Heap.get?_update_self (Obj.mapSeq (·.push Value.none)) hS rfl
  refine wpAny_updateSeq (hz := by seq_fits) hS₂ rfl ?_
  have hS₃ := Heap.get?_update_self (Obj.mapSeq (·.pop)) hS₂ rfl
  refine wpAny_pure ⟨plainId_quiet PySem.F.plain_extend_loop _, key _ _ _ ?_ (fun b o hb e => ?_) hS₃⟩
  · exact Nat.le_of_eq (by rw [Heap.size_update, Heap.size_update])
  · exact (Heap.get?_update_other _ _ (Ne.symm hb)).trans ((Heap.get?_update_other _ _ (Ne.symm hb)).trans e)
theorem en_init {e it S : Addr} (D : Draws prog w A.in1.in1 it fp n P St) (hSe : S ≠ e) (hSi : S ≠ it) (hSf : S ∉ fp) (hne : e ≠ it) (hef : e ∉ fp) (hn : n ≤ sizeLine) {old : Value}
    (he : IsEnum s.heap e it ((0 : Nat) : Int) old) (st : St 0 s.heap) (hit : it < s.heap.objs.size) (hS : s.heap.get? S = some { cls := .type "list", data := .seq #[] })
    (hR : ∀ h' tk acc c as, (∀ b o, b ≠ S → b ≠ e → b ≠ it → s.heap.get? b = some o → h'.get? b = some o) → h'.get? S = some { cls := .type "list", dict := none, data := .seq acc c, slots := #[] } → as.length = n → EnG P s.heap.objs.size h' as →
      acc.toList = as.map Value.ref → R (.ok (.ret .none)) { s with heap := h', toks := tk }) :
    wpAny (model prog w) A.in1 (Builtin.«list.__init__» ⟨[.ref S, .ref e], []⟩)
      (fun fin s' => match fin with | .done f => R (.ok f) s' | .again c' => c'.quiet = true ∧ codeAny (model prog w) A c' R s') (fun e s' => R (.error e) s') s := by
  show wpAny _ _ (do let old ← Builtin.List.listItems (.ref S); Builtin.List.listUpdate (.ref S) (fun _ => #[]); letGo old.toList.reverse; Builtin.List.listExtendWith (.ref S) (.ref e) .none) _ _ s
  refine wpAny_bind ?_
  unfold Builtin.List.listItems
  refine wpAny_bind (wpAny_seqItems hS rfl (wpAny_pure ?_))
  show wpAny _ _ (updateSeq S (fun _ => #[]) >>= fun _ => letGo (#[] : Array Value).toList.reverse >>= fun _ => Builtin.List.listExtendWith (.ref S) (.ref e) .none) _ _ s
  refine wpAny_bind (wpAny_updateSeq hS rfl ?_)
  have hS₂ := Heap.get?_update_self (Obj.mapSeq (fun _ => (#[] : Array Value))) hS rfl
  have oth : ∀ b o, b ≠ S → s.heap.get? b = some o → (s.heap.update S (Obj.mapSeq (fun _ => (#[] : Array Value)))).get? b = some o :=
    fun b o hb e => (Heap.get?_update_other _ _ (Ne.symm hb)).trans e
  have hz : (s.heap.update S (Obj.mapSeq (fun _ => (#[] : Array Value)))).objs.size = s.heap.objs.size := Heap.size_update ..
  refine wpAny_bind (wpAny_letGo ?_)
  refine en_extend (s := { s with heap := s.heap.update S (Obj.mapSeq (fun _ => (#[] : Array Value))) }) D hSe hSi hSf hne hef hn .none _ (oth e _ (Ne.symm hSe) he) (D.frame _ _ _ st fun b hb o y => oth b o (fun z => hSf (z ▸ hb)) y) (by rw [hz]; exact hit) hS₂ fun h' tk acc c as hk hS' hl hG hacc => ?_
  rw [hz] at hG
  exact hR h' tk acc c as (fun b o hb h2 h3 e => hk b o hb h2 h3 (oth b o hb e)) hS' hl hG hacc
theorem en_call {e it : Addr} {Q : Value → Shared → Prop} (D : Draws prog w A.in1.in1.in1 it fp n P St) (hne : e ≠ it) (hef : e ∉ fp) (hfp : ∀ b ∈ fp, b < s.heap.objs.size) (hn : n ≤ sizeLine) {old : Value}
    (he : IsEnum s.heap e it ((0 : Nat) : Int) old) (st : St 0 s.heap) (hit : it < s.heap.objs.size)
    (hQ : ∀ h' tk acc c as, (∀ b o, b ≠ e → b ≠ it → s.heap.get? b = some o → h'.get? b = some o) → h'.get? s.heap.objs.size = some { cls := .type "list", dict := none, data := .seq acc c, slots := #[] } → as.length = n → EnG P (s.heap.objs.size + 1) h' as →
      acc.toList = as.map Value.ref → Q (.ref s.heap.objs.size) { s with heap := h', toks := tk }) :
    wpAny (model prog w) A (call (.type "list") [.ref e]) Q E s := by
  refine callType_codes (Q₁ := fun obj s₁ => obj = .ref s.heap.objs.size ∧ s₁ = { s with heap := s.heap.push { cls := .type "list", data := .seq #[] } }) PySem.F.called_list (PySem.F.typeCall_list_1 _) PySem.F.entry_list_init
    (code_list_new _ ⟨rfl, rfl⟩) fun obj s₁ h₁ => ?_
  obtain ⟨rfl, rfl⟩ := h₁
  have hS : (s.heap.push { cls := .type "list", data := .seq #[] }).get? s.heap.objs.size = some { cls := .type "list", data := .seq #[] } := Heap.get?_push_size _ rfl
  have hz : (s.heap.push { cls := .type "list", data := .seq #[] }).objs.size = s.heap.objs.size + 1 := Heap.size_push ..
  have hel : e < s.heap.objs.size := Heap.lt_size he
  refine ⟨⟨_, hS, rfl⟩, PySem.F.args_list_init_2 _ _, en_init (A := A.in1) (s := { s with heap := s.heap.push { cls := .type "list", data := .seq #[] } }) D (Nat.ne_of_gt hel) (Nat.ne_of_gt hit) (fun hm => Nat.lt_irrefl _ (hfp _ hm)) hne hef hn (Heap.get?_push_of_some _ he) (D.frame _ _ _ st fun b hb o y => Heap.get?_push_of_some _ y) (by rw [hz]; exact Nat.lt_succ_of_lt hit) hS fun h' tk acc c as hk hS' hl hG hacc => ?_⟩
  rw [hz] at hG
  exact ⟨rfl, hQ h' tk acc c as (fun b o h2 h3 e => hk b o (Nat.ne_of_lt (Heap.lt_size e)) h2 h3 (Heap.get?_push_of_some _ e)) hS' hl hG hacc⟩
end
end PySem.W

/-! list(enumerate(x)) as an expression -/
namespace DL
open PySem PySem.Spec PyProof.Rows L2
def enK : Nat → List V → List (Key × V)
  | _, [] => []
  | i, x :: xs => (.inl (i : Int), x) :: enK (i + 1) xs
theorem enK_len : ∀ (xs : List V) (i : Nat), (enK i xs).length = xs.length
  | [], _ => rfl
  | x :: xs, i => by show (enK (i + 1) xs).length + 1 = xs.length + 1; rw [enK_len xs]
theorem enK_get : ∀ (xs : List V) (i j : Nat), (enK i xs)[j]? = (xs[j]?).map fun x => ((.inl ((i + j : Nat) : Int) : Key), x)
  | [], _, _ => by simp [enK]
  | x :: xs, i, 0 => by simp [enK]
  | x :: xs, i, j + 1 => by
    show (enK (i + 1) xs)[j]? = _
    rw [enK_get xs (i + 1) j, show i + 1 + j = i + (j + 1) by omega]
    rfl
section
variable {X : Cx}
theorem en_laid {pins : List (Addr × Obj)} {σ : St} {H : Hp} {s : Shared} {h' : Heap} {tk : Nat} {xs : List V} {its : List Value} {acc : Array Value} {c : Nat} {as : List Addr} {S : Addr} (I : Inv X pins σ H s) (hz : xs.length ≤ sizeLine) (rv : Vals xs its)
    (hk : ∀ b o, s.heap.get? b = some o → h'.get? b = some o) (hSs : s.heap.objs.size ≤ S) (hS : h'.get? S = some { cls := .type "list", dict := none, data := .seq acc c, slots := #[] }) (hl : as.length = xs.length) (hG : PySem.W.EnG (fun j v => its.toArray[j]? = some v) (S + 1) h' as) (hacc : acc.toList = as.map Value.ref) :
    as.Nodup ∧ H S = none ∧ (∀ t ∈ as, H t = none) ∧ S ∉ as ∧ Inv X pins σ (LiI.putT (upd H S (.lst (as.map V.ref))) as (enK 0 xs)) { s with heap := h', toks := tk } := by
  have hSn : S ∉ as := fun z => Nat.lt_irrefl _ (hG.above _ z)
  have nd : as.Nodup := List.Pairwise.imp (fun {a b} (h : a < b) => Nat.ne_of_lt h) hG.rise
  have ab : ∀ t ∈ as, s.heap.objs.size ≤ t := fun t ht => Nat.le_trans hSs (Nat.le_of_lt (hG.above t ht))
  have new : ∀ t ∈ as, H t = none := fun t ht => I.hok.fresh (ab t ht)
  have newS : H S = none := I.hok.fresh hSs
  have atP := LiI.putT_at as (enK 0 xs) (upd H S (.lst (as.map V.ref))) (by rw [enK_len]; exact hl) nd
  have off : ∀ b, b ∉ as → b ≠ S → LiI.putT (upd H S (.lst (as.map V.ref))) as (enK 0 xs) b = H b := fun b h1 h2 => by rw [LiI.putT_off as _ _ h1, upd_ne h2]
  have low : ∀ b o, s.heap.get? b = some o → b ∉ as ∧ b ≠ S := fun b o e => ⟨fun z => absurd (Heap.lt_size e) (Nat.not_lt.mpr (ab b z)), Nat.ne_of_lt (Nat.lt_of_lt_of_le (Heap.lt_size e) hSs)⟩
  have kp : ∀ b u, H b = some u → (LiI.putT (upd H S (.lst (as.map V.ref))) as (enK 0 xs)) b = some u := fun b u e => by
    rw [off b (fun z => by rw [new b z] at e; cases e) (fun z => by rw [z, newS] at e; cases e)]
    exact e
  have eS : LiI.putT (upd H S (.lst (as.map V.ref))) as (enK 0 xs) S = some (.lst (as.map V.ref)) := by rw [LiI.putT_off as _ _ hSn, upd_same]
  refine ⟨nd, newS, new, hSn, ?_⟩
  refine I.call' (ch := []) rfl ⟨fun b o q _ _ _ => hk b o q, fun b o q _ _ _ => ⟨o.slots, hk b o q⟩, fun b o q n _ => ?_, fun b o q _ => ⟨o, hk b o q⟩, fun b xs q => kp b _ q, fun b o u q => kp b _ q, fun b ps q => ⟨#[], by rw [kp b _ q]; simp⟩⟩ (fun b u q => ?_) I.bare fun b z => by simp at z
  · obtain ⟨z1, z2⟩ := low b o q
    rw [off b z1 z2]
    exact n
  · by_cases hb : b ∈ as
    · obtain ⟨j, pk, e1, e2, e3⟩ := LiI.paired_ix atP hb
      rw [e3] at q
      cases q
      obtain ⟨t, x, f1, f3⟩ := hG.pairs j b e1
      rw [enK_get, Nat.zero_add] at e2
      cases hx : xs[j]? with
      | none => rw [hx] at e2; cases e2
      | some y =>
        rw [hx] at e2
        cases e2
        obtain ⟨u, g2, g3⟩ := rv.get hx
        have f1' : its[j]? = some x := by simpa using f1
        rw [g2] at f1'
        cases f1'
        exact ⟨by show 2 ≤ sizeLine; decide, [.int j t, x], .cons ⟨t, rfl⟩ (.cons g3 .nil), ⟨_, f3, rfl, _, rfl⟩⟩
    · by_cases hb2 : b = S
      · rw [hb2] at q ⊢
        rw [eS] at q
        cases q
        refine ⟨by rw [List.length_map]; omega, acc.toList, c, by rw [hacc]; exact LiI.vals_refs as, ?_⟩
        rw [Array.toArray_toList]
        exact hS
      · rw [off b hb hb2] at q
        exact (I.hok b u q).stay (fun d v _ y => hk d v y) (fun d y => kp d _ y) fun d xs y => kp d _ y
def tListEnum (K : PySem.W.Frag) (ta : TA) : TE := fun σ H Q => ta σ H fun vs H1 => ∃ a xs, vs = [.ref a] ∧ (SqL K H1 a xs ∨ SqT K H1 a xs) ∧ xs.length ≤ sizeLine ∧
  ∀ (S : Addr) (as : List Addr), as.length = xs.length → as.Nodup → H1 S = none → (∀ t ∈ as, H1 t = none) → S ∉ as → Q (.ref S) (LiI.putT (upd H1 S (.lst (as.map V.ref))) as (enK 0 xs))
theorem pe_listEnum {e : Expr} {ta : TA} {p p2 pos pos2 : Pos} (hc : X.calm = true) (ha : PA X [e] ta) (hg : Gl X "list") (hm : X.mg "list" = none) (hg2 : Gl X "enumerate") (hm2 : X.mg "enumerate" = none)
    (hs2 : starEach [e] X.env = [(false, eval e X.env)] := by rfl) (hs : starEach [.Call (.Name "enumerate" p2) [e] [] pos2] X.env = (false, eval (.Call (.Name "enumerate" p2) [e] [] pos2) X.env) :: starEach [] X.env := by rfl) :
    PE X (.Call (.Name "list" p) [.Call (.Name "enumerate" p2) [e] [] pos2] [] pos) (tListEnum X.K ta) := by
  refine ⟨fun pins s σ H Q I hq => ?_⟩
  have hv : bootBuiltins "list" = some (.type "list") := by decide +kernel
  refine wpAny_Call_Name_kw (ld_blt I hg hm hv ?_)
  refine PyProof.Rows.callWith_type1 ?_ hs rfl
  rw [hs]
  show wpAny _ _ (spliced ((false, eval (.Call (.Name "enumerate" p2) [e] [] pos2) X.env) :: backTo pos (starEach [] X.env))) _ _ s
  refine Calls.spliced_cons ?_
  refine Call_ (ld_blt I hg2 hm2 boot_enumerate (PyProof.Rows.callWith_type1 (thn (ha.run pos2 pins s σ H _ I hq) fun us s1 ⟨vs, H1, I1, r1, a, xs, ex, hsq, hz, q⟩ => ?_) hs2 rfl))
  subst ex
  have fin : ∀ {its : List Value} {fp : List Addr} {St : Nat → Heap → Prop} {h' : Heap} {s' : Shared} {e' it' : Addr}, s' = { s1 with heap := h' } → Vals xs its → its.length = xs.length →
      (Draws X.prog X.w X.A.in1.in1.in1 it' fp its.toArray.size (fun i v => its.toArray[i]? = some v) St) → e' = s1.heap.objs.size + 1 → it' = s1.heap.objs.size → e' ∉ fp → (∀ b ∈ fp, b < h'.objs.size) → PySem.IsEnum h' e' it' ((0 : Nat) : Int) .none → St 0 h' → h'.objs.size = s1.heap.objs.size + 2 → (∀ b o, s1.heap.get? b = some o → h'.get? b = some o) →
      wpAny (model X.prog X.w) X.A (call (.type "list") [.ref e']) (EP X pins σ Q) X.xe s' := by
    intro its fp St h' s' e' it' es rv hl D ee ei hef hfp en st hz' hk
    subst es
    have hn : its.toArray.size ≤ sizeLine := by simpa [hl] using hz
    refine PySem.W.en_call (P := fun i v => its.toArray[i]? = some v) D (by rw [ee, ei]; exact Nat.succ_ne_self _) hef hfp hn en st (by show it' < h'.objs.size; rw [ei, hz']; exact Nat.lt_succ_of_lt (Nat.lt_succ_self _)) fun h2 tk acc c as hk2 hS hla hG hacc => ?_
    have hk3 : ∀ b o, s1.heap.get? b = some o → h2.get? b = some o := fun b o hb => by
      have lb := Heap.lt_size hb
      exact hk2 b o (by rw [ee]; exact Nat.ne_of_lt (Nat.lt_succ_of_lt lb)) (by rw [ei]; exact Nat.ne_of_lt lb) (hk b o hb)
    have hla' : as.length = xs.length := by rw [hla]; simpa using hl
    obtain ⟨k1, k2, k3, k4, J⟩ := en_laid (tk := tk) I1 hz rv hk3 (by rw [hz']; exact Nat.le_add_right _ _) hS hla' hG hacc
    exact ⟨.ref _, _, J, rfl, q _ as hla' k1 k2 k3 k4⟩
  cases r1 with
  | cons r rr =>
    cases rr
    cases r
    rcases hsq with hq | hq
    · obtain ⟨its, rv, p', _⟩ := I1.list hq
      refine call_enumerate_list p'.isList fun h' en hit hsz hk => ?_
      refine Calls.spliced_nil ?_
      have al : a < s1.heap.objs.size := by obtain ⟨_, g, _⟩ := p'.isList; exact Heap.lt_size g
      refine fin rfl rv rv.length.symm (PySem.Draws.list (A := X.A.in1.in1.in1) (I1.ok.hd hc) _ a (Nat.ne_of_lt al) its.toArray) rfl rfl (fun hm => ?_) (fun b hb => ?_) en ⟨hit, p'.isList.at fun o g => hk _ o g⟩ hsz hk
      · simp only [List.mem_cons, List.not_mem_nil, or_false] at hm
        rcases hm with z | z
        · exact Nat.succ_ne_self _ z
        · exact absurd al (by rw [← z]; exact Nat.not_lt.mpr (Nat.le_succ _))
      · simp only [List.mem_cons, List.not_mem_nil, or_false] at hb
        rw [hsz]
        rcases hb with z | z
        · rw [z]; exact Nat.lt_succ_of_lt (Nat.lt_succ_self _)
        · rw [z]; exact Nat.lt_succ_of_lt (Nat.lt_succ_of_lt al)
    · obtain ⟨its, rv, p', _⟩ := I1.tuple hq
      refine PySem.dl_call_enum (show s1.heap.IsTuple a its.toArray from p') fun h' en hit hsz hk => ?_
      refine Calls.spliced_nil ?_
      have pt : s1.heap.IsTuple a its.toArray := p'
      have al : a < s1.heap.objs.size := by obtain ⟨_, g, _⟩ := id pt; exact Heap.lt_size g
      refine fin rfl rv rv.length.symm (PySem.Draws.tuple (A := X.A.in1.in1.in1) (I1.ok.hd hc) _ a (Nat.ne_of_lt al) its.toArray) rfl rfl (fun hm => ?_) (fun b hb => ?_) en ⟨hit, pt.at fun o g => hk _ o g⟩ hsz hk
      · simp only [List.mem_cons, List.not_mem_nil, or_false] at hm
        rcases hm with z | z
        · exact Nat.succ_ne_self _ z
        · exact absurd al (by rw [← z]; exact Nat.not_lt.mpr (Nat.le_succ _))
      · simp only [List.mem_cons, List.not_mem_nil, or_false] at hb
        rw [hsz]
        rcases hb with z | z
        · rw [z]; exact Nat.lt_succ_of_lt (Nat.lt_succ_self _)
        · rw [z]; exact Nat.lt_succ_of_lt (Nat.lt_succ_of_lt al)
/-- list(enumerate(x)), x a list or a tuple, or a list that may be written -/
def dLEnum (ta : DTA) : DTE := fun env l Q => ta env l fun ds l1 => match ds with
  | [.lst xs] => xs.length ≤ sizeLine ∧ Q (.lst (enumD 0 xs)) l1
  | [.tup xs] => xs.length ≤ sizeLine ∧ Q (.lst (enumD 0 xs)) l1
  | [.ref a] => getO l1 a fun o => match o with | .lst xs => xs.length ≤ sizeLine ∧ Q (.lst (enumD 0 xs)) l1 | _ => False
  | _ => False
theorem rep_putT {K : PySem.W.Frag} {Fr : Hp} {l : LH} : ∀ (as : List Addr) (kvs : List (Key × V)) {F H : Hp}, Rep K F Fr l H → (∀ a ∈ as, H a = none) → as.Nodup → Rep K (LiI.putT F as kvs) Fr l (LiI.putT H as kvs) ∧ Same F (LiI.putT F as kvs)
  | [], _, F, H, R, _, _ => ⟨R, Same.refl F⟩
  | _ :: _, [], F, H, R, _, _ => ⟨R, Same.refl F⟩
  | a :: as, p :: kvs, F, H, R, hn, nd => by
    obtain ⟨n1, n2⟩ := List.nodup_cons.mp nd
    have na := hn a List.mem_cons_self
    obtain ⟨r, s⟩ := rep_putT as kvs (R.laid na (.tup [kV p.1, p.2])) (fun b hb => by
      have ne : b ≠ a := fun z => n1 (by rw [← z]; exact hb)
      rw [upd_ne ne]
      exact hn b (List.mem_cons_of_mem _ hb)) n2
    exact ⟨r, (same_upd (R.F_none na)).trans s⟩
theorem rel_enum {K : PySem.W.Frag} {F : Hp} : ∀ {as : List Addr} {ds : List D} {xs : List V} {i : Nat}, RelDs K F ds xs → Paired (fun (t : Addr) (q : Key × V) => F t = some (.tup [kV q.1, q.2])) as (enK i xs) → RelDs K F (enumD i ds) (as.map V.ref)
  | [], [], [], _, .nil, _ => .nil
  | a :: as, [], [], _, .nil, h => by cases h
  | [], d :: ds, x :: xs, _, .cons _ _, h => by cases h
  | a :: as, d :: ds, x :: xs, i, .cons r rr, .cons h1 h2 => .cons (.tup h1 (.cons (.int _) (.cons r .nil))) (rel_enum rr h2)
theorem de_listEnum {e : Expr} {ta : DTA} {p p2 pos pos2 : Pos} (hc : X.calm = true) (ha : DA X [e] ta) (hg : Gl X "list") (hm : X.mg "list" = none) (hg2 : Gl X "enumerate") (hm2 : X.mg "enumerate" = none)
    (hs2 : starEach [e] X.env = [(false, eval e X.env)] := by rfl) (hs : starEach [.Call (.Name "enumerate" p2) [e] [] pos2] X.env = (false, eval (.Call (.Name "enumerate" p2) [e] [] pos2) X.env) :: starEach [] X.env := by rfl) :
    DE X (.Call (.Name "list" p) [.Call (.Name "enumerate" p2) [e] [] pos2] [] pos) (dLEnum ta) := by
  refine ⟨?_⟩
  intro F Fr env l σ H Q hE hR ht
  refine (pe_listEnum hc paW hg hm hg2 hm2 hs2 hs).we ?_
  refine (ha F Fr env l σ H _ hE hR ht).mono fun vs H1 ⟨F1, ds, l1, s1, r1, R1, q1⟩ => ?_
  have fin : ∀ {a : Addr} {xs : List V} {es : List D}, RelDs X.K F1 es xs → es.length ≤ sizeLine → Q (.lst (enumD 0 es)) l1 → xs.length ≤ sizeLine ∧ ∀ (S : Addr) (as : List Addr), as.length = xs.length → as.Nodup → H1 S = none → (∀ t ∈ as, H1 t = none) → S ∉ as → LK X.K F Fr Q (.ref S) (LiI.putT (upd H1 S (.lst (as.map V.ref))) as (enK 0 xs)) := by
    intro a xs es rr hz q
    refine ⟨by rw [← rr.length]; exact hz, fun S as hl nd nS nas hS => ?_⟩
    have R2 := R1.laid nS (.lst (as.map V.ref))
    obtain ⟨R3, S3⟩ := rep_putT as (enK 0 xs) R2 (fun b hb => by
      have ne : b ≠ S := fun z => hS (by rw [← z]; exact hb)
      rw [upd_ne ne]
      exact nas b hb) nd
    have sm : Same F1 (LiI.putT (upd F1 S (.lst (as.map V.ref))) as (enK 0 xs)) := (same_upd (R1.F_none nS)).trans S3
    have at_ := LiI.putT_at as (enK 0 xs) (upd F1 S (.lst (as.map V.ref))) (by rw [enK_len]; exact hl) nd
    have eS : LiI.putT (upd F1 S (.lst (as.map V.ref))) as (enK 0 xs) S = some (.lst (as.map V.ref)) := by rw [LiI.putT_off as _ _ hS, upd_same]
    exact ⟨_, .lst (enumD 0 es), l1, s1.trans sm, .lst eS (rel_enum (rr.mono sm) at_), R3, q⟩
  cases r1 with
  | nil => exact q1.elim
  | cons ra rr =>
    cases rr with
    | cons _ _ => cases ra <;> exact q1.elim
    | nil =>
      cases ra with
      | @tup p vs ds h1 rr =>
        obtain ⟨f1, f2⟩ := fin (a := p) rr q1.1 q1.2
        exact ⟨p, _, rfl, .inr (tq (R1.fz _ _ h1)), f1, f2⟩
      | @lst p vs ds h1 rr =>
        obtain ⟨f1, f2⟩ := fin (a := p) rr q1.1 q1.2
        exact ⟨p, _, rfl, .inl (.inl (.inl (R1.fz _ _ h1))), f1, f2⟩
      | ref a =>
        obtain ⟨o, ho, q⟩ := q1
        cases o with
        | lst ds =>
          obtain ⟨ws, rw', h1⟩ := (R1.lv _ _ ho).2
          obtain ⟨f1, f2⟩ := fin (a := a) rw' q.1 q.2
          exact ⟨a, _, rfl, .inl (.inl (.inl h1)), f1, f2⟩
        | _ => exact q.elim
      | _ => exact q1.elim
end
end DL

/-! list(zip(x, y)), x and y lists -/
namespace PySem.W
open PySem PySem.Calls PyProof.Rows PyProof.V PySem.Spec
/-- what stands while list() takes the pairs of two lists -/
def ZlSt (z TI TO i1 i2 l1 l2 S : Addr) (xs ys : Array Value) (i : Nat) (h : Heap) : Prop :=
  IsPair h TI (.ref i1) (.ref i2) ∧ h.IsListIter i1 l1 i ∧ h.IsListIter i2 l2 i ∧ h.IsList l1 xs ∧ h.IsList l2 ys ∧
    ((IsZip h z TI TO .none ∧ ∃ a b, IsPair h TO a b) ∨ ∃ T f oT, IsZipHeld h z TI TO T f ∧ h.get? T = some oT ∧ T ≠ z ∧ T ≠ i1 ∧ T ≠ i2 ∧ T ≠ S)
def ZlW (z TO i1 i2 : Addr) : List Addr := [z, TO, i1, i2]
structure ZlG (xs ys : Array Value) (lo : Addr) (h : Heap) (as : List Addr) : Prop where
  rise : as.Pairwise (· < ·)
  above : ∀ a ∈ as, lo ≤ a
  pairs : ∀ (j : Nat) (a : Addr), as[j]? = some a → ∃ x y, (xs[j]? = some x ∧ ys[j]? = some y) ∧ h.get? a = some { cls := .type "tuple", data := .seq #[x, y] }
theorem ZlG.there {xs ys : Array Value} {lo : Addr} {h : Heap} {as : List Addr} (g : ZlG xs ys lo h as) {a : Addr} (ha : a ∈ as) : a < h.objs.size := by
  obtain ⟨j, hj⟩ := List.mem_iff_getElem?.mp ha
  obtain ⟨_, _, _, e⟩ := g.pairs j a hj
  exact Heap.lt_size e
section
variable {prog : Program} {w : World} {A : Around} {s : Shared} {R : Result → Shared → Prop} {z TI TO i1 i2 l1 l2 S : Addr} {xs ys : Array Value}
theorem ZlSt.keep {i : Nat} {h h' : Heap} (hS : S ∉ [z, TI, TO, i1, i2, l1, l2]) (st : ZlSt z TI TO i1 i2 l1 l2 S xs ys i h) (hk : ∀ b o, b ≠ S → h.get? b = some o → h'.get? b = some o) : ZlSt z TI TO i1 i2 l1 l2 S xs ys i h' := by
  simp only [List.mem_cons, List.not_mem_nil, or_false, not_or] at hS
  obtain ⟨dz, dTI, dTO, di1, di2, dl1, dl2⟩ := hS
  obtain ⟨hTI, h1, h2, hl1, hl2, hz⟩ := st
  refine ⟨hk _ _ (Ne.symm dTI) hTI, h1.at fun o e => hk _ o (Ne.symm di1) e, h2.at fun o e => hk _ o (Ne.symm di2) e, hl1.at fun o e => hk _ o (Ne.symm dl1) e, hl2.at fun o e => hk _ o (Ne.symm dl2) e, ?_⟩
  rcases hz with ⟨hz, a, b, hTO⟩ | ⟨T, f, oT, hz, hT, r1, r2, r3, r4⟩
  · exact .inl ⟨hk _ _ (Ne.symm dz) hz, a, b, hk _ _ (Ne.symm dTO) hTO⟩
  · exact .inr ⟨T, f, oT, hk _ _ (Ne.symm dz) hz, hk _ _ r4 hT, r1, r2, r3, r4⟩
theorem zl_item {i : Nat} {E : Value → Shared → Prop} {Q : Option Value → Shared → Prop} (D : ZipApart z TI TO i1 i2 l1 l2) (st : ZlSt z TI TO i1 i2 l1 l2 S xs ys i s.heap) (hi : i < min xs.size ys.size) (hds : S < s.heap.objs.size)
    (hQ : ∀ x y h', (xs[i]? = some x ∧ ys[i]? = some y) → ZlSt z TI TO i1 i2 l1 l2 S xs ys (i + 1) h' → h'.get? s.heap.objs.size = some { cls := .type "tuple", data := .seq #[x, y] } → h'.objs.size = s.heap.objs.size + 1 →
      (∀ b o, b ∉ ZlW z TO i1 i2 → s.heap.get? b = some o → h'.get? b = some o) → Q (some (.ref s.heap.objs.size)) { s with heap := h' }) : wpAny (model prog w) A (pyNext (.ref z)) Q E s := by
  obtain ⟨hTI, h1, h2, hl1, hl2, hz⟩ := st
  have hix : i < xs.size := Nat.lt_of_lt_of_le hi (Nat.min_le_left ..)
  have hiy : i < ys.size := Nat.lt_of_lt_of_le hi (Nat.min_le_right ..)
  have ex := Array.getElem?_eq_getElem hix
  have ey := Array.getElem?_eq_getElem hiy
  have lt : ∀ {c o}, s.heap.get? c = some o → s.heap.objs.size ≠ c := fun e => Nat.ne_of_gt (Heap.lt_size e)
  have n1 : s.heap.objs.size ≠ i1 := let ⟨_, e, _⟩ := h1; lt e
  have n2 : s.heap.objs.size ≠ i2 := let ⟨_, e, _⟩ := h2; lt e
  rcases hz with ⟨hz, a, b, hTO⟩ | ⟨T, f, oT, hz, hT, r1, r2, r3, r4⟩
  · refine wpAny_pyNext_zip_item D hz hTI hTO h1 h2 hl1 hl2 ex ey fun h' a1 a2 a3 a4 a5 a6 hk => ?_
    exact hQ _ _ h' ⟨ex, ey⟩
      ⟨hk _ _ D.TIz D.TITO D.TIi1 D.TIi2 hTI, a3, a4, hl1.at fun o e => hk _ o D.l1z D.l1TO D.l1i1 D.l1i2 e, hl2.at fun o e => hk _ o D.l2z D.l2TO D.l2i1 D.l2i2 e,
        .inr ⟨s.heap.objs.size, false, _, a1, a5, lt hz, n1, n2, Nat.ne_of_gt hds⟩⟩ a5 a6
      fun c o hc e => hk c o (fun x => hc (by simp [ZlW, x])) (fun x => hc (by simp [ZlW, x])) (fun x => hc (by simp [ZlW, x])) (fun x => hc (by simp [ZlW, x])) e
  · refine wpAny_pyNext_zip_item_held D hz hT hTI h1 h2 hl1 hl2 ex ey fun h' a1 a3 a4 a5 a6 hk => ?_
    exact hQ _ _ h' ⟨ex, ey⟩
      ⟨hk _ _ D.TIz D.TIi1 D.TIi2 hTI, a3, a4, hl1.at fun o e => hk _ o D.l1z D.l1i1 D.l1i2 e, hl2.at fun o e => hk _ o D.l2z D.l2i1 D.l2i2 e,
        .inr ⟨T, true, oT, a1, hk _ _ r1 r2 r3 hT, r1, r2, r3, r4⟩⟩ a5 a6
      fun c o hc e => hk c o (fun x => hc (by simp [ZlW, x])) (fun x => hc (by simp [ZlW, x])) (fun x => hc (by simp [ZlW, x])) e
theorem zl_done {E : Value → Shared → Prop} {Q : Option Value → Shared → Prop} (hA : A.handled = none) (D : ZipApart z TI TO i1 i2 l1 l2) (st : ZlSt z TI TO i1 i2 l1 l2 S xs ys (min xs.size ys.size) s.heap)
    (hQ : ∀ h', (∀ b o, b ∉ ZlW z TO i1 i2 → s.heap.get? b = some o → h'.get? b = some o) → Q none { s with heap := h' }) : wpAny (model prog w) A (pyNext (.ref z)) Q E s := by
  obtain ⟨hTI, h1, h2, hl1, hl2, hz⟩ := st
  have hend : xs[min xs.size ys.size]? = none ∨ ys[min xs.size ys.size]? = none := by
    rcases Nat.le_total xs.size ys.size with h | h
    · exact .inl (Array.getElem?_eq_none (by rw [Nat.min_eq_left h]; exact Nat.le_refl _))
    · exact .inr (Array.getElem?_eq_none (by rw [Nat.min_eq_right h]; exact Nat.le_refl _))
  rcases hz with ⟨hz, a, b, hTO⟩ | ⟨T, f, oT, hz, hT, r1, r2, r3, r4⟩
  · exact wpAny_pyNext_zip_end hA D hz hTI hTO h1 h2 hl1 hl2 hend fun h' hk => hQ h' fun c o hc e => hk c o (fun x => hc (by simp [ZlW, x])) (fun x => hc (by simp [ZlW, x])) (fun x => hc (by simp [ZlW, x])) (fun x => hc (by simp [ZlW, x])) e
  · exact wpAny_pyNext_zip_end_held hA D hz hT hTI h1 h2 hl1 hl2 hend fun h' hk => hQ h' fun c o hc e => hk c o (fun x => hc (by simp [ZlW, x])) (fun x => hc (by simp [ZlW, x])) (fun x => hc (by simp [ZlW, x])) e
theorem zl_loop (hA : A.handled = none) (D : ZipApart z TI TO i1 i2 l1 l2) (hSo : S ∉ [z, TI, TO, i1, i2, l1, l2]) (hn : min xs.size ys.size ≤ sizeLine) (res : Value) {lo : Addr} (lS : S < lo) (lw : ∀ b ∈ ZlW z TO i1 i2, b < lo) {h₁ : Heap}
    (hR : ∀ h' tk acc c as, (∀ b o, b ≠ S → b ∉ ZlW z TO i1 i2 → h₁.get? b = some o → h'.get? b = some o) → h'.get? S = some { cls := .type "list", dict := none, data := .seq acc c, slots := #[] } → as.length = min xs.size ys.size → ZlG xs ys lo h' as →
      acc.toList = as.map Value.ref → R (.ok (.ret res)) { s with heap := h', toks := tk }) :
    ∀ (k i : Nat) (h : Heap) (tk : Nat) (c : Nat) (acc : Array Value) (as : List Addr), min xs.size ys.size - i = k → i ≤ min xs.size ys.size → ZlSt z TI TO i1 i2 l1 l2 S xs ys i h → (∀ b o, b ≠ S → b ∉ ZlW z TO i1 i2 → h₁.get? b = some o → h.get? b = some o) →
      h.get? S = some { cls := .type "list", dict := none, data := .seq acc c, slots := #[] } → acc.toList = as.map Value.ref → as.length = i → ZlG xs ys lo h as → lo ≤ h.objs.size →
      codeAny (model prog w) A (.builtin "list.extend.loop" ⟨[.ref S, .ref z, res], []⟩) R { s with heap := h, toks := tk } := by
  have hSw : S ∉ ZlW z TO i1 i2 := fun m => hSo (by
    simp only [ZlW, List.mem_cons, List.not_mem_nil, or_false] at m ⊢
    rcases m with e | e | e | e <;> simp [e])
  intro k
  induction k with
  | zero =>
    intro i h tk c acc as hk hi hst hkeep hS hacc hal hG hIs
    have hin : i = min xs.size ys.size := by omega
    subst hin
    refine codeAny_builtin PySem.F.entry_extend_loop ?_
    rw [Around.under_plainId PySem.F.plain_extend_loop _]
    show wpAny _ A.in1 (pyNext (.ref z) >>= _) _ _ _
    refine wpAny_bind (zl_done (A := A.in1) (s := { s with heap := h, toks := tk }) hA D hst fun h' he => ?_)
    refine wpAny_pure (hR h' tk acc c as (fun b o h1 h2 e => he b o h2 (hkeep b o h1 h2 e)) (he S _ hSw hS) hal ⟨hG.rise, hG.above, fun j a hj => ?_⟩ hacc)
    obtain ⟨x, y, e1, e2⟩ := hG.pairs j a hj
    have := hG.above a (List.mem_of_getElem? hj)
    exact ⟨x, y, e1, he a _ (fun m => Nat.lt_irrefl _ (Nat.lt_of_lt_of_le (lw a m) this)) e2⟩
  | succ k ih =>
    intro i h tk c acc as hk hi hst hkeep hS hacc hal hG hIs
    have hlt : i < min xs.size ys.size := by omega
    have hsz : acc.size = i := by rw [← Array.length_toList, hacc, List.length_map, hal]
    have hSl : S < h.objs.size := Heap.lt_size hS
    refine codeAny_builtin PySem.F.entry_extend_loop ?_
    rw [Around.under_plainId PySem.F.plain_extend_loop _]
    show wpAny _ A.in1 (pyNext (.ref z) >>= _) _ _ _
    refine wpAny_bind (zl_item (A := A.in1) (s := { s with heap := h, toks := tk }) D hst hlt hSl fun x y h' hP hst' ht hz hkp => ?_)
    dsimp only at ht hz hkp ⊢
    have hS' := hkp S _ hSw hS
    have up : ∀ b o, b ≠ S → h'.get? b = some o → (h'.update S (Obj.mapSeq (·.push (Value.ref h.objs.size)))).get? b = some o := fun b o hb e => (Heap.get?_update_other _ _ (Ne.symm hb)).trans e
    show wpAny _ A.in1 (updateSeq S (·.push (Value.ref h.objs.size)) >>= _) _ _ _
    refine wpAny_bind ?_
    refine wpAny_updateSeq hS' rfl (wpAny_pure ⟨plainId_quiet PySem.F.plain_extend_loop _, ih (i + 1) _ tk _ (acc.push (Value.ref h.objs.size)) (as ++ [h.objs.size]) (by omega) hlt (hst'.keep hSo up)
      (fun b o h1 h2 e => up b o h1 (hkp b o h2 (hkeep b o h1 h2 e))) (Heap.get?_update_self _ hS' rfl) (by rw [Array.toList_push, hacc, List.map_append]; rfl) (by rw [List.length_append, hal]; rfl) ⟨?_, ?_, ?_⟩ ?_⟩) (by rw [hsz]; omega) (by show (acc.push (Value.ref h.objs.size)).size ≤ sizeLine + 1; rw [Array.size_push, hsz]; omega)
    · refine List.pairwise_append.mpr ⟨hG.rise, List.pairwise_singleton _ _, fun a ha b hb => ?_⟩
      rw [List.mem_singleton.mp hb]
      exact hG.there ha
    · intro a ha
      rcases List.mem_append.mp ha with ha | ha
      · exact hG.above a ha
      · rw [List.mem_singleton.mp ha]; exact hIs
    · intro j b hj
      rcases Nat.lt_trichotomy j as.length with h1 | h1 | h1
      · rw [List.getElem?_append_left h1] at hj
        obtain ⟨x', y', e1, e2⟩ := hG.pairs j b hj
        have hb := hG.above b (List.mem_of_getElem? hj)
        exact ⟨x', y', e1, up b _ (Nat.ne_of_gt (Nat.lt_of_lt_of_le lS hb)) (hkp b _ (fun m => Nat.lt_irrefl _ (Nat.lt_of_lt_of_le (lw b m) hb)) e2)⟩
      · subst h1
        have hb : h.objs.size = b := by simpa using hj
        subst hb
        exact ⟨x, y, by rw [hal]; exact hP, up _ _ (Nat.ne_of_gt hSl) ht⟩
      · have hnone : (as ++ [h.objs.size])[j]? = none := List.getElem?_eq_none (by rw [List.length_append, List.length_singleton]; omega)
        rw [hnone] at hj; cases hj
    · have e1 : (h'.update S (Obj.mapSeq (·.push (Value.ref h.objs.size)))).get? h.objs.size = _ := up _ _ (Nat.ne_of_gt hSl) ht
      exact Nat.le_of_lt (Nat.lt_of_le_of_lt hIs (Heap.lt_size e1))
end
theorem zl_len : typeLookup (.type "zip") "__len__" = pure none := am_miss_of_fast (by decide +kernel)
theorem zl_lenhint : typeLookup (.type "zip") "__length_hint__" = pure none := am_miss_of_fast (by decide +kernel)
section
variable {prog : Program} {w : World} {A : Around} {E : Value → Shared → Prop} {s : Shared}
theorem zl_hint {r : Addr} (hT : s.TypeIs (.ref r) "zip") {Q : Bool → Shared → Prop} (h : Q true s) : wpAny (model prog w) A (Builtin.List.listLengthHint (.ref r)) Q E s := by
  unfold Builtin.List.listLengthHint
  refine wpAny_bind (wpAny_specialOf hT zl_len ?_)
  refine wpAny_bind (wpAny_specialOf hT zl_lenhint ?_)
  exact wpAny_pure h
variable {R : Result → Shared → Prop} {z TI TO i1 i2 l1 l2 S : Addr} {xs ys : Array Value}
theorem zl_extend (hA : A.handled = none) (D : ZipApart z TI TO i1 i2 l1 l2) (hSo : S ∉ [z, TI, TO, i1, i2, l1, l2]) (hn : min xs.size ys.size ≤ sizeLine) (res : Value) (c₀ : Nat)
    (hz : IsZip s.heap z TI TO .none) (st : ZlSt z TI TO i1 i2 l1 l2 S xs ys 0 s.heap) (lw : ∀ b ∈ ZlW z TO i1 i2, b < s.heap.objs.size) (hS : s.heap.get? S = some { cls := .type "list", data := .seq #[] c₀ })
    (hR : ∀ h' tk acc c as, (∀ b o, b ≠ S → b ∉ ZlW z TO i1 i2 → s.heap.get? b = some o → h'.get? b = some o) → h'.get? S = some { cls := .type "list", dict := none, data := .seq acc c, slots := #[] } → as.length = min xs.size ys.size → ZlG xs ys s.heap.objs.size h' as →
      acc.toList = as.map Value.ref → R (.ok (.ret res)) { s with heap := h', toks := tk }) :
    wpAny (model prog w) A.in1 (Builtin.List.listExtendWith (.ref S) (.ref z) res)
      (fun fin s' => match fin with | .done f => R (.ok f) s' | .again c' => c'.quiet = true ∧ codeAny (model prog w) A c' R s') (fun e s' => R (.error e) s') s := by
  have hSl : S < s.heap.objs.size := Heap.lt_size hS
  have hSz : S ≠ z := fun e => hSo (by rw [e]; exact List.mem_cons_self)
  have hT : s.TypeIs (.ref z) "zip" := ⟨_, hz, rfl⟩
  have key : ∀ (h : Heap) (c₁ tk : Nat), s.heap.objs.size ≤ h.objs.size → (∀ b o, b ≠ S → s.heap.get? b = some o → h.get? b = some o) →
      h.get? S = some { cls := .type "list", data := .seq #[] c₁ } → codeAny (model prog w) A (.builtin "list.extend.loop" ⟨[.ref S, .ref z, res], []⟩) R { s with heap := h, toks := tk } := by
    intro h c₁ tk hz hk hS₁
    refine zl_loop (s := s) (h₁ := s.heap) (lo := s.heap.objs.size) hA D hSo hn res hSl lw hR _ 0 h tk c₁ #[] [] (Nat.sub_zero _) (Nat.zero_le _) (st.keep hSo hk) (fun b o h1 _ e => hk b o h1 e) hS₁ rfl rfl ⟨List.Pairwise.nil, (fun _ ha => nomatch ha), (fun j a hj => by simp at hj)⟩ hz
  unfold Builtin.List.listExtendWith
  refine wpAny_bind (wpAny_typeOf (T := "zip") hT ?_)
  have h1 : Builtin.List.listSameRef (.ref S) (.ref z) = false := by simp [Builtin.List.listSameRef, hSz]
  have h2 : (Value.type "zip" == Value.type "list") = false := by decide
  have h3 : (Value.type "zip" == Value.type "tuple") = false := by decide
  simp only [h1, h2, h3, Bool.or_false, Bool.false_eq_true, if_false]
  refine wpAny_bind (wpAny_pyIter_zip hz ?_)
  refine wpAny_bind (wpAny_holding (zl_hint hT ?_))
  refine wpAny_ite_split (fun _ => ?_) (fun _ => wpAny_pure ⟨plainId_quiet PySem.F.plain_extend_loop _, key _ c₀ _ (Nat.le_refl _) (fun b o _ e => e) hS⟩)
  refine wpAny_bind (wpAny_rule ?_)
  refine wpAny_bind ?_
  show wpAny _ _ (updateSeq S (·.push .none) >>= fun _ => updateSeq S (·.pop)) _ _ _
  refine wpAny_bind (wpAny_updateSeq hS rfl ?_)
  have hS₂ := Heap.get?_update_self (Obj.mapSeq (·.push Value.none)) hS rfl
  refine wpAny_updateSeq (hz := by seq_fits) hS₂ rfl ?_
  have hS₃ := Heap.get?_update_self (Obj.mapSeq (·.pop)) hS₂ rfl
  refine wpAny_pure ⟨plainId_quiet PySem.F.plain_extend_loop _, key _ _ _ ?_ (fun b o hb e => ?_) hS₃⟩
  · exact Nat.le_of_eq (by rw [Heap.size_update, Heap.size_update])
  · exact (Heap.get?_update_other _ _ (Ne.symm hb)).trans ((Heap.get?_update_other _ _ (Ne.symm hb)).trans e)
theorem zl_init (hA : A.handled = none) (D : ZipApart z TI TO i1 i2 l1 l2) (hSo : S ∉ [z, TI, TO, i1, i2, l1, l2]) (hn : min xs.size ys.size ≤ sizeLine)
    (hz : IsZip s.heap z TI TO .none) (st : ZlSt z TI TO i1 i2 l1 l2 S xs ys 0 s.heap) (lw : ∀ b ∈ ZlW z TO i1 i2, b < s.heap.objs.size) (hS : s.heap.get? S = some { cls := .type "list", data := .seq #[] })
    (hR : ∀ h' tk acc c as, (∀ b o, b ≠ S → b ∉ ZlW z TO i1 i2 → s.heap.get? b = some o → h'.get? b = some o) → h'.get? S = some { cls := .type "list", dict := none, data := .seq acc c, slots := #[] } → as.length = min xs.size ys.size → ZlG xs ys s.heap.objs.size h' as →
      acc.toList = as.map Value.ref → R (.ok (.ret .none)) { s with heap := h', toks := tk }) :
    wpAny (model prog w) A.in1 (Builtin.«list.__init__» ⟨[.ref S, .ref z], []⟩)
      (fun fin s' => match fin with | .done f => R (.ok f) s' | .again c' => c'.quiet = true ∧ codeAny (model prog w) A c' R s') (fun e s' => R (.error e) s') s := by
  have hSz : S ≠ z := fun e => hSo (by rw [e]; exact List.mem_cons_self)
  show wpAny _ _ (do let old ← Builtin.List.listItems (.ref S); Builtin.List.listUpdate (.ref S) (fun _ => #[]); letGo old.toList.reverse; Builtin.List.listExtendWith (.ref S) (.ref z) .none) _ _ s
  refine wpAny_bind ?_
  unfold Builtin.List.listItems
  refine wpAny_bind (wpAny_seqItems hS rfl (wpAny_pure ?_))
  show wpAny _ _ (updateSeq S (fun _ => #[]) >>= fun _ => letGo (#[] : Array Value).toList.reverse >>= fun _ => Builtin.List.listExtendWith (.ref S) (.ref z) .none) _ _ s
  refine wpAny_bind (wpAny_updateSeq hS rfl ?_)
  have hS₂ := Heap.get?_update_self (Obj.mapSeq (fun _ => (#[] : Array Value))) hS rfl
  have oth : ∀ b o, b ≠ S → s.heap.get? b = some o → (s.heap.update S (Obj.mapSeq (fun _ => (#[] : Array Value)))).get? b = some o :=
    fun b o hb e => (Heap.get?_update_other _ _ (Ne.symm hb)).trans e
  have hz' : (s.heap.update S (Obj.mapSeq (fun _ => (#[] : Array Value)))).objs.size = s.heap.objs.size := Heap.size_update ..
  refine wpAny_bind (wpAny_letGo ?_)
  refine zl_extend (s := { s with heap := s.heap.update S (Obj.mapSeq (fun _ => (#[] : Array Value))) }) hA D hSo hn .none _ (oth z _ (Ne.symm hSz) hz) (st.keep hSo oth) (by rw [hz']; exact lw) hS₂ fun h' tk acc c as hk hS' hl hG hacc => ?_
  rw [hz'] at hG
  exact hR h' tk acc c as (fun b o hb h2 e => hk b o hb h2 (oth b o hb e)) hS' hl hG hacc
theorem zl_call {Q : Value → Shared → Prop} (hA : A.handled = none) (D : ZipApart z TI TO i1 i2 l1 l2) (hlow : ∀ b ∈ [z, TI, TO, i1, i2, l1, l2], b < s.heap.objs.size) (hn : min xs.size ys.size ≤ sizeLine)
    (hz : IsZip s.heap z TI TO .none) (st : ZlSt z TI TO i1 i2 l1 l2 s.heap.objs.size xs ys 0 s.heap)
    (hQ : ∀ h' tk acc c as, (∀ b o, b ∉ ZlW z TO i1 i2 → s.heap.get? b = some o → h'.get? b = some o) → h'.get? s.heap.objs.size = some { cls := .type "list", dict := none, data := .seq acc c, slots := #[] } → as.length = min xs.size ys.size → ZlG xs ys (s.heap.objs.size + 1) h' as →
      acc.toList = as.map Value.ref → Q (.ref s.heap.objs.size) { s with heap := h', toks := tk }) :
    wpAny (model prog w) A (call (.type "list") [.ref z]) Q E s := by
  have hSo : s.heap.objs.size ∉ [z, TI, TO, i1, i2, l1, l2] := fun m => Nat.lt_irrefl _ (hlow _ m)
  have lw : ∀ b ∈ ZlW z TO i1 i2, b < s.heap.objs.size := fun b m => hlow b (by
    simp only [ZlW, List.mem_cons, List.not_mem_nil, or_false] at m ⊢
    rcases m with e | e | e | e <;> simp [e])
  refine callType_codes (Q₁ := fun obj s₁ => obj = .ref s.heap.objs.size ∧ s₁ = { s with heap := s.heap.push { cls := .type "list", data := .seq #[] } }) PySem.F.called_list (PySem.F.typeCall_list_1 _) PySem.F.entry_list_init
    (code_list_new _ ⟨rfl, rfl⟩) fun obj s₁ h₁ => ?_
  obtain ⟨rfl, rfl⟩ := h₁
  have hS : (s.heap.push { cls := .type "list", data := .seq #[] }).get? s.heap.objs.size = some { cls := .type "list", data := .seq #[] } := Heap.get?_push_size _ rfl
  have hz' : (s.heap.push { cls := .type "list", data := .seq #[] }).objs.size = s.heap.objs.size + 1 := Heap.size_push ..
  refine ⟨⟨_, hS, rfl⟩, PySem.F.args_list_init_2 _ _, zl_init (A := A.in1) (s := { s with heap := s.heap.push { cls := .type "list", data := .seq #[] } }) hA D hSo hn (Heap.get?_push_of_some _ hz) (st.keep hSo fun b o _ e => Heap.get?_push_of_some _ e) (by rw [hz']; exact fun b m => Nat.lt_succ_of_lt (lw b m)) hS fun h' tk acc c as hk hS' hl hG hacc => ?_⟩
  rw [hz'] at hG
  exact ⟨rfl, hQ h' tk acc c as (fun b o h2 e => hk b o (Nat.ne_of_lt (Heap.lt_size e)) h2 (Heap.get?_push_of_some _ e)) hS' hl hG hacc⟩
end
end PySem.W

/-! list(zip(x, y)) as an expression -/
namespace DL
open PySem PySem.Spec PyProof.Rows L2
def zpT : Hp → List Addr → List (V × V) → Hp
  | H, a :: as, p :: kvs => zpT (upd H a (.tup [p.1, p.2])) as kvs
  | H, _, _ => H
theorem zpT_off {b : Addr} : ∀ (as : List Addr) (kvs : List (V × V)) (H : Hp), b ∉ as → zpT H as kvs b = H b
  | [], _, _, _ => rfl
  | _ :: _, [], _, _ => rfl
  | a :: as, p :: kvs, H, h => by
    show zpT (upd H a (.tup [p.1, p.2])) as kvs b = H b
    rw [zpT_off as kvs _ (fun z => h (List.mem_cons_of_mem _ z)), upd_ne (fun z => h (by rw [z]; exact List.mem_cons_self))]
theorem zpT_at : ∀ (as : List Addr) (kvs : List (V × V)) (H : Hp), as.length = kvs.length → as.Nodup → Paired (fun (t : Addr) (p : V × V) => zpT H as kvs t = some (.tup [p.1, p.2])) as kvs
  | [], [], _, _, _ => .nil
  | [], _ :: _, _, h, _ => by cases h
  | _ :: _, [], _, h, _ => by cases h
  | a :: as, p :: kvs, H, h, hn => by
    have hn' := List.nodup_cons.mp hn
    have ih := zpT_at as kvs (upd H a (.tup [p.1, p.2])) (Nat.succ.inj h) hn'.2
    refine .cons ?_ ih
    show zpT (upd H a (.tup [p.1, p.2])) as kvs a = some (.tup [p.1, p.2])
    rw [zpT_off as kvs _ hn'.1, upd_same]
section
variable {X : Cx}
theorem zl_laid {pins : List (Addr × Obj)} {σ : St} {H : Hp} {s : Shared} {h' : Heap} {tk : Nat} {xs ys : List V} {its itt : List Value} {acc : Array Value} {c : Nat} {as : List Addr} {S : Addr} (I : Inv X pins σ H s) (hz : min xs.length ys.length ≤ sizeLine) (rv : Vals xs its) (rw' : Vals ys itt)
    (hk : ∀ b o, s.heap.get? b = some o → h'.get? b = some o) (hSs : s.heap.objs.size ≤ S) (hS : h'.get? S = some { cls := .type "list", dict := none, data := .seq acc c, slots := #[] }) (hl : as.length = min xs.length ys.length) (hG : PySem.W.ZlG its.toArray itt.toArray (S + 1) h' as) (hacc : acc.toList = as.map Value.ref) :
    as.Nodup ∧ H S = none ∧ (∀ t ∈ as, H t = none) ∧ S ∉ as ∧ Inv X pins σ (zpT (upd H S (.lst (as.map V.ref))) as (xs.zip ys)) { s with heap := h', toks := tk } := by
  have hSn : S ∉ as := fun z => Nat.lt_irrefl _ (hG.above _ z)
  have nd : as.Nodup := List.Pairwise.imp (fun {a b} (h : a < b) => Nat.ne_of_lt h) hG.rise
  have ab : ∀ t ∈ as, s.heap.objs.size ≤ t := fun t ht => Nat.le_trans hSs (Nat.le_of_lt (hG.above t ht))
  have new : ∀ t ∈ as, H t = none := fun t ht => I.hok.fresh (ab t ht)
  have newS : H S = none := I.hok.fresh hSs
  have hl' : as.length = (xs.zip ys).length := by rw [List.length_zip]; exact hl
  have atP := zpT_at as (xs.zip ys) (upd H S (.lst (as.map V.ref))) hl' nd
  have off : ∀ b, b ∉ as → b ≠ S → zpT (upd H S (.lst (as.map V.ref))) as (xs.zip ys) b = H b := fun b h1 h2 => by rw [zpT_off as _ _ h1, upd_ne h2]
  have low : ∀ b o, s.heap.get? b = some o → b ∉ as ∧ b ≠ S := fun b o e => ⟨fun z => absurd (Heap.lt_size e) (Nat.not_lt.mpr (ab b z)), Nat.ne_of_lt (Nat.lt_of_lt_of_le (Heap.lt_size e) hSs)⟩
  have kp : ∀ b u, H b = some u → (zpT (upd H S (.lst (as.map V.ref))) as (xs.zip ys)) b = some u := fun b u e => by
    rw [off b (fun z => by rw [new b z] at e; cases e) (fun z => by rw [z, newS] at e; cases e)]
    exact e
  have eS : zpT (upd H S (.lst (as.map V.ref))) as (xs.zip ys) S = some (.lst (as.map V.ref)) := by rw [zpT_off as _ _ hSn, upd_same]
  refine ⟨nd, newS, new, hSn, ?_⟩
  refine I.call' (ch := []) rfl ⟨fun b o q _ _ _ => hk b o q, fun b o q _ _ _ => ⟨o.slots, hk b o q⟩, fun b o q n _ => ?_, fun b o q _ => ⟨o, hk b o q⟩, fun b xs q => kp b _ q, fun b o u q => kp b _ q, fun b ps q => ⟨#[], by rw [kp b _ q]; simp⟩⟩ (fun b u q => ?_) I.bare fun b z => by simp at z
  · obtain ⟨z1, z2⟩ := low b o q
    rw [off b z1 z2]
    exact n
  · by_cases hb : b ∈ as
    · obtain ⟨j, pk, e1, e2, e3⟩ := LiI.paired_ix atP hb
      rw [e3] at q
      cases q
      obtain ⟨x, y, ⟨f1, f2⟩, f3⟩ := hG.pairs j b e1
      have g := List.getElem?_zip_eq_some.mp e2
      obtain ⟨u1, g2, g3⟩ := rv.get g.1
      obtain ⟨u2, k2, k3⟩ := rw'.get g.2
      have f1' : its[j]? = some x := by simpa using f1
      have f2' : itt[j]? = some y := by simpa using f2
      rw [g2] at f1'
      rw [k2] at f2'
      cases f1'
      cases f2'
      exact ⟨by show 2 ≤ sizeLine; decide, [x, y], .cons g3 (.cons k3 .nil), ⟨_, f3, rfl, _, rfl⟩⟩
    · by_cases hb2 : b = S
      · rw [hb2] at q ⊢
        rw [eS] at q
        cases q
        refine ⟨by rw [List.length_map]; omega, acc.toList, c, by rw [hacc]; exact LiI.vals_refs as, ?_⟩
        rw [Array.toArray_toList]
        exact hS
      · rw [off b hb hb2] at q
        exact (I.hok b u q).stay (fun d v _ y => hk d v y) (fun d y => kp d _ y) fun d xs y => kp d _ y
def tListZip (K : PySem.W.Frag) (ta : TA) : TE := fun σ H Q => ta σ H fun vs H1 => ∃ a b xs ys, vs = [.ref a, .ref b] ∧ SqL K H1 a xs ∧ SqL K H1 b ys ∧ min xs.length ys.length ≤ sizeLine ∧
  ∀ (S : Addr) (as : List Addr), as.length = min xs.length ys.length → as.Nodup → H1 S = none → (∀ t ∈ as, H1 t = none) → S ∉ as → Q (.ref S) (zpT (upd H1 S (.lst (as.map V.ref))) as (xs.zip ys))
theorem pe_listZip {e e2 : Expr} {ta : TA} {p p2 pos pos2 : Pos} (hc : X.calm = true) (ha : PA X [e, e2] ta) (hg : Gl X "list") (hm : X.mg "list" = none) (hg2 : Gl X "zip") (hm2 : X.mg "zip" = none)
    (hs2 : starEach [e, e2] X.env = (false, eval e X.env) :: starEach [e2] X.env := by rfl) (hpl : (backTo pos2 (starEach [e2] X.env)).any (·.1) = false := by rfl)
    (hs : starEach [.Call (.Name "zip" p2) [e, e2] [] pos2] X.env = (false, eval (.Call (.Name "zip" p2) [e, e2] [] pos2) X.env) :: starEach [] X.env := by rfl) :
    PE X (.Call (.Name "list" p) [.Call (.Name "zip" p2) [e, e2] [] pos2] [] pos) (tListZip X.K ta) := by
  refine ⟨fun pins s σ H Q I hq => ?_⟩
  have hv : bootBuiltins "list" = some (.type "list") := by decide +kernel
  refine wpAny_Call_Name_kw (ld_blt I hg hm hv ?_)
  refine PyProof.Rows.callWith_type1 ?_ hs rfl
  rw [hs]
  show wpAny _ _ (spliced ((false, eval (.Call (.Name "zip" p2) [e, e2] [] pos2) X.env) :: backTo pos (starEach [] X.env))) _ _ s
  refine Calls.spliced_cons ?_
  refine Call_ (ld_blt I hg2 hm2 PyProof.Rows.boot_zip (PyProof.Rows.callWith_type1 (thn (ha.run pos2 pins s σ H _ I hq) fun us s1 ⟨vs, H1, I1, r1, a, b, xs, ys, ex, hx, hy, hz, q⟩ => ?_) hs2 hpl))
  subst ex
  cases r1 with
  | cons r rr =>
    cases rr with
    | cons r' rr =>
      cases rr
      cases r
      cases r'
      obtain ⟨its, rv, p1, _⟩ := I1.list hx
      obtain ⟨itt, rw', p2, _⟩ := I1.list hy
      refine call_zip_2 p1.isList p2.isList fun h' hz' hTI hTO h1 h2 hsz hk => ?_
      refine Calls.spliced_nil ?_
      have la := p1.lt
      have lb := p2.lt
      have D := PySem.W.ktu_apart s1.heap.objs.size a b la lb
      have e1 : its.toArray.size = xs.length := by rw [List.size_toArray]; exact rv.length.symm
      have e2 : itt.toArray.size = ys.length := by rw [List.size_toArray]; exact rw'.length.symm
      refine PySem.W.zl_call (s := { s1 with heap := h' }) (I1.ok.hd hc) D (fun c hc => ?_) (by rw [e1, e2]; exact hz) hz' ⟨hTI, h1, h2, p1.isList.at fun o g => hk _ o g, p2.isList.at fun o g => hk _ o g, .inl ⟨hz', _, _, hTO⟩⟩ fun h2 tk acc c as hk2 hS hla hG hacc => ?_
      · show c < h'.objs.size
        rw [hsz]
        simp only [List.mem_cons, List.not_mem_nil, or_false] at hc
        have aN : (a : Nat) < s1.heap.objs.size := la
        have bN : (b : Nat) < s1.heap.objs.size := lb
        rcases hc with e | e | e | e | e | e | e <;> subst e
        · exact Nat.add_lt_add_left (by decide) _
        · exact Nat.add_lt_add_left (by decide) _
        · exact Nat.add_lt_add_left (by decide) _
        · exact Nat.lt_add_of_pos_right (by decide)
        · exact Nat.add_lt_add_left (by decide) _
        · exact Nat.lt_of_lt_of_le aN (Nat.le_add_right _ _)
        · exact Nat.lt_of_lt_of_le bN (Nat.le_add_right _ _)
      · have hk3 : ∀ b o, s1.heap.get? b = some o → h2.get? b = some o := fun b o hb => by
          have lb : (b : Nat) < s1.heap.objs.size := Heap.lt_size hb
          refine hk2 b o (fun m => ?_) (hk b o hb)
          simp only [PySem.W.ZlW, List.mem_cons, List.not_mem_nil, or_false] at m
          have no : ∀ k : Nat, b = s1.heap.objs.size + k → False := fun k e => by
            have e' : (b : Nat) = s1.heap.objs.size + k := e
            rw [e'] at lb
            exact absurd lb (Nat.not_lt.mpr (Nat.le_add_right _ _))
          rcases m with e | e | e | e
          · exact no 4 e
          · exact no 3 e
          · exact no 0 e
          · exact no 1 e
        rw [e1, e2] at hla
        have hS0 : s1.heap.objs.size ≤ h'.objs.size := by rw [hsz]; exact Nat.le_add_right _ _
        obtain ⟨k1, k2, k3, k4, J⟩ := zl_laid (tk := tk) I1 hz rv rw' hk3 hS0 hS hla hG hacc
        exact ⟨.ref _, _, J, rfl, q _ as hla k1 k2 k3 k4⟩
/-- list(zip(x, y)), x and y lists, or lists that may be written -/
def lstOf (l : LH) (d : D) (k : List D → Prop) : Prop := match d with
  | .lst xs => k xs
  | .ref a => getO l a fun o => match o with | .lst xs => k xs | _ => False
  | _ => False
def dLZip (ta : DTA) : DTE := fun env l Q => ta env l fun ds l1 => match ds with
  | [x, y] => lstOf l1 x fun xs => lstOf l1 y fun ys => (xs.length ≤ sizeLine ∨ ys.length ≤ sizeLine) ∧ Q (.lst (zipD xs ys)) l1
  | _ => False
theorem rep_zpT {K : PySem.W.Frag} {Fr : Hp} {l : LH} : ∀ (as : List Addr) (kvs : List (V × V)) {F H : Hp}, Rep K F Fr l H → (∀ a ∈ as, H a = none) → as.Nodup → Rep K (zpT F as kvs) Fr l (zpT H as kvs) ∧ Same F (zpT F as kvs)
  | [], _, F, H, R, _, _ => ⟨R, Same.refl F⟩
  | _ :: _, [], F, H, R, _, _ => ⟨R, Same.refl F⟩
  | a :: as, p :: kvs, F, H, R, hn, nd => by
    obtain ⟨n1, n2⟩ := List.nodup_cons.mp nd
    have na := hn a List.mem_cons_self
    obtain ⟨r, s⟩ := rep_zpT as kvs (R.laid na (.tup [p.1, p.2])) (fun b hb => by
      have ne : b ≠ a := fun z => n1 (by rw [← z]; exact hb)
      rw [upd_ne ne]
      exact hn b (List.mem_cons_of_mem _ hb)) n2
    exact ⟨r, (same_upd (R.F_none na)).trans s⟩
theorem rel_zipV {K : PySem.W.Frag} {F : Hp} : ∀ {as : List Addr} {ds es : List D} {xs ys : List V}, RelDs K F ds xs → RelDs K F es ys → Paired (fun (t : Addr) (q : V × V) => F t = some (.tup [q.1, q.2])) as (xs.zip ys) → RelDs K F (zipD ds es) (as.map V.ref)
  | as, [], es, [], ys, .nil, _, h => by
    cases as with
    | nil => cases es <;> exact .nil
    | cons => cases h
  | as, d :: ds, [], x :: xs, [], .cons _ _, .nil, h => by
    cases as with
    | nil => exact .nil
    | cons => cases h
  | as, d :: ds, e :: es, x :: xs, y :: ys, .cons r rr, .cons r' rr', h => by
    cases as with
    | nil => cases h
    | cons a as =>
      cases h with
      | cons h1 h2 => exact .cons (.tup h1 (.cons r (.cons r' .nil))) (rel_zipV rr rr' h2)
theorem lstOf_ok {K : PySem.W.Frag} {F Fr H : Hp} {l : LH} {d : D} {v : V} {k : List D → Prop} (R : Rep K F Fr l H) (r : RelD K F d v) (q : lstOf l d k) : ∃ a xs ds, v = .ref a ∧ SqL K H a xs ∧ RelDs K F ds xs ∧ k ds := by
  cases r with
  | @lst p vs ds h1 rr => exact ⟨p, _, _, rfl, .inl (.inl (R.fz _ _ h1)), rr, q⟩
  | ref a =>
    obtain ⟨o, ho, q⟩ := q
    cases o with
    | lst ds =>
      obtain ⟨ws, rw', h1⟩ := (R.lv _ _ ho).2
      exact ⟨a, _, _, rfl, .inl (.inl h1), rw', q⟩
    | _ => exact q.elim
  | _ => exact q.elim
theorem de_listZip {e e2 : Expr} {ta : DTA} {p p2 pos pos2 : Pos} (hc : X.calm = true) (ha : DA X [e, e2] ta) (hg : Gl X "list") (hm : X.mg "list" = none) (hg2 : Gl X "zip") (hm2 : X.mg "zip" = none)
    (hs2 : starEach [e, e2] X.env = (false, eval e X.env) :: starEach [e2] X.env := by rfl) (hpl : (backTo pos2 (starEach [e2] X.env)).any (·.1) = false := by rfl)
    (hs : starEach [.Call (.Name "zip" p2) [e, e2] [] pos2] X.env = (false, eval (.Call (.Name "zip" p2) [e, e2] [] pos2) X.env) :: starEach [] X.env := by rfl) :
    DE X (.Call (.Name "list" p) [.Call (.Name "zip" p2) [e, e2] [] pos2] [] pos) (dLZip ta) := by
  refine ⟨?_⟩
  intro F Fr env l σ H Q hE hR ht
  refine (pe_listZip hc paW hg hm hg2 hm2 hs2 hpl hs).we ?_
  refine (ha F Fr env l σ H _ hE hR ht).mono fun vs H1 ⟨F1, ds, l1, s1, r1, R1, q1⟩ => ?_
  cases r1 with
  | nil => exact q1.elim
  | cons ra rr =>
    cases rr with
    | nil => exact q1.elim
    | cons rb rr =>
      cases rr with
      | cons _ _ => exact q1.elim
      | nil =>
        obtain ⟨a, xs, es, rfl, qa, ra', q1⟩ := lstOf_ok R1 ra q1
        obtain ⟨b, ys, fs, rfl, qb, rb', hz, q1⟩ := lstOf_ok R1 rb q1
        have la := ra'.length
        have lb := rb'.length
        refine ⟨a, b, xs, ys, rfl, qa, qb, by rw [la, lb] at hz; omega, fun S as hl nd nS nas hS => ?_⟩
        have R2 := R1.laid nS (.lst (as.map V.ref))
        obtain ⟨R3, S3⟩ := rep_zpT as (xs.zip ys) R2 (fun b hb => by
          have ne : b ≠ S := fun z => hS (by rw [← z]; exact hb)
          rw [upd_ne ne]
          exact nas b hb) nd
        have sm : Same F1 (zpT (upd F1 S (.lst (as.map V.ref))) as (xs.zip ys)) := (same_upd (R1.F_none nS)).trans S3
        have at_ := zpT_at as (xs.zip ys) (upd F1 S (.lst (as.map V.ref))) (by rw [List.length_zip]; exact hl) nd
        have eS : zpT (upd F1 S (.lst (as.map V.ref))) as (xs.zip ys) S = some (.lst (as.map V.ref)) := by rw [zpT_off as _ _ hS, upd_same]
        exact ⟨_, .lst (zipD es fs), l1, s1.trans sm, .lst eS (rel_zipV (ra'.mono sm) (rb'.mono sm) at_), R3, q1⟩
end
end DL

/-! x in (y, z) -/
namespace DL
open PySem PySem.Spec PyProof.Rows L2
section
variable {X : Cx} {a b : Expr} {ta tb : DTE} {pos : Pos} {k : Nat}
def rInTu (neg : Bool) (K : PySem.W.Frag) : R2 := fun x y H Q => ∃ d ds, Dp K H x d ∧ Dp K H y (.tuple ds) ∧ SeqAt.shaped d = true ∧ SeqAt.shaped (.tuple ds) = true ∧ Q (.bl ((ds.any fun z => PyData.eqv z d) != neg)) H
theorem op_inTu (hu : X.A.units + 65 < cLine) : OpR X (compareOp .In) (rInTu false X.K) := by
  intro pins s σ H x y v u Q I rx ry h
  obtain ⟨d, ds, hd, he, sd, se, q⟩ := h
  obtain ⟨as, r1⟩ := Dp.reads I d x v hd rx
  obtain ⟨bs, r2⟩ := Dp.reads I (.tuple ds) y u he ry
  rw [Bool.bne_false] at q
  exact SeqAt.in_tuple_reads r2 r1 (SeqAt.canLay_of_shaped se) (SeqAt.canLay_of_shaped sd) (room_in_shaped sd hu) ⟨.bl _, H, I, rfl, q⟩
theorem op_notInTu (hu : X.A.units + 65 < cLine) : OpR X (compareOp .NotIn) (rInTu true X.K) := by
  intro pins s σ H x y v u Q I rx ry h
  obtain ⟨d, ds, hd, he, sd, se, q⟩ := h
  obtain ⟨as, r1⟩ := Dp.reads I d x v hd rx
  obtain ⟨bs, r2⟩ := Dp.reads I (.tuple ds) y u he ry
  rw [Bool.bne_true] at q
  exact SeqAt.notIn_tuple_reads r2 r1 (SeqAt.canLay_of_shaped se) (SeqAt.canLay_of_shaped sd) (room_in_shaped sd hu) ⟨.bl _, H, I, rfl, q⟩
def kInTu (neg : Bool) : D → D → LH → DK → Prop := fun x y l Q => resL x l fun x => resL y l fun y => match y with
  | .tup ds => okD x ∧ okD (.tup ds) ∧ Q (.bl ((ds.any fun z => eqD z x) != neg)) l
  | _ => False
theorem kInTu_ok {neg : Bool} : KOp X (rInTu neg X.K) (kInTu neg) := by
  intro F Fr l H Q d e v u Q' R rd re hq q
  obtain ⟨d', q, h1⟩ := resL_ok R rd q
  obtain ⟨e', q, h2⟩ := resL_ok R re q
  cases e' with
  | tup ds =>
    obtain ⟨c1, c2, q⟩ := q
    refine ⟨_, _, h1 (SeqAt.canLay_of_shaped c1), h2 (SeqAt.canLay_of_shaped c2), c1, c2, hq _ _ (LK.mk (.bl _) R ?_)⟩
    rw [any_toPys]
    exact q
  | _ => exact q.elim
def dInTu : DTE → DTE → DTE := dOp (kInTu false)
def dNotInTu : DTE → DTE → DTE := dOp (kInTu true)
theorem de_inTu (hr : Room k X.A) (ha : DE X a ta) (hb : DE X b tb) (hm : behindInMarks .In b = false := by rfl) : DE X (.Compare a [.In] [b] pos) (dInTu ta tb) := de_cmp (op_inTu (by have := hr.un; omega)) kInTu_ok ha hb hm
theorem dt_inTu (hr : Room k X.A) (ha : DE X a ta) (hb : DE X b tb) (hm : behindInMarks .In b = false := by rfl) : DT X (.Compare a [.In] [b] pos) (dTV (dInTu ta tb)) := dt_cmp (op_inTu (by have := hr.un; omega)) kInTu_ok ha hb hm
theorem de_notInTu (hr : Room k X.A) (ha : DE X a ta) (hb : DE X b tb) (hm : behindInMarks .NotIn b = false := by rfl) : DE X (.Compare a [.NotIn] [b] pos) (dNotInTu ta tb) := de_cmp (op_notInTu (by have := hr.un; omega)) kInTu_ok ha hb hm
theorem dt_notInTu (hr : Room k X.A) (ha : DE X a ta) (hb : DE X b tb) (hm : behindInMarks .NotIn b = false := by rfl) : DT X (.Compare a [.NotIn] [b] pos) (dTV (dNotInTu ta tb)) := dt_cmp (op_notInTu (by have := hr.un; omega)) kInTu_ok ha hb hm
end
end DL

/-! isinstance(e, (T, U)) of built-in types -/
namespace DL
open PySem PySem.Spec PyProof.Rows L2
section
variable {X : Cx} {e : Expr} {te : DTE} {pos : Pos}
def dIsI2 (T U : Ty) (te : DTE) : DTE := fun env l Q => te env l fun d l1 => tyK d l1 fun t => Q (.bl (isTy t T || isTy t U)) l1
theorem de_isI2 {x y z : Str} {p p2 p3 tpos : Pos} {kk : Nat} (T U : Ty) (hx : x = "isinstance" := by rfl) (hg : Gl X x) (hm : X.mg x = none) (hv : bootBuiltins x = some (.builtin "isinstance"))
    (hg2 : Gl X y) (hm2 : X.mg y = none) (hv2 : bootBuiltins y = some (.type (tyName T))) (hn2 : y ≠ "__name__") (hd2 : (y == ("__debug__" : Str)) = false)
    (hg3 : Gl X z) (hm3 : X.mg z = none) (hv3 : bootBuiltins z = some (.type (tyName U))) (hn3 : z ≠ "__name__") (hd3 : (z == ("__debug__" : Str)) = false) (h : DE X e te)
    (he : starEach (e :: [.Tuple [.Name y p2, .Name z p3] kk tpos]) X.env = (false, eval e X.env) :: starEach [.Tuple [.Name y p2, .Name z p3] kk tpos] X.env := by rfl) :
    DE X (.Call (.Name x p) [e, .Tuple [.Name y p2, .Name z p3] kk tpos] [] pos) (dIsI2 T U te) := by
  refine ⟨?_⟩
  intro F Fr env l σ H Q hE hR ht
  subst hx
  refine (pe_callB call_isiT hg hm hv (pa_cons peW (pa_cons (pe_tup (pa_cons (pe_bltn (v := .ty (tyName T)) hg2 hm2 hv2 rfl hn2 hd2) (pa_cons (pe_bltn (v := .ty (tyName U)) hg3 hm3 hv3 rfl hn3 hd3) pa_nil))) pa_nil) he) (by decide) (by decide) he).we ?_
  refine (h F Fr env l σ H _ hE hR ht).mono fun x H1 ⟨F1, d, l1, s1, r1, R1, q1⟩ => ?_
  refine ⟨show 2 ≤ sizeLine by decide, fun a n0 => ?_⟩
  obtain ⟨t, q2, ty⟩ := tyK_ok (R1.extra n0 (.tup [.ty (tyName T), .ty (tyName U)])) r1 q1
  refine ⟨x, a, [.ty (tyName T), .ty (tyName U)], _, [.type (tyName T), .type (tyName U)], isTy t T || isTy t U, rfl, upd_same, .cons (ClsVty _) (.cons (ClsVty _) .nil), ty, ?_, F1, _, l1, s1, .bl _, R1.extra n0 _, q2⟩
  refine kitAny_cons (kit_ty (isTy_ok t T)) (fun e1 => ?_) fun e1 => ?_
  · refine kitAny_cons (kit_ty (isTy_ok t U)) (fun e2 => ?_) fun e2 => ?_
    · rw [e1, e2]; exact kitAny_nil
    · rw [e1, e2]; rfl
  · rw [e1]; rfl
end
end DL

/-! divmod by a great number -/
namespace DL
open PySem PySem.Spec PyProof.Rows L2
def kDivmodW : List D → LH → DK → Prop := fun ds l Q => match ds with
  | [.int i, .int j] => CDivP i j ∧ Q (.tup [.int (i / j), .int (i % j)]) l
  | _ => False
theorem kDivmodW_ok {X : Cx} : KCall X (fun xs H Q => ∃ i j, xs = [.int i, .int j] ∧ CDivP i j ∧ ∀ p, H p = none → Q (.ref p) (upd H p (.tup [.int (i / j), .int (i % j)]))) kDivmodW := by
  intro F Fr l H Q ds vs Q' R rd hq q
  cases rd with
  | nil => exact q.elim
  | cons r1 rr =>
    cases r1 <;> try (cases rr <;> exact q.elim)
    cases rr with
    | nil => exact q.elim
    | cons r2 rr =>
      cases rr with
      | cons _ _ => cases r2 <;> exact q.elim
      | nil =>
        cases r2 <;> try exact q.elim
        exact ⟨_, _, rfl, q.1, fun p np => hq _ _ (LK.tup np R (.cons (.int _) (.cons (.int _) .nil)) q.2)⟩
end DL

/-! max and min of a list or a tuple of numbers -/
namespace DL
open PySem PySem.Spec PyProof.Rows L2
def rMaxI (K : PySem.W.Frag) : List V → Hp → VK → Prop := fun vs H Q => ∃ (a : Addr) (n : Int) (ns : List Int), vs = [V.ref a] ∧ (SqL K H a ((n :: ns).map V.int) ∨ SqT K H a ((n :: ns).map V.int)) ∧ Q (.int (ns.foldl max n)) H
def rMinI (K : PySem.W.Frag) : List V → Hp → VK → Prop := fun vs H Q => ∃ (a : Addr) (n : Int) (ns : List Int), vs = [V.ref a] ∧ (SqL K H a ((n :: ns).map V.int) ∨ SqT K H a ((n :: ns).map V.int)) ∧ Q (.int (ns.foldl min n)) H
theorem call_maxI {X : Cx} {k : Nat} (hc : X.calm = true) (hr : Room k X.A) : CallR X (.builtin "max") (rMaxI X.K) := by
  intro pins s σ H vs us Q I r ⟨a, n, ns, e, hs, q⟩
  subst e
  have hd : PyData.depthAll (PyData.int n :: ns.map PyData.int) = 0 := depth_ints (n :: ns)
  rw [Vals.ref1 r]
  rcases hs with hs | hs
  · obtain ⟨its, rv, hl, _⟩ := I.list hs
    obtain ⟨as, rd⟩ := Dp.readsAll I ((n :: ns).map PyData.int) _ its (dp_ints (n :: ns)) rv
    refine PySem.W.max_list_data (x := .int n) (xs := ns.map PyData.int) (I.ok.hd hc) hl.isList (by simpa using rd) (alike_intsM (n :: ns)) (by rw [hd]; have := hr.un; omega) fun i v h' tk bs hi r' hk => ?_
    rw [PySem.W.maxD_ints] at r'
    cases r'
    exact ⟨.int (ns.foldl max n), H, I.kept hk, ⟨_, rfl⟩, q⟩
  · obtain ⟨its, rv, hl, _⟩ := I.tuple hs
    obtain ⟨as, rd⟩ := Dp.readsAll I ((n :: ns).map PyData.int) _ its (dp_ints (n :: ns)) rv
    refine PySem.W.max_tuple_data (x := .int n) (xs := ns.map PyData.int) (I.ok.hd hc) hl (by simpa using rd) (alike_intsM (n :: ns)) (by rw [hd]; have := hr.un; omega) fun i v h' tk bs hi r' hk => ?_
    rw [PySem.W.maxD_ints] at r'
    cases r'
    exact ⟨.int (ns.foldl max n), H, I.kept hk, ⟨_, rfl⟩, q⟩
theorem call_minI {X : Cx} {k : Nat} (hc : X.calm = true) (hr : Room k X.A) : CallR X (.builtin "min") (rMinI X.K) := by
  intro pins s σ H vs us Q I r ⟨a, n, ns, e, hs, q⟩
  subst e
  have hd : PyData.depthAll (PyData.int n :: ns.map PyData.int) = 0 := depth_ints (n :: ns)
  rw [Vals.ref1 r]
  rcases hs with hs | hs
  · obtain ⟨its, rv, hl, _⟩ := I.list hs
    obtain ⟨as, rd⟩ := Dp.readsAll I ((n :: ns).map PyData.int) _ its (dp_ints (n :: ns)) rv
    refine PySem.W.min_list_data (x := .int n) (xs := ns.map PyData.int) (I.ok.hd hc) hl.isList (by simpa using rd) (alike_intsM (n :: ns)) (by rw [hd]; have := hr.un; omega) fun i v h' tk bs hi r' hk => ?_
    rw [PySem.W.minD_ints] at r'
    cases r'
    exact ⟨.int (ns.foldl min n), H, I.kept hk, ⟨_, rfl⟩, q⟩
  · obtain ⟨its, rv, hl, _⟩ := I.tuple hs
    obtain ⟨as, rd⟩ := Dp.readsAll I ((n :: ns).map PyData.int) _ its (dp_ints (n :: ns)) rv
    refine PySem.W.min_tuple_data (x := .int n) (xs := ns.map PyData.int) (I.ok.hd hc) hl (by simpa using rd) (alike_intsM (n :: ns)) (by rw [hd]; have := hr.un; omega) fun i v h' tk bs hi r' hk => ?_
    rw [PySem.W.minD_ints] at r'
    cases r'
    exact ⟨.int (ns.foldl min n), H, I.kept hk, ⟨_, rfl⟩, q⟩
def kMaxI : List D → LH → DK → Prop := fun ds l Q => match ds with
  | [.lst ds] => ∃ n ns, ds = (n :: ns).map D.int ∧ Q (.int (ns.foldl max n)) l
  | [.tup ds] => ∃ n ns, ds = (n :: ns).map D.int ∧ Q (.int (ns.foldl max n)) l
  | _ => False
def kMinI : List D → LH → DK → Prop := fun ds l Q => match ds with
  | [.lst ds] => ∃ n ns, ds = (n :: ns).map D.int ∧ Q (.int (ns.foldl min n)) l
  | [.tup ds] => ∃ n ns, ds = (n :: ns).map D.int ∧ Q (.int (ns.foldl min n)) l
  | _ => False
theorem kMaxI_ok {X : Cx} : KCall X (rMaxI X.K) kMaxI := by
  intro F Fr l H Q ds vs Q' R rd hq q
  cases rd with
  | nil => exact q.elim
  | @cons d v ds' vs' r1 rr =>
    cases rr with
    | cons _ _ => cases d <;> exact q.elim
    | nil =>
      cases r1 with
      | @lst p xs ds h1 r1 =>
        obtain ⟨n, ns, rfl, q⟩ := q
        rw [rel_ints (ns := n :: ns) r1] at h1
        exact ⟨p, n, ns, rfl, .inl (.inl (.inl (R.fz _ _ h1))), hq _ _ (LK.mk (.int _) R q)⟩
      | @tup p xs ds h1 r1 =>
        obtain ⟨n, ns, rfl, q⟩ := q
        rw [rel_ints (ns := n :: ns) r1] at h1
        exact ⟨p, n, ns, rfl, .inr (tq (R.fz _ _ h1)), hq _ _ (LK.mk (.int _) R q)⟩
      | _ => exact q.elim
theorem kMinI_ok {X : Cx} : KCall X (rMinI X.K) kMinI := by
  intro F Fr l H Q ds vs Q' R rd hq q
  cases rd with
  | nil => exact q.elim
  | @cons d v ds' vs' r1 rr =>
    cases rr with
    | cons _ _ => cases d <;> exact q.elim
    | nil =>
      cases r1 with
      | @lst p xs ds h1 r1 =>
        obtain ⟨n, ns, rfl, q⟩ := q
        rw [rel_ints (ns := n :: ns) r1] at h1
        exact ⟨p, n, ns, rfl, .inl (.inl (.inl (R.fz _ _ h1))), hq _ _ (LK.mk (.int _) R q)⟩
      | @tup p xs ds h1 r1 =>
        obtain ⟨n, ns, rfl, q⟩ := q
        rw [rel_ints (ns := n :: ns) r1] at h1
        exact ⟨p, n, ns, rfl, .inr (tq (R.fz _ _ h1)), hq _ _ (LK.mk (.int _) R q)⟩
      | _ => exact q.elim
end DL

/-! a comprehension over enumerate of a list that may be written -/
namespace DL
open PySem PySem.Spec PyProof.Rows L2
def LI5 (K : PySem.W.Frag) (F Fr : Hp) (R : List D → LH → Prop) (S : Addr → List D → LH → Prop) : It → Hp → Prop := fun J H => ∃ F1 l1, Same F F1 ∧ Rep K F1 Fr l1 H ∧
  ((∃ ds, JOk K F1 J ds ∧ R ds l1) ∨ ∃ a ds, J = Ite K a ∧ S a ds l1)
section
variable {X : Cx} {elt tg iter : Expr} {ifs : List Expr} {scope : Scope} {own : List (Str × Nat)} {pos : Pos} {g : DTG} {tt : DTT} {te : DTE}
theorem comp_coreE {F Fr : Hp} {env : DSt} {l : LH} {σ : St} {H : Hp} {Qf : List D → LH → Prop} {Qd : VK} {vs : List Nat} {G : TG} {TT' : TT} {TE' : TE} (he : RepE X.K F env σ) (hr : Rep X.K F Fr l H)
    (hw : WI X tg iter σ H (LI5 X.K F Fr (fun ds l1 => ds.length ≤ sizeLine ∧ compL g tt te vs ds env l1 Qf) (fun a all l1 => all.length ≤ sizeLine ∧ compR a all g tt te vs (enumD 0 all) env l1 Qf)))
    (hg : ∀ F Fr env l σ H d v Q, RepE X.K F env σ → Rep X.K F Fr l H → RelD X.K F d v → g d env l Q → G v σ H (LG X.K F Fr vs σ Q))
    (hgm : ∀ v σ H Q Q', G v σ H Q → (∀ σ H, Q σ H → Q' σ H) → G v σ H Q')
    (ht : ∀ F Fr env l σ H Q, RepE X.K F env σ → Rep X.K F Fr l H → tt env l Q → TT' σ H (LB X.K F Fr Q))
    (htm : ∀ σ H Q Q', TT' σ H Q → (∀ b H, Q b H → Q' b H) → TT' σ H Q')
    (hE : ∀ F Fr env l σ H Q, RepE X.K F env σ → Rep X.K F Fr l H → te env l Q → TE' σ H (LK X.K F Fr Q))
    (hEm : ∀ σ H Q Q', TE' σ H Q → (∀ v H, Q v H → Q' v H) → TE' σ H Q')
    (hd : ∀ F' Fr' l' H' D acc vacc, Same F F' → Fr' = upd Fr D (.lst vacc) → Fr D = none → RelDs X.K F' acc vacc → Rep X.K F' Fr' l' H' → Qf acc l' → Qd (.ref D) H') : tLc (WI X tg iter) G TT' TE' vs σ H Qd := by
  refine hw.mono fun J H1 ⟨F1, l1, s1, R1, q1⟩ => ?_
  intro p nD
  have nFr : Fr p = none := R1.Fr_none nD
  rcases q1 with ⟨ds, jk, hz, q1⟩ | ⟨a, ds, ej, hz, q1⟩
  · refine ⟨fun i m H => m = ds.length - i ∧ i ≤ ds.length ∧ ∃ F' l acc vacc, Same F1 F' ∧ Rep X.K F' (upd Fr p (.lst vacc)) l H ∧ RelDs X.K F' acc vacc ∧ acc.length ≤ i ∧ compL g tt te vs (ds.drop i) env l fun rs l' => Qf (acc ++ rs) l',
      ⟨_, rfl, Nat.zero_le _, F1, l1, [], [], Same.refl _, R1.take nD _, .nil, Nat.le_refl _, q1⟩, ?_⟩
    rintro i m H ⟨rfl, hi, F2, l2, acc, vacc, s2, R2, ra, hl, q2⟩
    obtain ⟨j1, j2⟩ := jk i F2 _ l2 H s2 R2
    by_cases hlt : i < ds.length
    · rw [List.drop_eq_getElem_cons hlt] at q2
      obtain ⟨go, y⟩ := j2 ds[i] (List.getElem?_eq_getElem hlt)
      refine .inr ⟨go, fun H => ∃ F' l acc vacc, Same F1 F' ∧ Rep X.K F' (upd Fr p (.lst vacc)) l H ∧ RelDs X.K F' acc vacc ∧ acc.length ≤ i + 1 ∧ compL g tt te vs (ds.drop (i + 1)) env l fun rs l' => Qf (acc ++ rs) l', fun H' h => ⟨_, by omega, rfl, hlt, h⟩, fun x H' hy => ?_⟩
      obtain ⟨F3, s3, rx, R3⟩ := y x H' hy
      replace q2 : wipeK vs env _ := q2
      rw [wipeK_eq] at q2
      have he3 : RepE X.K F3 (wipeE env vs) (L2.wipe σ vs) := (((he.mono s1).mono s2).mono s3).wipe vs
      refine hgm _ _ _ _ _ (hg F3 _ _ l2 _ H' _ _ _ he3 R3 rx q2) fun σ4 H4 ⟨w4, F4, env4, l4, s4, he4, R4, q4⟩ => ?_
      refine ⟨w4.trans (wipe_wipe σ vs), ?_⟩
      refine htm _ _ _ _ (ht F4 _ env4 l4 σ4 H4 _ he4 R4 q4) fun c H5 ⟨F5, l5, s5, R5, q5⟩ => ?_
      have S5 : Same F2 F5 := s3.trans (s4.trans s5)
      cases c with
      | false =>
        exact L2.iteF ⟨F5, l5, acc, vacc, s2.trans S5, R5, ra.mono S5, Nat.le_succ_of_le hl, ifB_F q5⟩
      | true =>
        refine L2.iteT (hEm _ _ _ _ (hE F5 _ env4 l5 σ4 H5 _ (he4.mono s5) R5 (ifB_T q5)) fun v H6 ⟨F6, d6, l6, s6, r6, R6, q6⟩ => ?_)
        have S6 : Same F2 F6 := S5.trans s6
        have ra6 := ra.mono S6
        refine ⟨vacc, R6.fr p _ upd_same, ?_, F6, l6, acc ++ [d6], vacc ++ [v], s2.trans S6, R6.turn _, ra6.append (.cons r6 .nil), ?_, ?_⟩
        · rw [← ra6.length]; omega
        · rw [List.length_append]; exact Nat.succ_le_succ hl
        · have e : (fun (rs : List D) l' => Qf (acc ++ [d6] ++ rs) l') = fun rs l' => Qf (acc ++ (d6 :: rs)) l' := by
            funext rs l'
            rw [List.append_assoc]
            rfl
          rw [e]
          exact q6
    · have e : i = ds.length := by omega
      subst e
      rw [List.drop_length] at q2
      replace q2 : Qf (acc ++ []) l2 := q2
      rw [List.append_nil] at q2
      exact .inl ⟨j1 (Nat.le_refl _), hd F2 _ l2 H p acc vacc (s1.trans s2) rfl nFr ra R2 q2⟩
  · subst ej
    have hlen : (enumD 0 ds).length = ds.length := enumD_length ds 0
    refine ⟨fun i m H => m = ds.length - i ∧ i ≤ ds.length ∧ ∃ F' l acc vacc, Same F1 F' ∧ Rep X.K F' (upd Fr p (.lst vacc)) l H ∧ RelDs X.K F' acc vacc ∧ acc.length ≤ i ∧ compR a ds g tt te vs ((enumD 0 ds).drop i) env l fun rs l' => Qf (acc ++ rs) l',
      ⟨_, rfl, Nat.zero_le _, F1, l1, [], [], Same.refl _, R1.take nD _, .nil, Nat.le_refl _, q1⟩, ?_⟩
    rintro i m H ⟨rfl, hi, F2, l2, acc, vacc, s2, R2, ra, hl, q2⟩
    obtain ⟨ws, rv, hq⟩ := (R2.lv _ _ (compR_at q2)).2
    have q : SqL X.K H a ws := .inl (.inl hq)
    by_cases hlt : i < ds.length
    · have hlt2 : i < (enumD 0 ds).length := by rw [hlen]; exact hlt
      rw [List.drop_eq_getElem_cons hlt2] at q2
      have ei : (enumD 0 ds)[i] = .tup [.int (i : Nat), ds[i]] := by
        have h1 := enumD_get ds 0 i
        rw [List.getElem?_eq_getElem hlt2, List.getElem?_eq_getElem hlt, Nat.zero_add] at h1
        exact Option.some.inj h1
      rw [ei] at q2
      obtain ⟨v0, hv, rx⟩ := rv.get (List.getElem?_eq_getElem hlt)
      refine .inr ⟨⟨ws, v0, q, hv⟩, fun H => ∃ F' l acc vacc, Same F1 F' ∧ Rep X.K F' (upd Fr p (.lst vacc)) l H ∧ RelDs X.K F' acc vacc ∧ acc.length ≤ i + 1 ∧ compR a ds g tt te vs ((enumD 0 ds).drop (i + 1)) env l fun rs l' => Qf (acc ++ rs) l', fun H' h => ⟨_, by omega, rfl, hlt, h⟩, fun x H' hy => ?_⟩
      obtain ⟨T, x0, ex, nT, eH, y⟩ := hy
      subst ex eH
      have e := y ws q
      rw [hv] at e
      cases e
      have s3 : Same F2 (upd F2 T (.tup [.int (i : Nat), v0])) := same_upd (R2.F_none nT)
      have R3 := R2.laid nT (.tup [.int (i : Nat), v0])
      have rx3 := relTup (R2.F_none nT) (.cons (.int (i : Nat)) (.cons rx .nil))
      replace q2 := q2.2
      replace q2 : wipeK vs env _ := q2
      rw [wipeK_eq] at q2
      have he3 : RepE X.K _ (wipeE env vs) (L2.wipe σ vs) := (((he.mono s1).mono s2).mono s3).wipe vs
      refine hgm _ _ _ _ _ (hg _ _ _ l2 _ _ _ _ _ he3 R3 rx3 q2) fun σ4 H4 ⟨w4, F4, env4, l4, s4, he4, R4, q4⟩ => ?_
      refine ⟨w4.trans (wipe_wipe σ vs), ?_⟩
      refine htm _ _ _ _ (ht F4 _ env4 l4 σ4 H4 _ he4 R4 q4) fun c H5 ⟨F5, l5, s5, R5, q5⟩ => ?_
      have S5 : Same F2 F5 := s3.trans (s4.trans s5)
      cases c with
      | false =>
        exact L2.iteF ⟨F5, l5, acc, vacc, s2.trans S5, R5, ra.mono S5, Nat.le_succ_of_le hl, ifB_F q5⟩
      | true =>
        refine L2.iteT (hEm _ _ _ _ (hE F5 _ env4 l5 σ4 H5 _ (he4.mono s5) R5 (ifB_T q5)) fun v H6 ⟨F6, d6, l6, s6, r6, R6, q6⟩ => ?_)
        have S6 : Same F2 F6 := S5.trans s6
        have ra6 := ra.mono S6
        refine ⟨vacc, R6.fr p _ upd_same, ?_, F6, l6, acc ++ [d6], vacc ++ [v], s2.trans S6, R6.turn _, ra6.append (.cons r6 .nil), ?_, ?_⟩
        · rw [← ra6.length]; omega
        · rw [List.length_append]; exact Nat.succ_le_succ hl
        · have e : (fun (rs : List D) l' => Qf (acc ++ [d6] ++ rs) l') = fun rs l' => Qf (acc ++ (d6 :: rs)) l' := by
            funext rs l'
            rw [List.append_assoc]
            rfl
          rw [e]
          exact q6
    · have e : i = ds.length := by omega
      subst e
      rw [← hlen, List.drop_length] at q2
      replace q2 : _ ∧ Qf (acc ++ []) l2 := q2
      rw [List.append_nil] at q2
      exact .inl ⟨⟨ws, q, by rw [← rv.length]; exact Nat.le_refl _⟩, hd F2 _ l2 H p acc vacc (s1.trans s2) rfl nFr ra R2 q2.2⟩
def dLcE (ta : DTA) (g : DTG) (tt : DTT) (te : DTE) (vs : List Nat) : DTE := fun env l Q => ta env l fun ds l1 => match ds with
  | [.lst ds] => ds.length ≤ sizeLine ∧ compL g tt te vs (enumD 0 ds) env l1 fun rs l2 => Q (.lst rs) l2
  | [.tup ds] => ds.length ≤ sizeLine ∧ compL g tt te vs (enumD 0 ds) env l1 fun rs l2 => Q (.lst rs) l2
  | [.ref a] => getO l1 a fun o => match o with | .lst ds => ds.length ≤ sizeLine ∧ compR a ds g tt te vs (enumD 0 ds) env l1 fun rs l2 => Q (.lst rs) l2 | _ => False
  | _ => False
theorem enumE_ok {e : Expr} {ta : DTA} {p pos tpos : Pos} {elts : List Expr} {kk : Nat} (hgl : Gl X "enumerate") (hm : X.mg "enumerate" = none) (ha : DA X [e] ta) (hse : starEach [e] X.env = [(false, eval e X.env)])
    {F Fr : Hp} {env : DSt} {l : LH} {σ : St} {H : Hp} {vs : List Nat} {Qf : List D → LH → Prop} (he : RepE X.K F env σ) (hr : Rep X.K F Fr l H)
    (q : ta env l fun ds l1 => match ds with
      | [.lst ds] => ds.length ≤ sizeLine ∧ compL g tt te vs (enumD 0 ds) env l1 Qf
      | [.tup ds] => ds.length ≤ sizeLine ∧ compL g tt te vs (enumD 0 ds) env l1 Qf
      | [.ref a] => getO l1 a fun o => match o with | .lst ds => ds.length ≤ sizeLine ∧ compR a ds g tt te vs (enumD 0 ds) env l1 Qf | _ => False
      | _ => False) : WI X (.Tuple elts kk tpos) (.Call (.Name "enumerate" p) [e] [] pos) σ H (LI5 X.K F Fr (fun ds l1 => ds.length ≤ sizeLine ∧ compL g tt te vs ds env l1 Qf) (fun a all l1 => all.length ≤ sizeLine ∧ compR a all g tt te vs (enumD 0 all) env l1 Qf)) := by
  refine (pi_enumA hgl hm paW hse).wi ?_
  refine (ha F Fr env l σ H _ he hr q).mono fun us H1 ⟨F1, ds, l1, s1, r1, R1, q1⟩ => ?_
  cases r1 with
  | nil => exact q1.elim
  | cons ra rr =>
    cases rr with
    | cons _ _ => cases ra <;> exact q1.elim
    | nil =>
      cases ra with
      | @tup p vs ds h1 rr => exact ⟨p, _, rfl, .inr ⟨tq (R1.fz _ _ h1), F1, l1, s1, R1, .inl ⟨_, jok_enumT (tq h1) rr, by rw [enumD_length]; exact q1.1, q1.2⟩⟩⟩
      | @lst p vs ds h1 rr => exact ⟨p, _, rfl, .inl ⟨.inl (.inl (R1.fz _ _ h1)), F1, l1, s1, R1, .inl ⟨_, jok_enum (.inl (.inl h1)) rr, by rw [enumD_length]; exact q1.1, q1.2⟩⟩⟩
      | ref a =>
        obtain ⟨o, ho, q⟩ := q1
        cases o with
        | lst ds =>
          obtain ⟨ws, rw', h1⟩ := (R1.lv _ _ ho).2
          exact ⟨a, _, rfl, .inl ⟨.inl (.inl h1), F1, l1, s1, R1, .inr ⟨a, ds, rfl, q⟩⟩⟩
        | _ => exact q.elim
      | _ => exact q1.elim
end
section
variable {X : Cx} {elt e : Expr} {elts : List Expr} {kk : Nat} {tpos p ipos : Pos} {ifs : List Expr} {scope : Scope} {own : List (Str × Nat)} {pos : Pos} {ta : DTA} {g : DTG} {tt : DTT} {te : DTE}
variable (hc : X.calm = true) (hN : X.N.Nodup) (hi : DA X [e] ta) (hgl : Gl X "enumerate") (hm : X.mg "enumerate" = none) (ok : BlkOk X.N X.env.scope scope own)
    (hg : ∀ (s : Shared) (H : Hp) (C : Addr) (cl : List (Str × Addr)) (fp : List Addr), DG (X.blk s H scope (compEnvC scope cl C X.env) fp) (.Tuple elts kk tpos) (own.map (·.2)) g)
    (ht : ∀ (s : Shared) (H : Hp) (C : Addr) (cl : List (Str × Addr)) (fp : List Addr), DTs (X.blk s H scope (compEnvC scope cl C X.env) fp) ifs tt)
    (he : ∀ (s : Shared) (H : Hp) (C : Addr) (cl : List (Str × Addr)) (fp : List Addr), DE (X.blk s H scope (compEnvC scope cl C X.env) fp) elt te)
include hi hgl hm hg ht he
theorem comp_anyE (hse : starEach [e] X.env = [(false, eval e X.env)]) {F Fr : Hp} {env : DSt} {l : LH} {σ : St} {H : Hp} {Qf : List D → LH → Prop} {Qd : VK} (hE : RepE X.K F env σ) (hr : Rep X.K F Fr l H)
    (hd : ∀ F' Fr' l' H' D acc vacc, Same F F' → Fr' = upd Fr D (.lst vacc) → Fr D = none → RelDs X.K F' acc vacc → Rep X.K F' Fr' l' H' → Qf acc l' → Qd (.ref D) H')
    (q : ta env l fun ds l1 => match ds with
      | [.lst ds] => ds.length ≤ sizeLine ∧ compL g tt te (own.map (·.2)) (enumD 0 ds) env l1 Qf
      | [.tup ds] => ds.length ≤ sizeLine ∧ compL g tt te (own.map (·.2)) (enumD 0 ds) env l1 Qf
      | [.ref a] => getO l1 a fun o => match o with | .lst ds => ds.length ≤ sizeLine ∧ compR a ds g tt te (own.map (·.2)) (enumD 0 ds) env l1 Qf | _ => False
      | _ => False) : tLc (WI X (.Tuple elts kk tpos) (.Call (.Name "enumerate" p) [e] [] ipos)) (AG X scope (.Tuple elts kk tpos)) (AT X scope ifs) (AE X scope elt) (own.map (·.2)) σ H Qd :=
  comp_coreE hE hr (enumE_ok hgl hm hi hse hE hr q) (fun F Fr env l σ H d v Q a b c d' s H0 C cl fp => hg s H0 C cl fp F Fr env l σ H d v Q a b c d') (fun v σ H Q Q' w h s H0 C cl fp => (w s H0 C cl fp).mono h)
    (fun F Fr env l σ H Q a b c s H0 C cl fp => (ht s H0 C cl fp).w F Fr env l σ H Q a b c) (fun σ H Q Q' w h s H0 C cl fp => (w s H0 C cl fp).mono h)
    (fun F Fr env l σ H Q a b c s H0 C cl fp => he s H0 C cl fp F Fr env l σ H Q a b c) (fun σ H Q Q' w h s H0 C cl fp => (w s H0 C cl fp).mono h) hd
include hc hN ok
theorem de_lcE (hse : starEach [e] X.env = [(false, eval e X.env)] := by rfl) (hs : ∀ x, foldedSetIterable (.Call (.Name "enumerate" p) [e] [] ipos) X.env x = pure x := by intro _; rfl) : DE X (.ListComp elt [⟨.Tuple elts kk tpos, .Call (.Name "enumerate" p) [e] [] ipos, ifs, 0⟩] scope pos) (dLcE ta g tt te (own.map (·.2))) := by
  refine ⟨?_⟩
  intro F Fr env l σ H Q hE hr q
  refine (pe_lc (g := AG X scope (.Tuple elts kk tpos)) (tt := AT X scope ifs) (te := AE X scope elt) hc hN piW ok (fun s H0 C cl fp => ⟨fun pins s' σ' H' v u Q' I r h => h s H0 C cl fp pins s' u I r⟩) (fun s H0 C cl fp => ⟨fun pins s' σ' H' Q' I h => h s H0 C cl fp pins s' I⟩) (fun s H0 C cl fp => ⟨fun pins s' σ' H' Q' I h => h s H0 C cl fp pins s' I⟩) hs).we ?_
  exact comp_anyE hi hgl hm hg ht he hse hE hr (fun F' Fr' l' H' p acc vacc s e n ra R q => lc_end s e n ra R q) q
end
end DL

/-! division by a number of either sign -/
namespace DL
open PySem PySem.Spec PyProof.Rows L2
section
variable {X : Cx}
def CDivNW (_ j : Int) : Prop := j ≠ 0 ∧ j.natAbs.log2 < 9000
theorem op_fdivNW : OpR X (binaryOp .FloorDiv) (rI CDivNW fun i j => .int (i.fdiv j)) := opI fun _ _ _ _ _ _ _ hc q => floordiv_int hc.1 q (.inl (PyProof.noPylong_of_log2 hc.2))
def kDivN : D → D → LH → DK → Prop := fun x y l Q => match x, y with
  | .int i, .int j => (j ≠ 0 ∧ j.natAbs.log2 < 9000) ∧ Q (.int (i.fdiv j)) l
  | _, _ => False
theorem kDivN_ok : KOp X (rI CDivNW fun i j => .int (i.fdiv j)) kDivN := by
  intro F Fr l H Q d e v u Q' R rd re hq q
  cases rd <;> try exact q.elim
  cases re <;> try exact q.elim
  exact ⟨_, _, rfl, rfl, q.1, hq _ _ (LK.mk (by constructor) R q.2)⟩
def dDivN : DTE → DTE → DTE := dOp kDivN
theorem de_divN {a b : Expr} {ta tb : DTE} {pos : Pos} (ha : DE X a ta) (hb : DE X b tb) : DE X (.BinOp a .FloorDiv b pos) (dDivN ta tb) := de_op op_fdivNW kDivN_ok ha hb
end
end DL

/-! any of numbers; a list backwards -/
namespace DL
open PySem PySem.Spec PyProof.Rows L2
def rAnyN (K : PySem.W.Frag) : List V → Hp → VK → Prop := fun vs H Q => ∃ (a : Addr) (ns : List Int), vs = [V.ref a] ∧ SqT K H a (ns.map V.int) ∧ Q (.bl (ns.any fun n => n != 0)) H
theorem plain_nums : ∀ ns : List Int, PyData.plainAll (ns.map PyData.int) = true
  | [] => by rw [List.map_nil, PyData.plainAll]
  | n :: ns => by rw [List.map_cons, PyData.plainAll, PyData.plain, plain_nums ns]; rfl
theorem call_anyN {X : Cx} (hc : X.calm = true) : CallR X (.builtin "any") (rAnyN X.K) := by
  intro pins s σ H vs us Q I r ⟨a, ns, e, hs, q⟩
  subst e
  rw [Vals.ref1 r]
  obtain ⟨its, rv, hl, _⟩ := I.tuple hs
  obtain ⟨as, rd⟩ := Dp.readsAll I (ns.map PyData.int) _ its (dp_ints ns) rv
  refine PySem.W.any_tuple_data (xs := ns.map PyData.int) (I.ok.hd hc) hl (by simpa using rd) (plain_nums ns) (fun x hx => ?_) fun h' tk hk => ?_
  · obtain ⟨i, _, rfl⟩ := List.mem_map.mp hx
    exact trivial
  · refine ⟨.bl (ns.any fun n => n != 0), H, I.kept hk, ?_, q⟩
    rw [List.any_map]
    rfl
def kAnyN : List D → LH → DK → Prop := fun ds l Q => match ds with
  | [.tup ds] => ∃ ns : List Int, ds = ns.map D.int ∧ Q (.bl (ns.any fun n => n != 0)) l
  | _ => False
theorem kAnyN_ok {X : Cx} : KCall X (rAnyN X.K) kAnyN := by
  intro F Fr l H Q ds vs Q' R rd hq q
  cases rd with
  | nil => exact q.elim
  | @cons d v ds' vs' r1 rr =>
    cases rr with
    | cons _ _ => cases d <;> exact q.elim
    | nil =>
      cases r1 with
      | @tup p xs ds h1 r1 =>
        obtain ⟨ns, rfl, q⟩ := q
        rw [rel_ints r1] at h1
        exact ⟨p, ns, rfl, tq (R.fz _ _ h1), hq _ _ (LK.mk (.bl _) R q)⟩
      | _ => exact q.elim
def dRevL (te : DTE) : DTE := fun env l Q => te env l fun x l1 => match x with
  | .lst ds => Q (.lst ds.reverse) l1
  | .ref a => ∃ ds, l1 a = some (.lst ds) ∧ Q (.lst ds.reverse) l1
  | _ => False
theorem de_revL {X : Cx} {e : Expr} {te : DTE} {k : Nat} {p1 p2 p3 pos : Pos} (h : DE X e te) : DE X (.Subscript e (.Slice none none (some (.UnaryOp .USub (.Constant (.int 1) k p1) p2)) p3) pos) (dRevL te) := by
  refine ⟨?_⟩
  intro F Fr env l σ H Q hE hR ht
  refine (pe_revL peW).we ?_
  refine (h F Fr env l σ H _ hE hR ht).mono fun v H1 ⟨F1, d, l1, s1, r1, R1, q1⟩ => ?_
  cases r1 with
  | @lst p vs ds h1 rr => exact ⟨p, vs, rfl, .inl (.inl (R1.fz _ _ h1)), fun p2 n => (LK.lst n R1 rr.reverse q1).weak s1⟩
  | ref a =>
    obtain ⟨ds, e, q1⟩ := q1
    obtain ⟨vs, rr, e2⟩ := (R1.lv _ _ e).2
    exact ⟨a, vs, rfl, .inl (.inl e2), fun p2 n => (LK.lst n R1 rr.reverse q1).weak s1⟩
  | _ => exact q1.elim
end DL

/-! zip of a list or a tuple with a list or a tuple, also a list that may be written -/
namespace ZM
open PySem
/-- the kind of what is gone through: false a list, true a tuple -/
def It (b : Bool) (h : Heap) (it l : Addr) (k : Nat) : Prop := cond b (h.IsTupleIter it l k) (h.IsListIter it l k)
def Sq (b : Bool) (h : Heap) (l : Addr) (xs : Array Value) : Prop := cond b (h.IsTuple l xs) (h.IsList l xs)
theorem It.to {b : Bool} {h h' : Heap} {it l : Addr} {k : Nat} (x : It b h it l k) (e : ∀ o, h.get? it = some o → h'.get? it = some o) : It b h' it l k := by
  cases b with
  | true => exact Heap.IsTupleIter.at x e
  | false => exact Heap.IsListIter.at x e
theorem Sq.to {b : Bool} {h h' : Heap} {l : Addr} {xs : Array Value} (x : Sq b h l xs) (e : ∀ o, h.get? l = some o → h'.get? l = some o) : Sq b h' l xs := by
  cases b with
  | true => exact Heap.IsTuple.at x e
  | false => exact Heap.IsList.at x e
theorem It.but {b : Bool} {h h' : Heap} {it l c : Addr} {k : Nat} (x : It b h it l k) (e : Heap.ExtBut c h h') (n : it ≠ c) : It b h' it l k := x.to fun o q => e _ _ n q
theorem Sq.but {b : Bool} {h h' : Heap} {l c : Addr} {xs : Array Value} (x : Sq b h l xs) (e : Heap.ExtBut c h h') (n : l ≠ c) : Sq b h' l xs := x.to fun o q => e _ _ n q
theorem It.ob {b : Bool} {h : Heap} {it l : Addr} {k : Nat} (x : It b h it l k) : ∃ o, h.get? it = some o ∧ ∀ v, o.data ≠ .cell v := by
  cases b with
  | true => obtain ⟨o, e, _, d⟩ := x; exact ⟨o, e, fun v q => by rw [d] at q; cases q⟩
  | false => obtain ⟨o, e, _, d⟩ := x; exact ⟨o, e, fun v q => by rw [d] at q; cases q⟩
theorem Sq.lt {b : Bool} {h : Heap} {l : Addr} {xs : Array Value} (x : Sq b h l xs) : l < h.objs.size := by
  cases b with
  | true => obtain ⟨o, e, _⟩ := x; exact Heap.lt_size e
  | false => obtain ⟨o, e, _⟩ := x; exact Heap.lt_size e
section
variable {prog : Program} {w : World} {A : Around} {E : Value → Shared → Prop} {s : Shared}
theorem next_one {b : Bool} {it l : Addr} {i : Nat} {items : Array Value} {x : Value} {Q : Value → Shared → Prop} (hit : It b s.heap it l i) (hl : Sq b s.heap l items) (hx : items[i]? = some x)
    (hQ : ∀ g, It b g it l (i + 1) → Heap.SameBut it s.heap g → Q x { s with heap := g }) : wpAny (model prog w) A (Builtin.SmallTypes.nextOf (.ref it)) Q E s := by
  cases b with
  | true => exact RZ.nextOf_tuple_item hit hl hx hQ
  | false => exact wpAny_nextOf_list_item hit hl hx hQ
theorem next_none {b : Bool} {it l : Addr} {i : Nat} {items : Array Value} {Q : Value → Shared → Prop} (un : A.handled = none) (hit : It b s.heap it l i) (hl : Sq b s.heap l items) (hx : items[i]? = none)
    (hE : ∀ g e, Heap.ExtBut it s.heap g → (∃ o, g.get? e = some o ∧ o.cls = .type "StopIteration") → E (.ref e) { s with heap := g }) : wpAny (model prog w) A (Builtin.SmallTypes.nextOf (.ref it)) Q E s := by
  cases b with
  | true => exact RZ.nextOf_tuple_end un hit hl hx hE
  | false => exact wpAny_nextOf_list_end un hit hl hx hE
variable {b1 b2 : Bool} {z TI TO i1 i2 l1 l2 : Addr} {k1 k2 : Nat} {xs ys : Array Value} {a b : Value}
/-- what stands of all but the zip object, its pair and its iterators -/
def Rest (z TO i1 i2 : Addr) (h g : Heap) : Prop := ∀ c o, c ≠ z → c ≠ TO → c ≠ i1 → c ≠ i2 → h.get? c = some o → g.get? c = some o
theorem zip_turn {x y : Value} {Q : Value → Shared → Prop} (D : ZipApart z TI TO i1 i2 l1 l2) (hz : IsZip s.heap z TI TO .none) (pI : IsPair s.heap TI (.ref i1) (.ref i2)) (pO : IsPair s.heap TO a b)
    (t1 : It b1 s.heap i1 l1 k1) (t2 : It b2 s.heap i2 l2 k2) (q1 : Sq b1 s.heap l1 xs) (q2 : Sq b2 s.heap l2 ys) (hx : xs[k1]? = some x) (hy : ys[k2]? = some y)
    (fin : ∀ g, IsZip g z TI TO (rawInt s.heap.objs.size) → IsPair g TO x y → It b1 g i1 l1 (k1 + 1) → It b2 g i2 l2 (k2 + 1) → IsPair g s.heap.objs.size x y → g.objs.size = s.heap.objs.size + 1 → Rest z TO i1 i2 s.heap g → Q (.ref s.heap.objs.size) { s with heap := g }) :
    wpAny (model prog w) A (Builtin.«zip.__next__» ⟨[.ref z], []⟩) (fun e s' => ∃ v, e = .done (.ret v) ∧ Q v s') E s := by
  show wpAny _ _ (field (.ref z) 2 >>= _) _ _ _; refine wpAny_bind (wpAny_field hz rfl (x := .bool false) rfl ?_)
  show wpAny _ _ (field (.ref z) 3 >>= _) _ _ _; refine wpAny_bind (wpAny_field hz rfl (x := .ref TI) rfl (wpAny_bind (wpAny_seqItems pI rfl ?_)))
  show wpAny _ _ (Builtin.SmallTypes.ownedTupleIsFree (.ref z) >>= _) _ _ _; refine wpAny_bind ?_
  unfold Builtin.SmallTypes.ownedTupleIsFree; refine wpAny_bind (wpAny_field hz rfl (x := .none) rfl (wpAny_pure ?_))
  simp only [if_true]; refine wpAny_bind (wpAny_rule (wpAny_bind (wpAny_field hz rfl (x := .ref TO) rfl ?_)))
  refine wpAny_bind (wpAny_setField_rec hz (by simp) fun g1 z1 m1 => ?_)
  have z1 : IsZip g1 z TI TO .ellipsis := z1
  refine wpAny_bind ?_; simp only [List.zipIdx_cons, List.zipIdx_nil, List.forIn_cons, List.forIn_nil]
  refine wpAny_bind (wpAny_bind (wpAny_onRaise ?_)); show wpAny _ _ (Builtin.SmallTypes.nextOf (.ref i1) >>= _) _ _ _
  refine wpAny_bind (next_one (t1.but m1.extBut D.i1z) (q1.but m1.extBut D.l1z) hx fun g2 u1 m2 => wpAny_pure ?_)
  have p2 : IsPair g2 TO a b := m2.extBut _ _ D.TOi1 (m1.extBut _ _ D.TOz pO)
  refine wpAny_bind (wpAny_seqItems p2 rfl (wpAny_bind (wpAny_updateSeq_pair p2 fun g3 p3 m3 => ?_)))
  have p3 : IsPair g3 TO x b := p3
  refine wpAny_bind (wpAny_letGo (wpAny_pure (wpAny_bind (wpAny_bind (wpAny_onRaise ?_)))))
  show wpAny _ _ (Builtin.SmallTypes.nextOf (.ref i2) >>= _) _ _ _
  refine wpAny_bind (next_one (((t2.but m1.extBut D.i2z).but m2.extBut D.i12.symm).but m3.extBut D.TOi2.symm) (((q2.but m1.extBut D.l2z).but m2.extBut D.l2i1).but m3.extBut D.l2TO) hy fun g4 u2 m4 => wpAny_pure ?_)
  have p4 : IsPair g4 TO x b := m4.extBut _ _ D.TOi2 p3
  refine wpAny_bind (wpAny_seqItems p4 rfl (wpAny_bind (wpAny_updateSeq_pair p4 fun g5 p5 m5 => ?_)))
  have p5 : IsPair g5 TO x y := p5
  refine wpAny_bind (wpAny_letGo (wpAny_pure (wpAny_pure (wpAny_bind (wpAny_seqItems p5 rfl (wpAny_bind (wpAny_newTuple ?_)))))))
  have sz : g5.objs.size = s.heap.objs.size := by rw [m5.1, m4.1, m3.1, m2.1, m1.1]
  have z5 : IsZip g5 z TI TO .ellipsis := m5.extBut _ _ D.TOz.symm (m4.extBut _ _ D.i2z.symm (m3.extBut _ _ D.TOz.symm (m2.extBut _ _ D.i1z.symm z1)))
  have r5 : Rest z TO i1 i2 s.heap g5 := fun c o c1 c2 c3 c4 e => m5.extBut _ _ c2 (m4.extBut _ _ c4 (m3.extBut _ _ c2 (m2.extBut _ _ c3 (m1.extBut _ _ c1 e))))
  have u1 : It b1 g5 i1 l1 (k1 + 1) := ((u1.but m3.extBut D.TOi1.symm).but m4.extBut D.i12).but m5.extBut D.TOi1.symm
  have u2 : It b2 g5 i2 l2 (k2 + 1) := u2.but m5.extBut D.TOi2.symm
  have zl : z < g5.objs.size := Heap.lt_size z5
  show wpAny _ _ (Builtin.SmallTypes.ownedTupleHandOut (.ref z) (.ref g5.objs.size) >>= _) _ _ _; refine wpAny_bind ?_
  unfold Builtin.SmallTypes.ownedTupleHandOut
  have z6 : IsZip (g5.push { cls := .type "tuple", data := .seq #[x, y] }) z TI TO .ellipsis := Heap.get?_push_of_some _ z5
  refine wpAny_bind (wpAny_setField_rec z6 (by simp) fun g7 z7 m7 => ?_)
  have z7 : IsZip g7 z TI TO (rawInt g5.objs.size) := z7
  refine wpAny_setField_rec z7 (by simp) fun g8 z8 m8 => ?_
  have z8 : IsZip g8 z TI TO (rawInt g5.objs.size) := z8
  have up : ∀ c o, c ≠ z → g5.get? c = some o → g8.get? c = some o := fun c o c1 e => m8.extBut _ _ c1 (m7.extBut _ _ c1 (Heap.get?_push_of_some _ e))
  have nw : IsPair g8 g5.objs.size x y := m8.extBut _ _ (Nat.ne_of_gt zl) (m7.extBut _ _ (Nat.ne_of_gt zl) (Heap.get?_push_size _ rfl))
  have s8 : g8.objs.size = g5.objs.size + 1 := by rw [m8.1, m7.1, Heap.size_push]
  rw [sz] at z8 nw s8
  refine wpAny_pure ⟨_, rfl, ?_⟩
  show Q (.ref g5.objs.size) _
  rw [sz]
  exact fin g8 z8 (up _ _ D.TOz p5) (u1.to fun o e => up _ o D.i1z e) (u2.to fun o e => up _ o D.i2z e) nw s8 fun c o c1 c2 c3 c4 e => up c o c1 (r5 c o c1 c2 c3 c4 e)
theorem zip_stop {Q : Fin → Shared → Prop} (un : A.handled = none) (D : ZipApart z TI TO i1 i2 l1 l2) (hz : IsZip s.heap z TI TO .none) (pI : IsPair s.heap TI (.ref i1) (.ref i2)) (pO : IsPair s.heap TO a b)
    (t1 : It b1 s.heap i1 l1 k1) (t2 : It b2 s.heap i2 l2 k2) (q1 : Sq b1 s.heap l1 xs) (q2 : Sq b2 s.heap l2 ys) (hend : xs[k1]? = none ∨ ys[k2]? = none)
    (hE : ∀ g e, Rest z TO i1 i2 s.heap g → (∃ o, g.get? e = some o ∧ o.cls = .type "StopIteration") → E (.ref e) { s with heap := g }) :
    wpAny (model prog w) A (Builtin.«zip.__next__» ⟨[.ref z], []⟩) Q E s := by
  show wpAny _ _ (field (.ref z) 2 >>= _) _ _ _; refine wpAny_bind (wpAny_field hz rfl (x := .bool false) rfl ?_)
  show wpAny _ _ (field (.ref z) 3 >>= _) _ _ _; refine wpAny_bind (wpAny_field hz rfl (x := .ref TI) rfl (wpAny_bind (wpAny_seqItems pI rfl ?_)))
  show wpAny _ _ (Builtin.SmallTypes.ownedTupleIsFree (.ref z) >>= _) _ _ _; refine wpAny_bind ?_
  unfold Builtin.SmallTypes.ownedTupleIsFree; refine wpAny_bind (wpAny_field hz rfl (x := .none) rfl (wpAny_pure ?_))
  simp only [if_true]; refine wpAny_bind (wpAny_rule (wpAny_bind (wpAny_field hz rfl (x := .ref TO) rfl ?_)))
  refine wpAny_bind (wpAny_setField_rec hz (by simp) fun g1 z1 m1 => ?_)
  have z1 : IsZip g1 z TI TO .ellipsis := z1
  refine wpAny_bind ?_; simp only [List.zipIdx_cons, List.zipIdx_nil, List.forIn_cons, List.forIn_nil]
  refine wpAny_bind (wpAny_bind (wpAny_onRaise ?_)); show wpAny _ _ (Builtin.SmallTypes.nextOf (.ref i1) >>= _) _ _ _
  cases hx : xs[k1]? with
  | none =>
    refine wpAny_bind (next_none un (t1.but m1.extBut D.i1z) (q1.but m1.extBut D.l1z) hx fun g2 e m2 he => ?_)
    obtain ⟨oe, ho, hc⟩ := he
    have z2 : IsZip g2 z TI TO .ellipsis := m2 _ _ D.i1z.symm z1
    have ez : e ≠ z := fun q => by subst q; rw [z2] at ho; cases ho; simp at hc
    refine wpAny_setField_rec z2 (by simp) fun g3 _ m3 => hE g3 e (fun c o c1 _ c3 _ q => m3.extBut _ _ c1 (m2 _ _ c3 (m1.extBut _ _ c1 q))) ⟨oe, m3.extBut _ _ ez ho, hc⟩
  | some x =>
    have hy : ys[k2]? = none := by rcases hend with h | h; rw [hx] at h; cases h; exact h
    refine wpAny_bind (next_one (t1.but m1.extBut D.i1z) (q1.but m1.extBut D.l1z) hx fun g2 u1 m2 => wpAny_pure ?_)
    have p2 : IsPair g2 TO a b := m2.extBut _ _ D.TOi1 (m1.extBut _ _ D.TOz pO)
    refine wpAny_bind (wpAny_seqItems p2 rfl (wpAny_bind (wpAny_updateSeq_pair p2 fun g3 p3 m3 => ?_)))
    refine wpAny_bind (wpAny_letGo (wpAny_pure (wpAny_bind (wpAny_bind (wpAny_onRaise ?_)))))
    show wpAny _ _ (Builtin.SmallTypes.nextOf (.ref i2) >>= _) _ _ _
    refine wpAny_bind (next_none un (((t2.but m1.extBut D.i2z).but m2.extBut D.i12.symm).but m3.extBut D.TOi2.symm) (((q2.but m1.extBut D.l2z).but m2.extBut D.l2i1).but m3.extBut D.l2TO) hy fun g4 e m4 he => ?_)
    obtain ⟨oe, ho, hc⟩ := he
    have z4 : IsZip g4 z TI TO .ellipsis := m4 _ _ D.i2z.symm (m3.extBut _ _ D.TOz.symm (m2.extBut _ _ D.i1z.symm z1))
    have ez : e ≠ z := fun q => by subst q; rw [z4] at ho; cases ho; simp at hc
    refine wpAny_setField_rec z4 (by simp) fun g5 _ m5 => hE g5 e (fun c o c1 c2 c3 c4 q => m5.extBut _ _ c1 (m4 _ _ c4 (m3.extBut _ _ c2 (m2.extBut _ _ c3 (m1.extBut _ _ c1 q))))) ⟨oe, m5.extBut _ _ ez ho, hc⟩
theorem py_turn {x y : Value} {Q : Option Value → Shared → Prop} (D : ZipApart z TI TO i1 i2 l1 l2) (hz : IsZip s.heap z TI TO .none) (pI : IsPair s.heap TI (.ref i1) (.ref i2)) (pO : IsPair s.heap TO a b)
    (t1 : It b1 s.heap i1 l1 k1) (t2 : It b2 s.heap i2 l2 k2) (q1 : Sq b1 s.heap l1 xs) (q2 : Sq b2 s.heap l2 ys) (hx : xs[k1]? = some x) (hy : ys[k2]? = some y)
    (fin : ∀ g, IsZip g z TI TO (rawInt s.heap.objs.size) → IsPair g TO x y → It b1 g i1 l1 (k1 + 1) → It b2 g i2 l2 (k2 + 1) → IsPair g s.heap.objs.size x y → g.objs.size = s.heap.objs.size + 1 → Rest z TO i1 i2 s.heap g → Q (some (.ref s.heap.objs.size)) { s with heap := g }) :
    wpAny (model prog w) A (pyNext (.ref z)) Q E s := by
  have hT : s.TypeIs (.ref z) "zip" := ⟨_, hz, rfl⟩
  unfold pyNext
  exact wpAny_bind (wpAny_attempt (wpAny_callSpecial?_slot (name := Str.ofString "__next__") hT PySem.F.slot_zip_next
    (wpAny_call_entry PySem.F.slot_zip_next hT PySem.F.entry_zip_next (zip_turn D hz pI pO t1 t2 q1 q2 hx hy fun g a1 a2 a3 a4 a5 a6 a7 => wpAny_pure (fin g a1 a2 a3 a4 a5 a6 a7)) (PySem.F.args_zip_next_1 _))))
theorem py_stop {Q : Option Value → Shared → Prop} (un : A.handled = none) (D : ZipApart z TI TO i1 i2 l1 l2) (hz : IsZip s.heap z TI TO .none) (pI : IsPair s.heap TI (.ref i1) (.ref i2)) (pO : IsPair s.heap TO a b)
    (t1 : It b1 s.heap i1 l1 k1) (t2 : It b2 s.heap i2 l2 k2) (q1 : Sq b1 s.heap l1 xs) (q2 : Sq b2 s.heap l2 ys) (hend : xs[k1]? = none ∨ ys[k2]? = none)
    (fin : ∀ g, Rest z TO i1 i2 s.heap g → Q none { s with heap := g }) : wpAny (model prog w) A (pyNext (.ref z)) Q E s := by
  have hT : s.TypeIs (.ref z) "zip" := ⟨_, hz, rfl⟩
  unfold pyNext
  refine wpAny_bind (wpAny_attempt (wpAny_callSpecial?_slot (name := Str.ofString "__next__") hT PySem.F.slot_zip_next
    (wpAny_call_entry PySem.F.slot_zip_next hT PySem.F.entry_zip_next (zip_stop un D hz pI pO t1 t2 q1 q2 hend fun g e hk he => ?_) (PySem.F.args_zip_next_1 _))))
  obtain ⟨o, ho, hc⟩ := he
  exact wpAny_bind (wpAny_isInstance (T := "StopIteration") (b := true) ⟨o, ho, hc⟩ isSubtype_stop (wpAny_pure (fin _ hk)))
end
/-! the making -/
def itO (b : Bool) (l : Addr) : Obj := cond b { cls := .type "tuple_iterator", data := .fields #[.ref l, .int 0 0] } { cls := .type "list_iterator", data := .fields #[.ref l, .int 0 0] }
def mk1 (b : Bool) (h : Heap) (l1 : Addr) : Heap := h.push (itO b l1)
def mk2 (b1 b2 : Bool) (h : Heap) (l1 l2 : Addr) : Heap := (mk1 b1 h l1).push (itO b2 l2)
def mk3 (b1 b2 : Bool) (h : Heap) (l1 l2 : Addr) : Heap := (mk2 b1 b2 h l1 l2).push { cls := .type "tuple", data := .seq #[.ref h.objs.size, .ref (mk1 b1 h l1).objs.size] }
def mk4 (b1 b2 : Bool) (h : Heap) (l1 l2 : Addr) : Heap := (mk3 b1 b2 h l1 l2).push { cls := .type "tuple", data := .seq #[.none, .none] }
def mk5 (b1 b2 : Bool) (h : Heap) (l1 l2 : Addr) : Heap := (mk4 b1 b2 h l1 l2).push { cls := .type "zip", data := .fields #[.none, .bool false, .bool false, .ref (mk2 b1 b2 h l1 l2).objs.size, .ref (mk3 b1 b2 h l1 l2).objs.size] }
theorem meets_new (b1 b2 : Bool) (l1 l2 : Addr) (xs ys : Array Value) :
    Meets (Builtin.«zip.__new__» ⟨[.type "zip", .ref l1, .ref l2], []⟩) (fun _ R s => Sq b1 s.heap l1 xs ∧ Sq b2 s.heap l2 ys ∧ R (.ok (.ret (.ref (mk4 b1 b2 s.heap l1 l2).objs.size))) { s with heap := mk5 b1 b2 s.heap l1 l2 }) :=
  .of_wp fun prog w A R s h => by
    obtain ⟨hp, g, d, tk, os⟩ := s
    obtain ⟨q1, q2, h⟩ := h
    have hs := sub_zip
    have q3 : Sq b2 (hp.push (itO b1 l1)) l2 ys := q2.to fun o e => Heap.get?_push_of_some _ e
    cases b1 <;> cases b2
    · have L1 : Heap.IsList (Shared.heap ⟨hp, g, d, tk, os⟩) l1 xs := q1
      have L2 : Heap.IsList (Shared.heap ⟨hp.push { cls := .type "list_iterator", data := .fields #[.ref l1, .int 0 0] }, g, d, tk, os⟩) l2 ys := q3
      wp_walk using wpAny_pyIter_list L1, wpAny_pyIter_list L2
      exact ⟨_, rfl, h⟩
    · have L1 : Heap.IsList (Shared.heap ⟨hp, g, d, tk, os⟩) l1 xs := q1
      have L2 : Heap.IsTuple (Shared.heap ⟨hp.push { cls := .type "list_iterator", data := .fields #[.ref l1, .int 0 0] }, g, d, tk, os⟩) l2 ys := q3
      wp_walk using wpAny_pyIter_list L1, wpAny_pyIter_tuple L2
      exact ⟨_, rfl, h⟩
    · have L1 : Heap.IsTuple (Shared.heap ⟨hp, g, d, tk, os⟩) l1 xs := q1
      have L2 : Heap.IsList (Shared.heap ⟨hp.push { cls := .type "tuple_iterator", data := .fields #[.ref l1, .int 0 0] }, g, d, tk, os⟩) l2 ys := q3
      wp_walk using wpAny_pyIter_tuple L1, wpAny_pyIter_list L2
      exact ⟨_, rfl, h⟩
    · have L1 : Heap.IsTuple (Shared.heap ⟨hp, g, d, tk, os⟩) l1 xs := q1
      have L2 : Heap.IsTuple (Shared.heap ⟨hp.push { cls := .type "tuple_iterator", data := .fields #[.ref l1, .int 0 0] }, g, d, tk, os⟩) l2 ys := q3
      wp_walk using wpAny_pyIter_tuple L1, wpAny_pyIter_tuple L2
      exact ⟨_, rfl, h⟩
theorem it_new {b : Bool} {g : Heap} {it l : Addr} (h : g.get? it = some (itO b l)) : It b g it l 0 := by
  cases b with
  | true => exact ⟨_, h, rfl, rfl⟩
  | false => exact ⟨_, h, rfl, rfl⟩
theorem itO_live (b : Bool) (l : Addr) : (itO b l).isFreed = false := by cases b <;> rfl
section
variable {prog : Program} {w : World} {A : Around} {E : Value → Shared → Prop} {s : Shared}
theorem call_zipM {b1 b2 : Bool} {l1 l2 : Addr} {xs ys : Array Value} {Q : Value → Shared → Prop} (q1 : Sq b1 s.heap l1 xs) (q2 : Sq b2 s.heap l2 ys)
    (fin : ∀ g, IsZip g (s.heap.objs.size + 4) (s.heap.objs.size + 2) (s.heap.objs.size + 3) .none → IsPair g (s.heap.objs.size + 2) (.ref s.heap.objs.size) (.ref (s.heap.objs.size + 1)) → IsPair g (s.heap.objs.size + 3) .none .none →
      It b1 g s.heap.objs.size l1 0 → It b2 g (s.heap.objs.size + 1) l2 0 → (∀ c o, s.heap.get? c = some o → g.get? c = some o) → Q (.ref (s.heap.objs.size + 4)) { s with heap := g }) :
    wpAny (model prog w) A (call (.type "zip") [.ref l1, .ref l2]) Q E s := by
  refine callType_new PySem.F.called_zip (by decide) (PySem.F.typeCall_zip_2 _ _) (PySem.F.newCall_zip_2 _ _) (fun obj => PySem.F.args_object_init_3 obj _ _) PySem.F.entry_zip_new (meets_new b1 b2 l1 l2 xs ys) ⟨q1, q2, ?_⟩
  have n1 : (mk1 b1 s.heap l1).objs.size = s.heap.objs.size + 1 := Heap.size_push ..
  have n2 : (mk2 b1 b2 s.heap l1 l2).objs.size = s.heap.objs.size + 2 := (Heap.size_push ..).trans (by rw [n1])
  have n3 : (mk3 b1 b2 s.heap l1 l2).objs.size = s.heap.objs.size + 3 := (Heap.size_push ..).trans (by rw [n2])
  have n4 : (mk4 b1 b2 s.heap l1 l2).objs.size = s.heap.objs.size + 4 := (Heap.size_push ..).trans (by rw [n3])
  have d5 : (mk5 b1 b2 s.heap l1 l2).get? (mk4 b1 b2 s.heap l1 l2).objs.size = some { cls := .type "zip", data := .fields #[.none, .bool false, .bool false, .ref (mk2 b1 b2 s.heap l1 l2).objs.size, .ref (mk3 b1 b2 s.heap l1 l2).objs.size] } := Heap.get?_push_size _ rfl
  have d4 : (mk5 b1 b2 s.heap l1 l2).get? (mk3 b1 b2 s.heap l1 l2).objs.size = some { cls := .type "tuple", data := .seq #[.none, .none] } := Heap.get?_push_of_some _ (Heap.get?_push_size _ rfl)
  have d3 : (mk5 b1 b2 s.heap l1 l2).get? (mk2 b1 b2 s.heap l1 l2).objs.size = some { cls := .type "tuple", data := .seq #[.ref s.heap.objs.size, .ref (mk1 b1 s.heap l1).objs.size] } := Heap.get?_push_of_some _ (Heap.get?_push_of_some _ (Heap.get?_push_size _ rfl))
  have d2 : (mk5 b1 b2 s.heap l1 l2).get? (mk1 b1 s.heap l1).objs.size = some (itO b2 l2) := Heap.get?_push_of_some _ (Heap.get?_push_of_some _ (Heap.get?_push_of_some _ (Heap.get?_push_size _ (itO_live b2 l2))))
  have d1 : (mk5 b1 b2 s.heap l1 l2).get? s.heap.objs.size = some (itO b1 l1) := Heap.get?_push_of_some _ (Heap.get?_push_of_some _ (Heap.get?_push_of_some _ (Heap.get?_push_of_some _ (Heap.get?_push_size _ (itO_live b1 l1)))))
  show _ ∧ _
  rw [n2, n3, n4] at d5
  rw [n1, n2] at d3
  rw [n3] at d4
  rw [n1] at d2
  rw [n4]
  exact ⟨⟨_, d5, rfl⟩, fin _ d5 d3 d4 (it_new d1) (it_new d2) fun c o x => Heap.get?_push_of_some _ (Heap.get?_push_of_some _ (Heap.get?_push_of_some _ (Heap.get?_push_of_some _ (Heap.get?_push_of_some _ x))))⟩
end
end ZM

/-! zip of mixed kinds, in a loop -/
namespace ZM
open PySem PySem.Spec PyProof.Rows L2
def SqX (b : Bool) (K : PySem.W.Frag) (H : Hp) (a : Addr) (xs : List V) : Prop := cond b (SqT K H a xs) (SqL K H a xs)
section
variable {X : Cx} {pins : List (Addr × Obj)} {σ : L2.St} {H : Hp} {s : Shared} {a : Addr} {xs ys : List V}
theorem sq_get {b : Bool} (I : Inv X pins σ H s) (h : SqX b X.K H a xs) : ∃ its, Vals xs its ∧ Sq b s.heap a its.toArray := by
  cases b with
  | true => obtain ⟨its, rv, p, _⟩ := I.tuple h; exact ⟨its, rv, p⟩
  | false => obtain ⟨its, rv, p, _⟩ := I.list h; exact ⟨its, rv, p.isList⟩
theorem sq_one {b : Bool} (I : Inv X pins σ H s) (h : SqX b X.K H a xs) (h' : SqX b X.K H a ys) : xs = ys := by
  cases b with
  | true => exact I.tuple_inj h h'
  | false => exact I.list_inj h h'
end
def ItzM (K : PySem.W.Frag) (b1 b2 : Bool) (a c : Addr) : L2.It :=
  ⟨fun i H => ∃ (xs ys : List V) (x y : V), SqX b1 K H a xs ∧ SqX b2 K H c ys ∧ xs[i]? = some x ∧ ys[i]? = some y,
    fun i H v H' => ∃ T x y, v = .ref T ∧ H T = none ∧ H' = upd H T (.tup [x, y]) ∧ (∀ xs, SqX b1 K H a xs → xs[i]? = some x) ∧ ∀ ys, SqX b2 K H c ys → ys[i]? = some y,
    fun i H => ∃ xs ys : List V, SqX b1 K H a xs ∧ SqX b2 K H c ys ∧ (xs.length ≤ i ∨ ys.length ≤ i)⟩
theorem five {α : Type} {c a1 a2 a3 a4 a5 : α} (h : c ∈ [a1, a2, a3, a4, a5]) : c = a1 ∨ c = a2 ∨ c = a3 ∨ c = a4 ∨ c = a5 := by simpa using h
theorem turn_zipM {P : Program} {w : World} {K : PySem.W.Frag} {elts : List Expr} {kk : Nat} {tpos : Pos} {b1 b2 : Bool} {a b z TI TO i1 i2 : Addr} (D : ZipApart z TI TO i1 i2 a b) :
    Turn P w K (.Tuple elts kk tpos) (ItzM K b1 b2 a b) [z, TI, TO, i1, i2] z (fun i h => IsZip h z TI TO .none ∧ IsPair h TI (.ref i1) (.ref i2) ∧ (∃ x y, IsPair h TO x y) ∧ It b1 h i1 a i ∧ It b2 h i2 b i) where
  mem := by simp
  obj := fun i h st c hc => by
    obtain ⟨hz, pI, ⟨x, y, pO⟩, t1, t2⟩ := st
    rcases five hc with rfl | rfl | rfl | rfl | rfl
    · exact ⟨_, hz, fun v q => nomatch q⟩
    · exact ⟨_, pI, fun v q => nomatch q⟩
    · exact ⟨_, pO, fun v q => nomatch q⟩
    · exact t1.ob
    · exact t2.ob
  keep := fun i h h' st k => by
    obtain ⟨hz, pI, ⟨x, y, pO⟩, t1, t2⟩ := st
    exact ⟨k z (by simp) _ hz, k TI (by simp) _ pI, ⟨x, y, k TO (by simp) _ pO⟩, t1.to fun o q => k i1 (by simp) o q, t2.to fun o q => k i2 (by simp) o q⟩
  item := by
    intro X hP hw hK hc i pins s σ H E I hf st hg
    subst hP hw hK
    obtain ⟨hz, pI, ⟨x0, y0, pO⟩, t1, t2⟩ := st
    obtain ⟨xs, ys, x, y, g1, g2, hx, hy⟩ := hg
    obtain ⟨its, rv, p⟩ := sq_get I g1
    obtain ⟨its2, rv2, p2⟩ := sq_get I g2
    obtain ⟨u, hu, ru⟩ := rv.get hx
    obtain ⟨u2, hu2, ru2⟩ := rv2.get hy
    have zl : z < s.heap.objs.size := Heap.lt_size hz
    refine py_turn D hz pI pO t1 t2 p p2 (x := u) (y := u2) (by simpa using hu) (by simpa using hu2) fun g z' pO' t1' t2' nw sz rest => ?_
    refine ⟨_, rfl, wpAny_letOwnedTupleGo_zip (s := { s with heap := g }) z' fun gh z2 sb => ?_⟩
    have nw2 : gh.get? s.heap.objs.size = some { cls := .type "tuple", data := .seq #[u, u2] } := (sb.2 _ (Nat.ne_of_gt zl)).trans nw
    have ok : ObjOk X.prog X.w (upd H s.heap.objs.size (.tup [x, y])) gh s.heap.objs.size (.tup [x, y]) := ⟨by show 2 ≤ sizeLine; decide, [u, u2], .cons ru (.cons ru2 .nil), ⟨_, nw2, rfl, _, rfl⟩⟩
    have I1 : Inv X pins σ (upd H s.heap.objs.size (.tup [x, y])) { s with heap := gh } := I.turnedNew (t' := s.toks) (ch := [z, TI, TO, i1, i2]) (fun c o hb q => by
      simp only [List.mem_cons, List.not_mem_nil, or_false, not_or] at hb
      exact (sb.2 c hb.1).trans (rest c o hb.1 hb.2.2.1 hb.2.2.2.1 hb.2.2.2.2 q)) hf (Nat.le_refl _) ok
    refine ⟨.ref s.heap.objs.size, _, I1, rfl, ⟨_, x, y, rfl, I.hok.fresh (Nat.le_refl _), rfl, fun l hl => by rw [sq_one I hl g1]; exact hx, fun l hl => by rw [sq_one I hl g2]; exact hy⟩, ⟨z2, ?_, ⟨u, u2, ?_⟩, ?_, ?_⟩, fun c hcm => ?_⟩
    · exact (sb.2 _ D.TIz).trans (rest _ _ D.TIz D.TITO D.TIi1 D.TIi2 pI)
    · exact (sb.2 _ D.TOz).trans pO'
    · exact t1'.to fun o q => (sb.2 _ D.i1z).trans q
    · exact t2'.to fun o q => (sb.2 _ D.i2z).trans q
    · have lt : c < s.heap.objs.size := by
        rcases five hcm with rfl | rfl | rfl | rfl | rfl
        · exact zl
        · exact Heap.lt_size pI
        · exact Heap.lt_size pO
        · obtain ⟨_, e, _⟩ := t1.ob; exact Heap.lt_size e
        · obtain ⟨_, e, _⟩ := t2.ob; exact Heap.lt_size e
      rw [upd_ne (Nat.ne_of_lt lt)]
      exact (hf c hcm).1
  done := by
    intro X hP hw hK hc i pins s σ H E I hf st hg
    subst hP hw hK
    obtain ⟨hz, pI, ⟨x0, y0, pO⟩, t1, t2⟩ := st
    obtain ⟨xs, ys, g1, g2, hend⟩ := hg
    obtain ⟨its, rv, p⟩ := sq_get I g1
    obtain ⟨its2, rv2, p2⟩ := sq_get I g2
    have l1 := rv.length
    have l2 := rv2.length
    have he : its.toArray[i]? = none ∨ its2.toArray[i]? = none := hend.imp (fun q => by simp; omega) fun q => by simp; omega
    exact py_stop (I.ok.hd hc) D hz pI pO t1 t2 p p2 he fun g rest => ⟨rfl, I.turnedL (t' := s.toks) (ch := [z, TI, TO, i1, i2]) (fun c o hb q => by
      simp only [List.mem_cons, List.not_mem_nil, or_false, not_or] at hb
      exact rest c o hb.1 hb.2.2.1 hb.2.2.2.1 hb.2.2.2.2 q) hf⟩
  self := fun A i s Q E st h => wpAny_pyIter_zip st.1 h
def iZipM (K : PySem.W.Frag) (ta : TA) : TI := fun σ H R => ta σ H fun vs H1 => ∃ a b b1 b2 xs ys, vs = [.ref a, .ref b] ∧ SqX b1 K H1 a xs ∧ SqX b2 K H1 b ys ∧ R (ItzM K b1 b2 a b) H1
theorem pi_zipM {X : Cx} {e e2 : Expr} {ta : TA} {p pos tpos : Pos} {elts : List Expr} {kk : Nat} (hg : Gl X "zip") (hm : X.mg "zip" = none) (ha : PA X [e, e2] ta)
    (hs : starEach [e, e2] X.env = (false, eval e X.env) :: starEach [e2] X.env := by rfl) (hpl : (backTo pos (starEach [e2] X.env)).any (·.1) = false := by rfl) :
    PI X (.Tuple elts kk tpos) (.Call (.Name "zip" p) [e, e2] [] pos) (iZipM X.K ta) := by
  refine ⟨fun pins s σ H R I h => ?_⟩
  refine Call_ (ld_blt I hg hm PyProof.Rows.boot_zip (PyProof.Rows.callWith_type1 (thn (ha.run pos pins s σ H _ I h) fun us s1 ⟨vs, H1, I1, r1, q1⟩ => ?_) hs hpl))
  obtain ⟨a, b, b1, b2, xs, ys, ex, g1, g2, q⟩ := q1
  subst ex
  cases r1 with
  | cons r rr =>
    cases rr with
    | cons r' rr =>
      cases rr
      cases r
      cases r'
      have new5 : ∀ c, c ∈ [s1.heap.objs.size + 4, s1.heap.objs.size + 2, s1.heap.objs.size + 3, s1.heap.objs.size, s1.heap.objs.size + 1] → FpOk X pins H1 c := fun c hcm => by
        have le : s1.heap.objs.size ≤ c := by
          rcases five hcm with rfl | rfl | rfl | rfl | rfl
          · exact Nat.le_add_right _ _
          · exact Nat.le_add_right _ _
          · exact Nat.le_add_right _ _
          · exact Nat.le_refl _
          · exact Nat.le_add_right _ _
        exact I1.fpOk le (I1.hok.fresh le)
      obtain ⟨its, rv, p1⟩ := sq_get I1 g1
      obtain ⟨its2, rv2, p2⟩ := sq_get I1 g2
      refine call_zipM p1 p2 fun g hz pI pO t1 t2 rest => wpAny_pyIter_zip hz ?_
      exact ⟨s1.heap.objs.size + 4, [s1.heap.objs.size + 4, s1.heap.objs.size + 2, s1.heap.objs.size + 3, s1.heap.objs.size, s1.heap.objs.size + 1], _, _, H1, rfl, I1.kept (t' := s1.toks) rest, turn_zipM (PySem.W.ktu_apart s1.heap.objs.size a b p1.lt p2.lt), ⟨hz, pI, ⟨_, _, pO⟩, t1, t2⟩, new5, q⟩
end ZM
namespace DL
open PySem PySem.Spec PyProof.Rows L2
theorem sqX_mono {b : Bool} {K : PySem.W.Frag} {F F' : Hp} (h : Same F F') {a : Addr} {xs : List V} (q : ZM.SqX b K F a xs) : ZM.SqX b K F' a xs := by
  cases b with
  | true => exact sqT_mono h q
  | false => exact sqL_mono h q
theorem jok_zipM {K : PySem.W.Frag} {F : Hp} {b1 b2 : Bool} {a b : Addr} {vs us : List V} {ds es : List D} (h : ZM.SqX b1 K F a vs) (r : RelDs K F ds vs) (h' : ZM.SqX b2 K F b us) (r' : RelDs K F es us) : JOk K F (ZM.ItzM K b1 b2 a b) (zipD ds es) := by
  intro i F' Fr l H s R
  have q := sqX_mono R.fz (sqX_mono s h)
  have q' := sqX_mono R.fz (sqX_mono s h')
  refine ⟨fun hi => ⟨vs, us, q, q', ?_⟩, fun d hd => ?_⟩
  · have e : (zipD ds es)[i]? = none := List.getElem?_eq_none hi
    rw [zipD_get] at e
    rw [← r.length, ← r'.length]
    cases e1 : ds[i]? with
    | none => exact .inl (List.getElem?_eq_none_iff.mp e1)
    | some _ =>
      cases e2 : es[i]? with
      | none => exact .inr (List.getElem?_eq_none_iff.mp e2)
      | some _ => rw [e1, e2] at e; cases e
  · rw [zipD_get] at hd
    cases e1 : ds[i]? with
    | none => rw [e1] at hd; cases hd
    | some d1 =>
      cases e2 : es[i]? with
      | none => rw [e1, e2] at hd; cases hd
      | some d2 =>
        rw [e1, e2] at hd
        cases hd
        obtain ⟨v, hv, rv⟩ := r.get e1
        obtain ⟨u, hu, ru⟩ := r'.get e2
        refine ⟨⟨vs, us, v, u, q, q', hv, hu⟩, fun x H' ⟨T, x0, y0, ex, nT, eH, y1, y2⟩ => ?_⟩
        subst ex eH
        have f1 := y1 vs q
        have f2 := y2 us q'
        rw [hv] at f1
        rw [hu] at f2
        cases f1
        cases f2
        exact ⟨_, same_upd (R.F_none nT), relTup (R.F_none nT) (.cons (rv.mono s) (.cons (ru.mono s) .nil)), R.laid nT _⟩
def seqOf : D → Option (List D)
  | .lst xs => some xs
  | .tup xs => some xs
  | _ => none
theorem seq_rel {K : PySem.W.Frag} {F : Hp} {d : D} {v : V} {xs : List D} (r : RelD K F d v) (h : seqOf d = some xs) : ∃ a b vs, v = .ref a ∧ ZM.SqX b K F a vs ∧ RelDs K F xs vs := by
  cases r with
  | @tup p vs ds h1 rr => cases h; exact ⟨p, true, vs, rfl, tq h1, rr⟩
  | @lst p vs ds h1 rr => cases h; exact ⟨p, false, vs, rfl, .inl (.inl h1), rr⟩
  | _ => cases h
/-- for over zip(x, y): x, y lists or tuples that stay, or y a list that may be written, as long as it stays -/
def kForZ (g : DTG) (tb : DTS) (E : DEnds) (env : DSt) (l1 : LH) (x y : D) : Prop := match seqOf x with
  | some xs => match seqOf y with
    | some ys => forL g tb (zipD xs ys) E env l1
    | none => match y with
      | .ref a => getO l1 a fun o => match o with | .lst ys => forR a ys g tb (zipD xs ys) E env l1 | _ => False
      | _ => False
  | none => False
def sForRZ (ta : DTA) (g : DTG) (tb : DTS) : DTS := fun E env l => ta env l fun ds l1 => match ds with
  | [x, y] => kForZ g tb E env l1 x y
  | _ => False
section
variable {X : Cx}
def LIz (K : PySem.W.Frag) (F Fr : Hp) (g : DTG) (tb : DTS) (E : DEnds) (env : DSt) : It → Hp → Prop := fun J H => ∃ F1 l1, Same F F1 ∧ Rep K F1 Fr l1 H ∧
  ((∃ ds, JOk K F1 J ds ∧ forL g tb ds E env l1) ∨ ∃ b p vs xs a ys, J = ZM.ItzM K b false p a ∧ ZM.SqX b K F1 p vs ∧ RelDs K F1 xs vs ∧ forR a ys g tb (zipD xs ys) E env l1)
theorem ds_forRZ {e e2 : Expr} {elts : List Expr} {kk : Nat} {tpos : Pos} {body : List Stmt} {ta : DTA} {g : DTG} {tb : DTS} {vs : List Nat} {p pos pos' : Pos} (hp : PassesOwn (model X.prog X.w) X.A X.env X.xe) (hc : X.calm = true) (hgl : Gl X "zip") (hm : X.mg "zip" = none) (hi : DA X [e, e2] ta) (hg : DG X (.Tuple elts kk tpos) vs g) (hb : DSs X body tb)
    (hse : starEach [e, e2] X.env = (false, eval e X.env) :: starEach [e2] X.env := by rfl) (hpl : (backTo pos' (starEach [e2] X.env)).any (·.1) = false := by rfl) (hs : ∀ x, foldedSetIterable (.Call (.Name "zip" p) [e, e2] [] pos') X.env x = pure x := by intro _; rfl) : DS X (.For (.Tuple elts kk tpos) (.Call (.Name "zip" p) [e, e2] [] pos') body [] pos) (sForRZ ta g tb) := by
  refine ⟨?_⟩
  intro F Fr env l σ H E he hr ht
  refine (ps_for hp hc piW pgW pssW hs).ws ?_
  have w : WI X (.Tuple elts kk tpos) (.Call (.Name "zip" p) [e, e2] [] pos') σ H (LIz X.K F Fr g tb E env) := by
    refine (ZM.pi_zipM hgl hm paW hse hpl).wi ?_
    refine (hi F Fr env l σ H _ he hr ht).mono fun us H1 ⟨F1, ds, l1, s1, r1, R1, q1⟩ => ?_
    cases r1 with
    | nil => exact q1.elim
    | @cons d1 v1 _ _ ra rr =>
      cases rr with
      | nil => exact q1.elim
      | @cons d2 v2 _ _ rb rr =>
        cases rr with
        | cons _ _ => exact q1.elim
        | nil =>
          have q1 : kForZ g tb E env l1 d1 d2 := q1
          unfold kForZ at q1
          cases e1 : seqOf d1 with
          | none => rw [e1] at q1; exact q1.elim
          | some xs =>
            rw [e1] at q1
            obtain ⟨a, b1, vs1, rfl, h1, r1⟩ := seq_rel ra e1
            cases e2 : seqOf d2 with
            | some ys =>
              rw [e2] at q1
              obtain ⟨a2, b2, vs2, rfl, h2, r2⟩ := seq_rel rb e2
              exact ⟨a, a2, b1, b2, _, _, rfl, sqX_mono R1.fz h1, sqX_mono R1.fz h2, F1, l1, s1, R1, .inl ⟨_, jok_zipM h1 r1 h2 r2, q1⟩⟩
            | none =>
              rw [e2] at q1
              cases rb with
              | ref a2 =>
                obtain ⟨o, ho, q⟩ := q1
                cases o with
                | lst ys =>
                  obtain ⟨ws, rw', hh⟩ := (R1.lv _ _ ho).2
                  have h2 : ZM.SqX false X.K H1 a2 ws := .inl (.inl hh)
                  exact ⟨a, a2, b1, false, _, _, rfl, sqX_mono R1.fz h1, h2, F1, l1, s1, R1, .inr ⟨b1, a, vs1, xs, a2, ys, rfl, h1, r1, q⟩⟩
                | _ => exact q.elim
              | _ => exact q1.elim
  refine w.mono fun J H1 ⟨F1, l1, s1, R1, q1⟩ => ?_
  have body_ok : ∀ {F2 : Hp} {l2 : LH} {σ2 : St} {H2 : Hp} {env2 : DSt} {d : D} {x : V} {Ek : DEnds} {N : St → Hp → Prop}, Same F1 F2 → RepE X.K F2 env2 σ2 → Rep X.K F2 Fr l2 H2 → RelD X.K F2 d x → Ek.rt = E.rt → Ek.bk = E.nx →
      (g d env2 l2 fun env1 l1 => tb Ek env1 l1) → (∀ σ5 H5 F5 env5 l5, Same F2 F5 → RepE X.K F5 env5 σ5 → Rep X.K F5 Fr l5 H5 → (Ek.nx env5 l5 ∨ Ek.ct env5 l5) → N σ5 H5) →
      WG X (.Tuple elts kk tpos) x σ2 H2 fun σ' H' => WSs X body { LE X.K F Fr E with nx := N, ct := N, bk := (LE X.K F Fr E).nx } σ' H' := by
    intro F2 l2 σ2 H2 env2 d x Ek N s2 he2 R2 rx e1 e2 q2 hN
    refine (hg F2 Fr env2 l2 σ2 H2 _ _ _ he2 R2 rx q2).mono fun σ4 H4 ⟨_, F4, env4, l4, s4, he4, R4, q4⟩ => ?_
    have S : Same F1 F4 := s2.trans s4
    refine (hb F4 Fr env4 l4 σ4 H4 _ he4 R4 q4).mono (fun σ5 H5 q => ?_) (fun _ _ q => ?_) (fun _ _ q => ?_) (fun σ5 H5 q => ?_)
    · obtain ⟨F5, env5, l5, s5, he5, R5, q5⟩ := q
      exact hN _ _ F5 env5 l5 (s4.trans s5) he5 R5 (.inl q5)
    · rw [show (LE X.K F4 Fr Ek).rt = LK X.K F4 Fr Ek.rt from rfl, e1] at q
      exact LK.weak (s1.trans S) q
    · rw [show (LE X.K F4 Fr Ek).bk = LS X.K F4 Fr Ek.bk from rfl, e2] at q
      exact LS.weak (s1.trans S) q
    · obtain ⟨F5, env5, l5, s5, he5, R5, q5⟩ := q
      exact hN _ _ F5 env5 l5 (s4.trans s5) he5 R5 (.inr q5)
  rcases q1 with ⟨ds, jk, q1⟩ | ⟨b, pa, ws, xs, a, ys, ej, h1, r1, q1⟩
  · refine ⟨fun i m σ H => m = ds.length - i ∧ i ≤ ds.length ∧ ∃ F' env l, Same F1 F' ∧ RepE X.K F' env σ ∧ Rep X.K F' Fr l H ∧ forL g tb (ds.drop i) E env l, ⟨_, rfl, Nat.zero_le _, F1, env, l1, Same.refl _, he.mono s1, R1, q1⟩, ?_⟩
    rintro i m σ H ⟨rfl, hi, F2, env, l, s2, he2, R2, q2⟩
    obtain ⟨j1, j2⟩ := jk i F2 Fr l H s2 R2
    by_cases hlt : i < ds.length
    · rw [List.drop_eq_getElem_cons hlt] at q2
      obtain ⟨go, y⟩ := j2 ds[i] (List.getElem?_eq_getElem hlt)
      refine .inr ⟨go, fun σ H => ∃ F' env l, Same F1 F' ∧ RepE X.K F' env σ ∧ Rep X.K F' Fr l H ∧ forL g tb (ds.drop (i + 1)) E env l, fun σ' H' h => ⟨_, by omega, rfl, hlt, h⟩, fun x H' hy => ?_⟩
      obtain ⟨F3, s3, rx, R3⟩ := y x H' hy
      refine body_ok (Ek := ⟨forL g tb (ds.drop (i + 1)) E, E.rt, E.nx, forL g tb (ds.drop (i + 1)) E⟩) (s2.trans s3) (he2.mono s3) R3 rx rfl rfl q2 fun σ5 H5 F5 env5 l5 s5 he5 R5 q5 => ⟨F5, env5, l5, (s2.trans s3).trans s5, he5, R5, by rcases q5 with q5 | q5 <;> exact q5⟩
    · have e : i = ds.length := by omega
      subst e
      rw [List.drop_length] at q2
      exact .inl ⟨j1 (Nat.le_refl _), F2, env, l, s1.trans s2, he2, R2, q2⟩
  · subst ej
    refine ⟨fun i m σ H => m = (zipD xs ys).length - i ∧ i ≤ (zipD xs ys).length ∧ ∃ F' env l, Same F1 F' ∧ RepE X.K F' env σ ∧ Rep X.K F' Fr l H ∧ forR a ys g tb ((zipD xs ys).drop i) E env l, ⟨_, rfl, Nat.zero_le _, F1, env, l1, Same.refl _, he.mono s1, R1, q1⟩, ?_⟩
    rintro i m σ H ⟨rfl, hi, F2, env, l, s2, he2, R2, q2⟩
    obtain ⟨vs, rv, hq⟩ := (R2.lv _ _ (forR_at q2)).2
    have qa : ZM.SqX false X.K H a vs := .inl (.inl hq)
    have qp : ZM.SqX b X.K H pa ws := sqX_mono R2.fz (sqX_mono s2 h1)
    by_cases hlt : i < (zipD xs ys).length
    · rw [List.drop_eq_getElem_cons hlt] at q2
      have ei := zipD_get xs ys i
      rw [List.getElem?_eq_getElem hlt] at ei
      cases e1 : xs[i]? with
      | none => rw [e1] at ei; cases ei
      | some d1 =>
        cases e2 : ys[i]? with
        | none => rw [e1, e2] at ei; cases ei
        | some d2 =>
          rw [e1, e2] at ei
          have ei := Option.some.inj ei
          rw [ei] at q2
          obtain ⟨v1, hv1, rx1⟩ := r1.get e1
          obtain ⟨v2, hv2, rx2⟩ := rv.get e2
          refine .inr ⟨⟨ws, vs, v1, v2, qp, qa, hv1, hv2⟩, fun σ H => ∃ F' env l, Same F1 F' ∧ RepE X.K F' env σ ∧ Rep X.K F' Fr l H ∧ forR a ys g tb ((zipD xs ys).drop (i + 1)) E env l, fun σ' H' h => ⟨_, by omega, rfl, hlt, h⟩, fun x H' hy => ?_⟩
          obtain ⟨T, x0, y0, ex, nT, eH, y1, y2⟩ := hy
          subst ex eH
          have f1 := y1 ws qp
          have f2 := y2 vs qa
          rw [hv1] at f1
          rw [hv2] at f2
          cases f1
          cases f2
          have s3 : Same F2 (upd F2 T (.tup [v1, v2])) := same_upd (R2.F_none nT)
          refine body_ok (Ek := ⟨forR a ys g tb ((zipD xs ys).drop (i + 1)) E, E.rt, E.nx, forR a ys g tb ((zipD xs ys).drop (i + 1)) E⟩) (s2.trans s3) (he2.mono s3) (R2.laid nT _) (relTup (R2.F_none nT) (.cons (rx1.mono s2) (.cons rx2 .nil))) rfl rfl q2.2 fun σ5 H5 F5 env5 l5 s5 he5 R5 q5 => ⟨F5, env5, l5, (s2.trans s3).trans s5, he5, R5, by rcases q5 with q5 | q5 <;> exact q5⟩
    · have e : i = (zipD xs ys).length := by omega
      subst e
      rw [List.drop_length] at q2
      have en := zipD_get xs ys (zipD xs ys).length
      rw [List.getElem?_eq_none (Nat.le_refl _)] at en
      refine .inl ⟨⟨ws, vs, qp, qa, ?_⟩, F2, env, l, s1.trans s2, he2, R2, q2.2⟩
      rw [← r1.length, ← rv.length]
      cases e1 : xs[(zipD xs ys).length]? with
      | none => exact .inl (List.getElem?_eq_none_iff.mp e1)
      | some _ =>
        cases e2 : ys[(zipD xs ys).length]? with
        | none => exact .inr (List.getElem?_eq_none_iff.mp e2)
        | some _ => rw [e1, e2] at en; cases en
/-- zip of what stays, mixed -/
def iZipX (ta : DTA) : DTI := fun env l R => ta env l fun ds l1 => match ds with
  | [x, y] => match seqOf x with
    | some xs => match seqOf y with
      | some ys => R (zipD xs ys) l1
      | none => False
    | none => False
  | _ => False
theorem di_zipX {e e2 : Expr} {ta : DTA} {p pos tpos : Pos} {elts : List Expr} {kk : Nat} (hg : Gl X "zip") (hm : X.mg "zip" = none) (ha : DA X [e, e2] ta)
    (hs : starEach [e, e2] X.env = (false, eval e X.env) :: starEach [e2] X.env := by rfl) (hpl : (backTo pos (starEach [e2] X.env)).any (·.1) = false := by rfl) : DI X (.Tuple elts kk tpos) (.Call (.Name "zip" p) [e, e2] [] pos) (iZipX ta) := by
  refine ⟨?_⟩
  intro F Fr env l σ H R he hr ht
  refine (ZM.pi_zipM hg hm paW hs hpl).wi ?_
  refine (ha F Fr env l σ H _ he hr ht).mono fun vs H1 ⟨F1, ds, l1, s1, r1, R1, q1⟩ => ?_
  cases r1 with
  | nil => exact q1.elim
  | @cons d1 v1 _ _ ra rr =>
    cases rr with
    | nil => exact q1.elim
    | @cons d2 v2 _ _ rb rr =>
      cases rr with
      | cons _ _ => exact q1.elim
      | nil =>
        have q1 : match seqOf d1 with
          | some xs => match seqOf d2 with
            | some ys => R (zipD xs ys) l1
            | none => False
          | none => False := q1
        cases e1 : seqOf d1 with
        | none => rw [e1] at q1; exact q1.elim
        | some xs =>
          rw [e1] at q1
          obtain ⟨a, b1, vs1, rfl, h1, r1⟩ := seq_rel ra e1
          cases e2 : seqOf d2 with
          | none => rw [e2] at q1; exact q1.elim
          | some ys =>
            rw [e2] at q1
            obtain ⟨a2, b2, vs2, rfl, h2, r2⟩ := seq_rel rb e2
            exact ⟨a, a2, b1, b2, _, _, rfl, sqX_mono R1.fz h1, sqX_mono R1.fz h2, F1, l1, _, s1, R1, jok_zipM h1 r1 h2 r2, q1⟩
end
end DL

/-! enumerate(zip(x, y)): the pair that zip gave out may still stand -/
namespace EZ
open PySem ZM
abbrev IsZ (h : Heap) (z TI TO : Addr) (f0 : Value) (f1 : Bool) : Prop := h.get? z = some { cls := .type "zip", dict := none, data := .fields #[f0, .bool f1, .bool false, .ref TI, .ref TO], slots := #[] }
def Fr0 (v : Value) : Prop := v = .none ∨ ∃ k t, v = .int k t
section
variable {prog : Program} {w : World} {A : Around} {E : Value → Shared → Prop} {s : Shared} {b1 b2 : Bool} {z TI TO i1 i2 l1 l2 : Addr} {k1 k2 : Nat} {xs ys : Array Value} {a b f0 : Value} {f1 : Bool}
theorem lia_at {M : Model} {a : Addr} {Q : Option Obj → Shared → Prop} (h : Q (s.heap.get? a) s) : wpAny M A (loadIfAlive a) Q E s := fun Γ p hp => by
  unfold loadIfAlive
  rw [Sem.wp_loadIfAlive]
  exact (wpAny_pure (M := M) (A := A) (E := E) h) Γ p hp
theorem free_z {Q : Bool → Shared → Prop} (hz : IsZ s.heap z TI TO f0 f1) (hf : Fr0 f0) (h1 : Q true s) (h2 : ∀ g, IsZ g z TI TO f0 true → Heap.SameBut z s.heap g → Q false { s with heap := g }) :
    wpAny (model prog w) A (Builtin.SmallTypes.ownedTupleIsFree (.ref z)) Q E s := by
  unfold Builtin.SmallTypes.ownedTupleIsFree
  refine wpAny_bind (wpAny_field hz rfl (x := f0) rfl ?_)
  rcases hf with rfl | ⟨k, t, rfl⟩
  · exact wpAny_pure h1
  · dsimp only
    refine wpAny_bind (lia_at ?_)
    cases s.heap.get? k.toNat with
    | none =>
      simp only [Option.isNone_none, if_true]
      exact wpAny_pure h1
    | some o =>
      simp only [Option.isNone_some, Bool.false_eq_true, if_false]
      refine wpAny_bind (wpAny_field hz rfl (x := .bool f1) rfl ?_)
      cases f1 with
      | true =>
        rw [if_neg (by decide)]
        exact wpAny_pure (h2 s.heap hz ⟨rfl, fun _ _ => rfl⟩)
      | false =>
        rw [if_pos (by decide)]
        refine wpAny_bind (wpAny_setField_rec hz (by simp) fun g z1 m1 => ?_)
        exact wpAny_pure (h2 g z1 m1)
/-- zip's next, whatever stands of the pair it gave out -/
theorem zip_turn2 {x y : Value} {Q : Value → Shared → Prop} (D : ZipApart z TI TO i1 i2 l1 l2) (hz : IsZ s.heap z TI TO f0 f1) (hf : Fr0 f0) (pI : IsPair s.heap TI (.ref i1) (.ref i2)) (pO : IsPair s.heap TO a b)
    (t1 : It b1 s.heap i1 l1 k1) (t2 : It b2 s.heap i2 l2 k2) (q1 : Sq b1 s.heap l1 xs) (q2 : Sq b2 s.heap l2 ys) (hx : xs[k1]? = some x) (hy : ys[k2]? = some y)
    (fin : ∀ g f0' f1' a' b', IsZ g z TI TO f0' f1' → Fr0 f0' → IsPair g TO a' b' → It b1 g i1 l1 (k1 + 1) → It b2 g i2 l2 (k2 + 1) → IsPair g s.heap.objs.size x y → g.objs.size = s.heap.objs.size + 1 → Rest z TO i1 i2 s.heap g → Q (.ref s.heap.objs.size) { s with heap := g }) :
    wpAny (model prog w) A (Builtin.«zip.__next__» ⟨[.ref z], []⟩) (fun e s' => ∃ v, e = .done (.ret v) ∧ Q v s') E s := by
  show wpAny _ _ (field (.ref z) 2 >>= _) _ _ _; refine wpAny_bind (wpAny_field hz rfl (x := .bool false) rfl ?_)
  show wpAny _ _ (field (.ref z) 3 >>= _) _ _ _; refine wpAny_bind (wpAny_field hz rfl (x := .ref TI) rfl (wpAny_bind (wpAny_seqItems pI rfl ?_)))
  show wpAny _ _ (Builtin.SmallTypes.ownedTupleIsFree (.ref z) >>= _) _ _ _; refine wpAny_bind (free_z hz hf ?_ fun g0 z0 m0 => ?_)
  · simp only [if_true]; refine wpAny_bind (wpAny_rule (wpAny_bind (wpAny_field hz rfl (x := .ref TO) rfl ?_)))
    refine wpAny_bind (wpAny_setField_rec hz (by simp) fun g1 z1 m1 => ?_)
    have z1 : IsZ g1 z TI TO .ellipsis f1 := z1
    refine wpAny_bind ?_; simp only [List.zipIdx_cons, List.zipIdx_nil, List.forIn_cons, List.forIn_nil]
    refine wpAny_bind (wpAny_bind (wpAny_onRaise ?_)); show wpAny _ _ (Builtin.SmallTypes.nextOf (.ref i1) >>= _) _ _ _
    refine wpAny_bind (next_one (t1.but m1.extBut D.i1z) (q1.but m1.extBut D.l1z) hx fun g2 u1 m2 => wpAny_pure ?_)
    have p2 : IsPair g2 TO a b := m2.extBut _ _ D.TOi1 (m1.extBut _ _ D.TOz pO)
    refine wpAny_bind (wpAny_seqItems p2 rfl (wpAny_bind (wpAny_updateSeq_pair p2 fun g3 p3 m3 => ?_)))
    have p3 : IsPair g3 TO x b := p3
    refine wpAny_bind (wpAny_letGo (wpAny_pure (wpAny_bind (wpAny_bind (wpAny_onRaise ?_)))))
    show wpAny _ _ (Builtin.SmallTypes.nextOf (.ref i2) >>= _) _ _ _
    refine wpAny_bind (next_one (((t2.but m1.extBut D.i2z).but m2.extBut D.i12.symm).but m3.extBut D.TOi2.symm) (((q2.but m1.extBut D.l2z).but m2.extBut D.l2i1).but m3.extBut D.l2TO) hy fun g4 u2 m4 => wpAny_pure ?_)
    have p4 : IsPair g4 TO x b := m4.extBut _ _ D.TOi2 p3
    refine wpAny_bind (wpAny_seqItems p4 rfl (wpAny_bind (wpAny_updateSeq_pair p4 fun g5 p5 m5 => ?_)))
    have p5 : IsPair g5 TO x y := p5
    refine wpAny_bind (wpAny_letGo (wpAny_pure (wpAny_pure (wpAny_bind (wpAny_seqItems p5 rfl (wpAny_bind (wpAny_newTuple ?_)))))))
    have sz : g5.objs.size = s.heap.objs.size := by rw [m5.1, m4.1, m3.1, m2.1, m1.1]
    have z5 : IsZ g5 z TI TO .ellipsis f1 := m5.extBut _ _ D.TOz.symm (m4.extBut _ _ D.i2z.symm (m3.extBut _ _ D.TOz.symm (m2.extBut _ _ D.i1z.symm z1)))
    have r5 : Rest z TO i1 i2 s.heap g5 := fun c o c1 c2 c3 c4 e => m5.extBut _ _ c2 (m4.extBut _ _ c4 (m3.extBut _ _ c2 (m2.extBut _ _ c3 (m1.extBut _ _ c1 e))))
    have u1 : It b1 g5 i1 l1 (k1 + 1) := ((u1.but m3.extBut D.TOi1.symm).but m4.extBut D.i12).but m5.extBut D.TOi1.symm
    have u2 : It b2 g5 i2 l2 (k2 + 1) := u2.but m5.extBut D.TOi2.symm
    have zl : z < g5.objs.size := Heap.lt_size z5
    show wpAny _ _ (Builtin.SmallTypes.ownedTupleHandOut (.ref z) (.ref g5.objs.size) >>= _) _ _ _; refine wpAny_bind ?_
    unfold Builtin.SmallTypes.ownedTupleHandOut
    have z6 : IsZ (g5.push { cls := .type "tuple", data := .seq #[x, y] }) z TI TO .ellipsis f1 := Heap.get?_push_of_some _ z5
    refine wpAny_bind (wpAny_setField_rec z6 (by simp) fun g7 z7 m7 => ?_)
    have z7 : IsZ g7 z TI TO (rawInt g5.objs.size) f1 := z7
    refine wpAny_setField_rec z7 (by simp) fun g8 z8 m8 => ?_
    have z8 : IsZ g8 z TI TO (rawInt g5.objs.size) false := z8
    have up : ∀ c o, c ≠ z → g5.get? c = some o → g8.get? c = some o := fun c o c1 e => m8.extBut _ _ c1 (m7.extBut _ _ c1 (Heap.get?_push_of_some _ e))
    have nw : IsPair g8 g5.objs.size x y := m8.extBut _ _ (Nat.ne_of_gt zl) (m7.extBut _ _ (Nat.ne_of_gt zl) (Heap.get?_push_size _ rfl))
    have s8 : g8.objs.size = g5.objs.size + 1 := by rw [m8.1, m7.1, Heap.size_push]
    rw [sz] at z8 nw s8
    refine wpAny_pure ⟨_, rfl, ?_⟩
    show Q (.ref g5.objs.size) _
    rw [sz]
    exact fin g8 _ _ _ _ z8 (.inr ⟨_, _, rfl⟩) (up _ _ D.TOz p5) (u1.to fun o e => up _ o D.i1z e) (u2.to fun o e => up _ o D.i2z e) nw s8 fun c o c1 c2 c3 c4 e => up c o c1 (r5 c o c1 c2 c3 c4 e)
  · rw [if_neg (by decide)]
    dsimp only
    refine wpAny_bind ?_
    simp only [List.forIn_toArray, List.forIn_cons, List.forIn_nil]
    refine wpAny_bind (wpAny_bind (wpAny_holding ?_))
    show wpAny _ _ (Builtin.SmallTypes.nextOf (.ref i1) >>= _) _ _ _
    refine wpAny_bind (next_one (t1.but m0.extBut D.i1z) (q1.but m0.extBut D.l1z) hx fun g2 u1 m2 => wpAny_pure ?_)
    refine wpAny_pure ?_
    refine wpAny_bind (wpAny_bind (wpAny_holding ?_))
    show wpAny _ _ (Builtin.SmallTypes.nextOf (.ref i2) >>= _) _ _ _
    refine wpAny_bind (next_one ((t2.but m0.extBut D.i2z).but m2.extBut D.i12.symm) ((q2.but m0.extBut D.l2z).but m2.extBut D.l2i1) hy fun g4 u2 m4 => wpAny_pure ?_)
    refine wpAny_pure (wpAny_pure ?_)
    refine wpAny_bind (wpAny_newTuple (hsz := (show 2 ≤ sizeLine by decide)) ?_)
    have sz : g4.objs.size = s.heap.objs.size := by rw [m4.1, m2.1, m0.1]
    have z4 : IsZ g4 z TI TO f0 true := m4.extBut _ _ D.i2z.symm (m2.extBut _ _ D.i1z.symm z0)
    have p4 : IsPair g4 TO a b := m4.extBut _ _ D.TOi2 (m2.extBut _ _ D.TOi1 (m0.extBut _ _ D.TOz pO))
    have r4 : Rest z TO i1 i2 s.heap g4 := fun c o c1 c2 c3 c4 e => m4.extBut _ _ c4 (m2.extBut _ _ c3 (m0.extBut _ _ c1 e))
    have u1 : It b1 g4 i1 l1 (k1 + 1) := u1.but m4.extBut D.i12
    have up : ∀ c o, g4.get? c = some o → (g4.push { cls := .type "tuple", data := .seq #[x, y] }).get? c = some o := fun c o e => Heap.get?_push_of_some _ e
    have nw : IsPair (g4.push { cls := .type "tuple", data := .seq #[x, y] }) g4.objs.size x y := Heap.get?_push_size _ rfl
    have s5 : (g4.push { cls := .type "tuple", data := .seq #[x, y] }).objs.size = g4.objs.size + 1 := Heap.size_push ..
    rw [sz] at nw s5
    refine wpAny_pure ⟨_, rfl, ?_⟩
    show Q (.ref g4.objs.size) _
    rw [sz]
    exact fin _ _ _ _ _ (up _ _ z4) hf (up _ _ p4) (u1.to fun o e => up _ o e) (u2.to fun o e => up _ o e) nw s5 fun c o c1 c2 c3 c4 e => up c o (r4 c o c1 c2 c3 c4 e)
theorem zip_stop2 {Q : Fin → Shared → Prop} (un : A.handled = none) (D : ZipApart z TI TO i1 i2 l1 l2) (hz : IsZ s.heap z TI TO f0 f1) (hf : Fr0 f0) (pI : IsPair s.heap TI (.ref i1) (.ref i2)) (pO : IsPair s.heap TO a b)
    (t1 : It b1 s.heap i1 l1 k1) (t2 : It b2 s.heap i2 l2 k2) (q1 : Sq b1 s.heap l1 xs) (q2 : Sq b2 s.heap l2 ys) (hend : xs[k1]? = none ∨ ys[k2]? = none)
    (hE : ∀ g e, Rest z TO i1 i2 s.heap g → (∃ o, g.get? e = some o ∧ o.cls = .type "StopIteration") → E (.ref e) { s with heap := g }) :
    wpAny (model prog w) A (Builtin.«zip.__next__» ⟨[.ref z], []⟩) Q E s := by
  show wpAny _ _ (field (.ref z) 2 >>= _) _ _ _; refine wpAny_bind (wpAny_field hz rfl (x := .bool false) rfl ?_)
  show wpAny _ _ (field (.ref z) 3 >>= _) _ _ _; refine wpAny_bind (wpAny_field hz rfl (x := .ref TI) rfl (wpAny_bind (wpAny_seqItems pI rfl ?_)))
  show wpAny _ _ (Builtin.SmallTypes.ownedTupleIsFree (.ref z) >>= _) _ _ _; refine wpAny_bind (free_z hz hf ?_ fun g0 z0 m0 => ?_)
  · simp only [if_true]; refine wpAny_bind (wpAny_rule (wpAny_bind (wpAny_field hz rfl (x := .ref TO) rfl ?_)))
    refine wpAny_bind (wpAny_setField_rec hz (by simp) fun g1 z1 m1 => ?_)
    have z1 : IsZ g1 z TI TO .ellipsis f1 := z1
    refine wpAny_bind ?_; simp only [List.zipIdx_cons, List.zipIdx_nil, List.forIn_cons, List.forIn_nil]
    refine wpAny_bind (wpAny_bind (wpAny_onRaise ?_)); show wpAny _ _ (Builtin.SmallTypes.nextOf (.ref i1) >>= _) _ _ _
    cases hx : xs[k1]? with
    | none =>
      refine wpAny_bind (next_none un (t1.but m1.extBut D.i1z) (q1.but m1.extBut D.l1z) hx fun g2 e m2 he => ?_)
      obtain ⟨oe, ho, hc⟩ := he
      have z2 : IsZ g2 z TI TO .ellipsis f1 := m2 _ _ D.i1z.symm z1
      have ez : e ≠ z := fun q => by subst q; rw [z2] at ho; cases ho; simp at hc
      refine wpAny_setField_rec z2 (by simp) fun g3 _ m3 => hE g3 e (fun c o c1 _ c3 _ q => m3.extBut _ _ c1 (m2 _ _ c3 (m1.extBut _ _ c1 q))) ⟨oe, m3.extBut _ _ ez ho, hc⟩
    | some x =>
      have hy : ys[k2]? = none := by rcases hend with h | h; rw [hx] at h; cases h; exact h
      refine wpAny_bind (next_one (t1.but m1.extBut D.i1z) (q1.but m1.extBut D.l1z) hx fun g2 u1 m2 => wpAny_pure ?_)
      have p2 : IsPair g2 TO a b := m2.extBut _ _ D.TOi1 (m1.extBut _ _ D.TOz pO)
      refine wpAny_bind (wpAny_seqItems p2 rfl (wpAny_bind (wpAny_updateSeq_pair p2 fun g3 p3 m3 => ?_)))
      refine wpAny_bind (wpAny_letGo (wpAny_pure (wpAny_bind (wpAny_bind (wpAny_onRaise ?_)))))
      show wpAny _ _ (Builtin.SmallTypes.nextOf (.ref i2) >>= _) _ _ _
      refine wpAny_bind (next_none un (((t2.but m1.extBut D.i2z).but m2.extBut D.i12.symm).but m3.extBut D.TOi2.symm) (((q2.but m1.extBut D.l2z).but m2.extBut D.l2i1).but m3.extBut D.l2TO) hy fun g4 e m4 he => ?_)
      obtain ⟨oe, ho, hc⟩ := he
      have z4 : IsZ g4 z TI TO .ellipsis f1 := m4 _ _ D.i2z.symm (m3.extBut _ _ D.TOz.symm (m2.extBut _ _ D.i1z.symm z1))
      have ez : e ≠ z := fun q => by subst q; rw [z4] at ho; cases ho; simp at hc
      refine wpAny_setField_rec z4 (by simp) fun g5 _ m5 => hE g5 e (fun c o c1 c2 c3 c4 q => m5.extBut _ _ c1 (m4 _ _ c4 (m3.extBut _ _ c2 (m2.extBut _ _ c3 (m1.extBut _ _ c1 q))))) ⟨oe, m5.extBut _ _ ez ho, hc⟩
  · rw [if_neg (by decide)]
    dsimp only
    refine wpAny_bind ?_
    simp only [List.forIn_toArray, List.forIn_cons, List.forIn_nil]
    refine wpAny_bind (wpAny_bind (wpAny_holding ?_))
    show wpAny _ _ (Builtin.SmallTypes.nextOf (.ref i1) >>= _) _ _ _
    cases hx : xs[k1]? with
    | none => exact wpAny_bind (next_none un (t1.but m0.extBut D.i1z) (q1.but m0.extBut D.l1z) hx fun g2 e m2 he => hE g2 e (fun c o c1 _ c3 _ q => m2 _ _ c3 (m0.extBut _ _ c1 q)) he)
    | some x =>
      have hy : ys[k2]? = none := by rcases hend with h | h; rw [hx] at h; cases h; exact h
      refine wpAny_bind (next_one (t1.but m0.extBut D.i1z) (q1.but m0.extBut D.l1z) hx fun g2 u1 m2 => wpAny_pure ?_)
      refine wpAny_pure ?_
      refine wpAny_bind (wpAny_bind (wpAny_holding ?_))
      show wpAny _ _ (Builtin.SmallTypes.nextOf (.ref i2) >>= _) _ _ _
      exact wpAny_bind (next_none un ((t2.but m0.extBut D.i2z).but m2.extBut D.i12.symm) ((q2.but m0.extBut D.l2z).but m2.extBut D.l2i1) hy fun g4 e m4 he => hE g4 e (fun c o c1 c2 c3 c4 q => m4 _ _ c4 (m2.extBut _ _ c3 (m0.extBut _ _ c1 q))) he)
/-- the next of a zip that another iterator asks -/
theorem nextOf_zip {x y : Value} {Q : Value → Shared → Prop} (D : ZipApart z TI TO i1 i2 l1 l2) (hz : IsZ s.heap z TI TO f0 f1) (hf : Fr0 f0) (pI : IsPair s.heap TI (.ref i1) (.ref i2)) (pO : IsPair s.heap TO a b)
    (t1 : It b1 s.heap i1 l1 k1) (t2 : It b2 s.heap i2 l2 k2) (q1 : Sq b1 s.heap l1 xs) (q2 : Sq b2 s.heap l2 ys) (hx : xs[k1]? = some x) (hy : ys[k2]? = some y)
    (fin : ∀ g f0' f1' a' b', IsZ g z TI TO f0' f1' → Fr0 f0' → IsPair g TO a' b' → It b1 g i1 l1 (k1 + 1) → It b2 g i2 l2 (k2 + 1) → IsPair g s.heap.objs.size x y → g.objs.size = s.heap.objs.size + 1 → Rest z TO i1 i2 s.heap g → Q (.ref s.heap.objs.size) { s with heap := g }) :
    wpAny (model prog w) A (Builtin.SmallTypes.nextOf (.ref z)) Q E s := by
  have hT : s.TypeIs (.ref z) "zip" := ⟨_, hz, rfl⟩
  unfold Builtin.SmallTypes.nextOf
  exact wpAny_bind (wpAny_callSpecial?_slot (name := Str.ofString "__next__") hT PySem.F.slot_zip_next
    (wpAny_call_entry PySem.F.slot_zip_next hT PySem.F.entry_zip_next (zip_turn2 D hz hf pI pO t1 t2 q1 q2 hx hy fun g c1 c2 c3 c4 c5 c6 c7 c8 c9 c10 c11 c12 => wpAny_pure (fin g c1 c2 c3 c4 c5 c6 c7 c8 c9 c10 c11 c12)) (PySem.F.args_zip_next_1 _)))
theorem nextOf_zip_end {Q : Value → Shared → Prop} (un : A.handled = none) (D : ZipApart z TI TO i1 i2 l1 l2) (hz : IsZ s.heap z TI TO f0 f1) (hf : Fr0 f0) (pI : IsPair s.heap TI (.ref i1) (.ref i2)) (pO : IsPair s.heap TO a b)
    (t1 : It b1 s.heap i1 l1 k1) (t2 : It b2 s.heap i2 l2 k2) (q1 : Sq b1 s.heap l1 xs) (q2 : Sq b2 s.heap l2 ys) (hend : xs[k1]? = none ∨ ys[k2]? = none)
    (hE : ∀ g e, Rest z TO i1 i2 s.heap g → (∃ o, g.get? e = some o ∧ o.cls = .type "StopIteration") → E (.ref e) { s with heap := g }) :
    wpAny (model prog w) A (Builtin.SmallTypes.nextOf (.ref z)) Q E s := by
  have hT : s.TypeIs (.ref z) "zip" := ⟨_, hz, rfl⟩
  unfold Builtin.SmallTypes.nextOf
  exact wpAny_bind (wpAny_callSpecial?_slot (name := Str.ofString "__next__") hT PySem.F.slot_zip_next
    (wpAny_call_entry PySem.F.slot_zip_next hT PySem.F.entry_zip_next (zip_stop2 un D hz hf pI pO t1 t2 q1 q2 hend hE) (PySem.F.args_zip_next_1 _)))
/-- what stands apart from an enumerate over a zip -/
structure Ap (e z TI TO i1 i2 l1 l2 : Addr) : Prop where
  z : e ≠ z
  TI : e ≠ TI
  TO : e ≠ TO
  i1 : e ≠ i1
  i2 : e ≠ i2
  l1 : e ≠ l1
  l2 : e ≠ l2
def Rest2 (e z TO i1 i2 : Addr) (h g : Heap) : Prop := ∀ c o, c ≠ e → c ≠ z → c ≠ TO → c ≠ i1 → c ≠ i2 → h.get? c = some o → g.get? c = some o
theorem enum_turn {e : Addr} {i : Nat} {x y old : Value} {Q : Value → Shared → Prop} (B : Ap e z TI TO i1 i2 l1 l2) (he : IsEnum s.heap e z i old) (D : ZipApart z TI TO i1 i2 l1 l2) (hz : IsZ s.heap z TI TO f0 f1) (hf : Fr0 f0) (pI : IsPair s.heap TI (.ref i1) (.ref i2)) (pO : IsPair s.heap TO a b)
    (t1 : It b1 s.heap i1 l1 k1) (t2 : It b2 s.heap i2 l2 k2) (q1 : Sq b1 s.heap l1 xs) (q2 : Sq b2 s.heap l2 ys) (hx : xs[k1]? = some x) (hy : ys[k2]? = some y)
    (hQ : ∀ h1 g f0' f1' a' b', Rest z TO i1 i2 s.heap h1 → IsPair h1 s.heap.objs.size x y → h1.objs.size = s.heap.objs.size + 1 → (∀ c o, c ≠ e → h1.get? c = some o → g.get? c = some o) → IsEnumOut g e z ((i : Int) + 1) (.ref s.heap.objs.size) (s.heap.objs.size + 1) → IsZ g z TI TO f0' f1' → Fr0 f0' → IsPair g TO a' b' → It b1 g i1 l1 (k1 + 1) → It b2 g i2 l2 (k2 + 1) →
      g.get? (s.heap.objs.size + 1) = some { cls := .type "tuple", data := .seq #[.int i s.toks, .ref s.heap.objs.size] } → g.objs.size = s.heap.objs.size + 2 → Q (.ref (s.heap.objs.size + 1)) { s with heap := g, toks := s.toks + 1 }) :
    wpAny (model prog w) A (Builtin.«enumerate.__next__» ⟨[.ref e], []⟩) (fun fin s' => ∃ v, fin = .done (.ret v) ∧ Q v s') E s := by
  obtain ⟨hp, g, d, tk, os⟩ := s
  show wpAny _ _ (field (.ref e) 2 >>= _) _ _ _
  refine wpAny_bind (wpAny_field he rfl (x := .ref z) rfl ?_)
  refine wpAny_bind (nextOf_zip D hz hf pI pO t1 t2 q1 q2 hx hy fun h₁ f0' f1' a' b' z1 fr1 pO1 t11 t21 nw1 sz1 r1 => ?_)
  replace r1 : Rest z TO i1 i2 hp h₁ := r1
  replace sz1 : h₁.objs.size = hp.objs.size + 1 := sz1
  replace nw1 : IsPair h₁ hp.objs.size x y := nw1
  have hel : e < hp.objs.size := Heap.lt_size he
  have he₁ : IsEnum h₁ e z i old := r1 e _ B.z B.TO B.i1 B.i2 he
  show wpAny _ _ (field (.ref e) 3 >>= _) _ _ ⟨h₁, g, d, tk, os⟩
  refine wpAny_bind (wpAny_field he₁ rfl (x := rawInt i) rfl ?_)
  show wpAny _ _ (field (.ref e) 4 >>= _) _ _ ⟨h₁, g, d, tk, os⟩
  refine wpAny_bind (wpAny_field he₁ rfl (x := .none) rfl ?_)
  show wpAny _ _ (mkInt i >>= _) _ _ ⟨h₁, g, d, tk, os⟩
  refine wpAny_bind (wpAny_mkInt ?_)
  show wpAny _ _ (setField (.ref e) 3 (rawInt ((i : Int) + 1)) >>= _) _ _ ⟨h₁, g, d, tk + 1, os⟩
  refine wpAny_bind (wpAny_setField_rec he₁ (by simp) fun h₂ he₂ hs₂ => ?_)
  replace hs₂ : Heap.SameBut e h₁ h₂ := hs₂
  replace he₂ : IsEnum h₂ e z ((i : Int) + 1) old := he₂
  show wpAny _ _ (setField (.ref e) 4 .none >>= _) _ _ ⟨h₂, g, d, tk + 1, os⟩
  refine wpAny_bind (wpAny_setField_rec he₂ (by simp) fun h₃ he₃ hs₃ => ?_)
  replace hs₃ : Heap.SameBut e h₂ h₃ := hs₃
  replace he₃ : IsEnum h₃ e z ((i : Int) + 1) old := he₃
  show wpAny _ _ (newTuple [.int i tk, .ref hp.objs.size] >>= _) _ _ ⟨h₃, g, d, tk + 1, os⟩
  refine wpAny_bind (wpAny_newTuple ?_)
  have he₄ : IsEnum (h₃.push { cls := .type "tuple", data := .seq #[.int i tk, .ref hp.objs.size] }) e z ((i : Int) + 1) old := Heap.get?_push_of_some _ he₃
  generalize hh₄ : h₃.push { cls := .type "tuple", data := .seq #[.int i tk, .ref hp.objs.size] } = h₄ at he₄
  have hsz : h₃.objs.size = hp.objs.size + 1 := by rw [hs₃.1, hs₂.1, sz1]
  have ht₄ : h₄.get? (hp.objs.size + 1) = some { cls := .type "tuple", data := .seq #[.int i tk, .ref hp.objs.size] } := by rw [← hh₄, ← hsz]; exact Heap.get?_push_size _ rfl
  have hz₄ : h₄.objs.size = hp.objs.size + 2 := by rw [← hh₄, Heap.size_push, hsz]
  have up₄ : ∀ c o, c ≠ e → h₁.get? c = some o → h₄.get? c = some o := fun c o ce q => by
    rw [← hh₄]; exact Heap.get?_push_of_some _ (hs₃.extBut c o ce (hs₂.extBut c o ce q))
  show wpAny _ _ (Builtin.SmallTypes.ownedTupleIsFree (.ref e) >>= _) _ _ ⟨h₄, g, d, tk + 1, os⟩
  rw [hsz]
  refine wpAny_bind ?_
  unfold Builtin.SmallTypes.ownedTupleIsFree
  refine wpAny_bind (wpAny_field he₄ rfl (x := .none) rfl (wpAny_pure ?_))
  simp only [if_true]
  refine wpAny_bind (wpAny_rule ?_)
  refine wpAny_bind (wpAny_field he₄ rfl (x := old) rfl ?_)
  refine wpAny_bind (wpAny_setField_rec he₄ (by simp) fun h₅ he₅ hs₅ => ?_)
  replace hs₅ : Heap.SameBut e h₄ h₅ := hs₅
  replace he₅ : IsEnum h₅ e z ((i : Int) + 1) (.ref hp.objs.size) := he₅
  show wpAny _ _ (Builtin.SmallTypes.ownedTupleHandOut (.ref e) (.ref (hp.objs.size + 1)) >>= _) _ _ ⟨h₅, g, d, tk + 1, os⟩
  refine wpAny_bind ?_
  unfold Builtin.SmallTypes.ownedTupleHandOut
  refine wpAny_bind (wpAny_setField_rec he₅ (by simp) fun h₆ he₆ hs₆ => ?_)
  replace hs₆ : Heap.SameBut e h₅ h₆ := hs₆
  replace he₆ : IsEnumOut h₆ e z ((i : Int) + 1) (.ref hp.objs.size) (hp.objs.size + 1) := he₆
  refine wpAny_setField_rec he₆ (by simp) fun h₇ he₇ hs₇ => ?_
  replace hs₇ : Heap.SameBut e h₆ h₇ := hs₇
  replace he₇ : IsEnumOut h₇ e z ((i : Int) + 1) (.ref hp.objs.size) (hp.objs.size + 1) := he₇
  have up₇ : ∀ c o, c ≠ e → h₄.get? c = some o → h₇.get? c = some o := fun c o ce q => hs₇.extBut c o ce (hs₆.extBut c o ce (hs₅.extBut c o ce q))
  have up : ∀ c o, c ≠ e → h₁.get? c = some o → h₇.get? c = some o := fun c o ce q => up₇ c o ce (up₄ c o ce q)
  refine wpAny_bind (wpAny_letGo (wpAny_pure ⟨_, rfl, hQ h₁ h₇ f0' f1' a' b' r1 nw1 sz1 up he₇ (up _ _ B.z.symm z1) fr1 (up _ _ B.TO.symm pO1) (t11.to fun o q => up _ o B.i1.symm q) (t21.to fun o q => up _ o B.i2.symm q) (up₇ _ _ (Nat.ne_of_gt (Nat.lt_succ_of_lt hel)) ht₄) ?_⟩))
  rw [hs₇.1, hs₆.1, hs₅.1, hz₄]
theorem enum_stop {e : Addr} {i : Nat} {old : Value} {Q : Option Value → Shared → Prop} (un : A.handled = none) (he : IsEnum s.heap e z i old) (D : ZipApart z TI TO i1 i2 l1 l2) (hz : IsZ s.heap z TI TO f0 f1) (hf : Fr0 f0) (pI : IsPair s.heap TI (.ref i1) (.ref i2)) (pO : IsPair s.heap TO a b)
    (t1 : It b1 s.heap i1 l1 k1) (t2 : It b2 s.heap i2 l2 k2) (q1 : Sq b1 s.heap l1 xs) (q2 : Sq b2 s.heap l2 ys) (hend : xs[k1]? = none ∨ ys[k2]? = none)
    (hQ : ∀ g, Rest z TO i1 i2 s.heap g → Q none { s with heap := g }) : wpAny (model prog w) A (pyNext (.ref e)) Q E s := by
  have hT : s.TypeIs (.ref e) "enumerate" := ⟨_, he, rfl⟩
  unfold pyNext
  refine wpAny_bind (wpAny_attempt (wpAny_callSpecial?_slot (name := Str.ofString "__next__") hT F.slot_enumerate_next
    (wpAny_call_entry F.slot_enumerate_next hT F.entry_enumerate_next ?_ (F.args_enumerate_next_1 _))))
  show wpAny _ _ (field (.ref e) 2 >>= _) _ _ _
  refine wpAny_bind (wpAny_field he rfl (x := .ref z) rfl ?_)
  refine wpAny_bind (nextOf_zip_end un D hz hf pI pO t1 t2 q1 q2 hend fun g x hr hx' => ?_)
  obtain ⟨o, ho, hc⟩ := hx'
  refine wpAny_bind (wpAny_isInstance (T := "StopIteration") (b := true) ⟨o, ho, hc⟩ isSubtype_stop ?_)
  exact wpAny_pure (hQ _ hr)
theorem py_enum {e : Addr} {i : Nat} {x y old : Value} {Q : Option Value → Shared → Prop} (B : Ap e z TI TO i1 i2 l1 l2) (he : IsEnum s.heap e z i old) (D : ZipApart z TI TO i1 i2 l1 l2) (hz : IsZ s.heap z TI TO f0 f1) (hf : Fr0 f0) (pI : IsPair s.heap TI (.ref i1) (.ref i2)) (pO : IsPair s.heap TO a b)
    (t1 : It b1 s.heap i1 l1 k1) (t2 : It b2 s.heap i2 l2 k2) (q1 : Sq b1 s.heap l1 xs) (q2 : Sq b2 s.heap l2 ys) (hx : xs[k1]? = some x) (hy : ys[k2]? = some y)
    (hQ : ∀ h1 g f0' f1' a' b', Rest z TO i1 i2 s.heap h1 → IsPair h1 s.heap.objs.size x y → h1.objs.size = s.heap.objs.size + 1 → (∀ c o, c ≠ e → h1.get? c = some o → g.get? c = some o) → IsEnumOut g e z ((i : Int) + 1) (.ref s.heap.objs.size) (s.heap.objs.size + 1) → IsZ g z TI TO f0' f1' → Fr0 f0' → IsPair g TO a' b' → It b1 g i1 l1 (k1 + 1) → It b2 g i2 l2 (k2 + 1) →
      g.get? (s.heap.objs.size + 1) = some { cls := .type "tuple", data := .seq #[.int i s.toks, .ref s.heap.objs.size] } → g.objs.size = s.heap.objs.size + 2 → Q (some (.ref (s.heap.objs.size + 1))) { s with heap := g, toks := s.toks + 1 }) :
    wpAny (model prog w) A (pyNext (.ref e)) Q E s := by
  have hT : s.TypeIs (.ref e) "enumerate" := ⟨_, he, rfl⟩
  unfold pyNext
  exact wpAny_bind (wpAny_attempt (wpAny_callSpecial?_slot (name := Str.ofString "__next__") hT F.slot_enumerate_next
    (wpAny_call_entry F.slot_enumerate_next hT F.entry_enumerate_next (enum_turn B he D hz hf pI pO t1 t2 q1 q2 hx hy fun h1 g c1 c2 c3 c4 c5 c6 c7 c8 c9 c10 c11 c12 c13 c14 c15 c16 => wpAny_pure (hQ h1 g c1 c2 c3 c4 c5 c6 c7 c8 c9 c10 c11 c12 c13 c14 c15 c16)) (F.args_enumerate_next_1 _))))
end
end EZ
namespace EZ
open PySem ZM
open AutoSeq1 (wpAny_loadPart')
theorem meets_new {zz TI TO : Addr} :
    Meets (Builtin.«enumerate.__new__» ⟨[.type "enumerate", .ref zz], []⟩) (fun _ R s => IsZip s.heap zz TI TO .none ∧
      R (.ok (.ret (.ref s.heap.objs.size))) { s with heap := s.heap.push { cls := .type "enumerate", data := .fields #[.none, .bool false, .ref zz, rawInt 0, .none, .none] } }) :=
  .of_wp fun prog w A R s h => by
    obtain ⟨hp, g, d, tk, os⟩ := s; obtain ⟨hl, h⟩ := h
    have hsub := sub_enumerate
    have hL : IsZip (Shared.heap ⟨hp, g, d, tk, os⟩) zz TI TO .none := hl
    wp_walk using wpAny_loadPart' hl
    refine wpAny_stack_any fun st => wpAny_pure ?_
    split
    · rename_i c _ _ _ _ _
      cases (c == Value.type "enumerate")
      · wp_walk using wpAny_loadPart' hl, wpAny_pyIter_zip hL
        exact ⟨_, rfl, h⟩
      · wp_walk using wpAny_loadPart' hl, wpAny_pyIter_zip hL
        exact ⟨_, rfl, h⟩
    · wp_walk using wpAny_loadPart' hl, wpAny_pyIter_zip hL
      exact ⟨_, rfl, h⟩
section
variable {prog : Program} {w : World} {A : Around} {E : Value → Shared → Prop} {s : Shared}
theorem call_enum_zip {zz TI TO : Addr} {Q : Value → Shared → Prop} (hz : IsZip s.heap zz TI TO .none)
    (h : ∀ g, IsEnum g s.heap.objs.size zz 0 .none → g.objs.size = s.heap.objs.size + 1 → (∀ b o, s.heap.get? b = some o → g.get? b = some o) → Q (.ref s.heap.objs.size) { s with heap := g }) :
    wpAny (model prog w) A (call (.type "enumerate") [.ref zz]) Q E s := by
  refine callType_new F.called_enumerate (by decide) (F.typeCall_enumerate_1 _) (F.newCall_enumerate_1 _) (fun obj => F.args_object_init_2 obj _) F.entry_enumerate_new (meets_new (TI := TI) (TO := TO)) ⟨hz, ?_⟩
  show _ ∧ _
  have he : IsEnum (s.heap.push { cls := .type "enumerate", data := .fields #[.none, .bool false, .ref zz, rawInt 0, .none, .none] }) s.heap.objs.size zz 0 .none := Heap.get?_push_size _ rfl
  exact ⟨⟨_, he, rfl⟩, h _ he (Heap.size_push ..) fun b o x => Heap.get?_push_of_some _ x⟩
end
end EZ

/-! for over enumerate(zip(x, y)) -/
namespace EZ
open PySem PySem.Spec PyProof.Rows L2 ZM
def Itez (K : PySem.W.Frag) (b1 b2 : Bool) (a c : Addr) : L2.It :=
  ⟨fun i H => ∃ (xs ys : List V) (x y : V), SqX b1 K H a xs ∧ SqX b2 K H c ys ∧ xs[i]? = some x ∧ ys[i]? = some y,
    fun i H v H' => ∃ T1 T2 x y, v = .ref T2 ∧ H T1 = none ∧ H T2 = none ∧ T2 ≠ T1 ∧ H' = upd (upd H T1 (.tup [x, y])) T2 (.tup [.int (i : Nat), .ref T1]) ∧ (∀ xs, SqX b1 K H a xs → xs[i]? = some x) ∧ ∀ ys, SqX b2 K H c ys → ys[i]? = some y,
    fun i H => ∃ xs ys : List V, SqX b1 K H a xs ∧ SqX b2 K H c ys ∧ (xs.length ≤ i ∨ ys.length ≤ i)⟩
theorem six {α : Type} {c a0 a1 a2 a3 a4 a5 : α} (h : c ∈ [a0, a1, a2, a3, a4, a5]) : c = a0 ∨ c = a1 ∨ c = a2 ∨ c = a3 ∨ c = a4 ∨ c = a5 := by simpa using h
def StEz (b1 b2 : Bool) (e z TI TO i1 i2 a c : Addr) (i : Nat) (h : Heap) : Prop :=
  (∃ old, IsEnum h e z ((i : Nat) : Int) old) ∧ (∃ f0 f1, IsZ h z TI TO f0 f1 ∧ Fr0 f0) ∧ IsPair h TI (.ref i1) (.ref i2) ∧ (∃ x y, IsPair h TO x y) ∧ It b1 h i1 a i ∧ It b2 h i2 c i
theorem turn_ez {P : Program} {w : World} {K : PySem.W.Frag} {elts : List Expr} {kk : Nat} {tpos : Pos} {b1 b2 : Bool} {e a b z TI TO i1 i2 : Addr} (B : Ap e z TI TO i1 i2 a b) (D : ZipApart z TI TO i1 i2 a b) :
    Turn P w K (.Tuple elts kk tpos) (Itez K b1 b2 a b) [e, z, TI, TO, i1, i2] e (StEz b1 b2 e z TI TO i1 i2 a b) where
  mem := by simp
  obj := fun i h st c hc => by
    obtain ⟨⟨old, he⟩, ⟨f0, f1, hz, _⟩, pI, ⟨x, y, pO⟩, t1, t2⟩ := st
    rcases six hc with rfl | rfl | rfl | rfl | rfl | rfl
    · exact ⟨_, he, fun v q => nomatch q⟩
    · exact ⟨_, hz, fun v q => nomatch q⟩
    · exact ⟨_, pI, fun v q => nomatch q⟩
    · exact ⟨_, pO, fun v q => nomatch q⟩
    · exact t1.ob
    · exact t2.ob
  keep := fun i h h' st k => by
    obtain ⟨⟨old, he⟩, ⟨f0, f1, hz, fr⟩, pI, ⟨x, y, pO⟩, t1, t2⟩ := st
    exact ⟨⟨old, k e (by simp) _ he⟩, ⟨f0, f1, k z (by simp) _ hz, fr⟩, k TI (by simp) _ pI, ⟨x, y, k TO (by simp) _ pO⟩, t1.to fun o q => k i1 (by simp) o q, t2.to fun o q => k i2 (by simp) o q⟩
  item := by
    intro X hP hw hK hc i pins s σ H E I hf st hg
    subst hP hw hK
    obtain ⟨⟨old, he⟩, ⟨f0, f1, hz, fr⟩, pI, ⟨x0, y0, pO⟩, t1, t2⟩ := st
    obtain ⟨xs, ys, x, y, g1, g2, hx, hy⟩ := hg
    obtain ⟨its, rv, p⟩ := sq_get I g1
    obtain ⟨its2, rv2, p2⟩ := sq_get I g2
    obtain ⟨u, hu, ru⟩ := rv.get hx
    obtain ⟨u2, hu2, ru2⟩ := rv2.get hy
    have el : e < s.heap.objs.size := Heap.lt_size he
    refine py_enum B he D hz fr pI pO t1 t2 p p2 (x := u) (y := u2) (by simpa using hu) (by simpa using hu2) fun h1 g f0' f1' a' b' r1 nw1 sz1 upg heo z' fr' pO' t1' t2' nwT szg => ?_
    refine ⟨_, rfl, wpAny_letOwnedTupleGo_enum (s := { s with heap := g, toks := s.toks + 1 }) heo fun gh he' sb => ?_⟩
    replace sb : Heap.SameBut e g gh := sb
    have up2 : ∀ c o, c ≠ e → h1.get? c = some o → gh.get? c = some o := fun c o ce q => (sb.2 c ce).trans (upg c o ce q)
    have ok1 : ObjOk X.prog X.w (upd H s.heap.objs.size (.tup [x, y])) h1 s.heap.objs.size (.tup [x, y]) := ⟨by show 2 ≤ sizeLine; decide, [u, u2], .cons ru (.cons ru2 .nil), ⟨_, nw1, rfl, _, rfl⟩⟩
    have I1 : Inv X pins σ (upd H s.heap.objs.size (.tup [x, y])) { s with heap := h1 } := I.turnedNew (t' := s.toks) (ch := [z, TI, TO, i1, i2]) (fun c o hb q => by
      simp only [List.mem_cons, List.not_mem_nil, or_false, not_or] at hb
      exact r1 c o hb.1 hb.2.2.1 hb.2.2.2.1 hb.2.2.2.2 q) (fun c hb => hf c (List.mem_cons_of_mem _ hb)) (Nat.le_refl _) ok1
    have nT : H s.heap.objs.size = none := I.hok.fresh (Nat.le_refl _)
    have nT2 : H (s.heap.objs.size + 1) = none := I.hok.fresh (Nat.le_succ _)
    have fe := hf e (by simp)
    have fe1 : FpOk X pins (upd H s.heap.objs.size (.tup [x, y])) e := ⟨by rw [upd_ne (Nat.ne_of_lt el)]; exact fe.1, fe.2⟩
    have nw2 : gh.get? (s.heap.objs.size + 1) = some { cls := .type "tuple", data := .seq #[.int i s.toks, .ref s.heap.objs.size] } := (sb.2 _ (Nat.ne_of_gt (Nat.lt_succ_of_lt el))).trans nwT
    have ok2 : ObjOk X.prog X.w (upd (upd H s.heap.objs.size (.tup [x, y])) (s.heap.objs.size + 1) (.tup [.int (i : Nat), .ref s.heap.objs.size])) gh (s.heap.objs.size + 1) (.tup [.int (i : Nat), .ref s.heap.objs.size]) :=
      ⟨by show 2 ≤ sizeLine; decide, [.int i s.toks, .ref s.heap.objs.size], .cons ⟨_, rfl⟩ (.cons rfl .nil), ⟨_, nw2, rfl, _, rfl⟩⟩
    have I2 : Inv X pins σ (upd (upd H s.heap.objs.size (.tup [x, y])) (s.heap.objs.size + 1) (.tup [.int (i : Nat), .ref s.heap.objs.size])) { s with heap := gh, toks := s.toks + 1 } := I1.turnedNew (t' := s.toks + 1) (ch := [e]) (fun c o hb q => up2 c o (by simpa using hb) q) (fun c hb => by
      have e' : c = e := by simpa using hb
      rw [e']; exact fe1) (Nat.le_of_eq sz1) ok2
    refine ⟨.ref (s.heap.objs.size + 1), _, I2, rfl, ⟨_, _, x, y, rfl, nT, nT2, Nat.succ_ne_self _, rfl, fun l hl => by rw [sq_one I hl g1]; exact hx, fun l hl => by rw [sq_one I hl g2]; exact hy⟩, ⟨⟨.ref s.heap.objs.size, ?_⟩, ⟨f0', f1', (sb.2 _ B.z.symm).trans z', fr'⟩, ?_, ⟨a', b', (sb.2 _ B.TO.symm).trans pO'⟩, ?_, ?_⟩, fun c hcm => ?_⟩
    · have e1 : ((i + 1 : Nat) : Int) = (i : Int) + 1 := by omega
      rw [e1]; exact he'
    · exact up2 _ _ B.TI.symm (r1 _ _ D.TIz D.TITO D.TIi1 D.TIi2 pI)
    · exact t1'.to fun o q => (sb.2 _ B.i1.symm).trans q
    · exact t2'.to fun o q => (sb.2 _ B.i2.symm).trans q
    · have lt : c < s.heap.objs.size := by
        rcases six hcm with rfl | rfl | rfl | rfl | rfl | rfl
        · exact el
        · exact Heap.lt_size hz
        · exact Heap.lt_size pI
        · exact Heap.lt_size pO
        · obtain ⟨_, e, _⟩ := t1.ob; exact Heap.lt_size e
        · obtain ⟨_, e, _⟩ := t2.ob; exact Heap.lt_size e
      rw [upd_ne (Nat.ne_of_lt (Nat.lt_succ_of_lt lt)), upd_ne (Nat.ne_of_lt lt)]
      exact (hf c hcm).1
  done := by
    intro X hP hw hK hc i pins s σ H E I hf st hg
    subst hP hw hK
    obtain ⟨⟨old, he⟩, ⟨f0, f1, hz, fr⟩, pI, ⟨x0, y0, pO⟩, t1, t2⟩ := st
    obtain ⟨xs, ys, g1, g2, hend⟩ := hg
    obtain ⟨its, rv, p⟩ := sq_get I g1
    obtain ⟨its2, rv2, p2⟩ := sq_get I g2
    have l1 := rv.length
    have l2 := rv2.length
    have hen : its.toArray[i]? = none ∨ its2.toArray[i]? = none := hend.imp (fun q => by simp; omega) fun q => by simp; omega
    exact enum_stop (I.ok.hd hc) he D hz fr pI pO t1 t2 p p2 hen fun g rest => ⟨rfl, I.turnedL (t' := s.toks) (ch := [z, TI, TO, i1, i2]) (fun c o hb q => by
      simp only [List.mem_cons, List.not_mem_nil, or_false, not_or] at hb
      exact rest c o hb.1 hb.2.2.1 hb.2.2.2.1 hb.2.2.2.2 q) fun c hb => hf c (List.mem_cons_of_mem _ hb)⟩
  self := fun A i s Q E st h => let ⟨⟨_, he⟩, _⟩ := st; wpAny_pyIter_enum he h
def iEZm (K : PySem.W.Frag) (ta : TA) : TI := fun σ H R => ta σ H fun vs H1 => ∃ a b b1 b2 xs ys, vs = [.ref a, .ref b] ∧ SqX b1 K H1 a xs ∧ SqX b2 K H1 b ys ∧ R (Itez K b1 b2 a b) H1
theorem pi_ez {X : Cx} {e e2 : Expr} {ta : TA} {p p2 pos pos2 tpos : Pos} {elts : List Expr} {kk : Nat} (hg : Gl X "enumerate") (hm : X.mg "enumerate" = none) (hg2 : Gl X "zip") (hm2 : X.mg "zip" = none) (ha : PA X [e, e2] ta)
    (hs2 : starEach [e, e2] X.env = (false, eval e X.env) :: starEach [e2] X.env := by rfl) (hpl : (backTo pos2 (starEach [e2] X.env)).any (·.1) = false := by rfl)
    (hs : starEach [.Call (.Name "zip" p2) [e, e2] [] pos2] X.env = (false, eval (.Call (.Name "zip" p2) [e, e2] [] pos2) X.env) :: starEach [] X.env := by rfl) :
    PI X (.Tuple elts kk tpos) (.Call (.Name "enumerate" p) [.Call (.Name "zip" p2) [e, e2] [] pos2] [] pos) (iEZm X.K ta) := by
  refine ⟨fun pins s σ H R I h => ?_⟩
  refine Call_ (ld_blt I hg hm boot_enumerate (PyProof.Rows.callWith_type1 ?_ hs rfl))
  rw [hs]
  show wpAny _ _ (spliced ((false, eval (.Call (.Name "zip" p2) [e, e2] [] pos2) X.env) :: backTo pos (starEach [] X.env))) _ _ s
  refine Calls.spliced_cons ?_
  refine Call_ (ld_blt I hg2 hm2 PyProof.Rows.boot_zip (PyProof.Rows.callWith_type1 (thn (ha.run pos2 pins s σ H _ I h) fun us s1 ⟨vs, H1, I1, r1, q1⟩ => ?_) hs2 hpl))
  obtain ⟨a, b, b1, b2, xs, ys, ex, g1, g2, q⟩ := q1
  subst ex
  cases r1 with
  | cons r rr =>
    cases rr with
    | cons r' rr =>
      cases rr
      cases r
      cases r'
      obtain ⟨its, rv, q1⟩ := sq_get I1 g1
      obtain ⟨its2, rv2, q2⟩ := sq_get I1 g2
      refine call_zipM q1 q2 fun g hz pI pO t1 t2 rest => ?_
      refine Calls.spliced_nil ?_
      refine call_enum_zip (s := { s1 with heap := g }) hz fun g' he szg rest' => wpAny_pyIter_enum he ?_
      replace szg : g'.objs.size = g.objs.size + 1 := szg
      replace rest' : ∀ b o, g.get? b = some o → g'.get? b = some o := rest'
      have zl : s1.heap.objs.size + 4 < g.objs.size := Heap.lt_size hz
      have k1 : It b1 g' s1.heap.objs.size a 0 := t1.to fun o x => rest' _ o x
      have k2 : It b2 g' (s1.heap.objs.size + 1) b 0 := t2.to fun o x => rest' _ o x
      have al : a < g.objs.size := (q1.to fun o x => rest _ o x).lt
      have bl : b < g.objs.size := (q2.to fun o x => rest _ o x).lt
      have zl' : (s1.heap.objs.size : Nat) + 4 < (g.objs.size : Nat) := zl
      have sl : ∀ k : Nat, k ≤ 4 → (s1.heap.objs.size : Nat) + k < (g.objs.size : Nat) := fun k hk => Nat.lt_of_le_of_lt (Nat.add_le_add_left hk _) zl'
      have B : Ap g.objs.size (s1.heap.objs.size + 4) (s1.heap.objs.size + 2) (s1.heap.objs.size + 3) s1.heap.objs.size (s1.heap.objs.size + 1) a b := ⟨Nat.ne_of_gt zl, Nat.ne_of_gt (sl 2 (by decide)), Nat.ne_of_gt (sl 3 (by decide)), Nat.ne_of_gt (sl 0 (by decide)), Nat.ne_of_gt (sl 1 (by decide)), Nat.ne_of_gt al, Nat.ne_of_gt bl⟩
      have new6 : ∀ c, c ∈ [g.objs.size, s1.heap.objs.size + 4, s1.heap.objs.size + 2, s1.heap.objs.size + 3, s1.heap.objs.size, s1.heap.objs.size + 1] → FpOk X pins H1 c := fun c hcm => by
        have le : s1.heap.objs.size ≤ c := by
          rcases six hcm with rfl | rfl | rfl | rfl | rfl | rfl
          · exact Nat.le_of_lt (sl 0 (by decide))
          · exact Nat.le_add_right _ _
          · exact Nat.le_add_right _ _
          · exact Nat.le_add_right _ _
          · exact Nat.le_refl _
          · exact Nat.le_add_right _ _
        exact I1.fpOk le (I1.hok.fresh le)
      exact ⟨g.objs.size, _, _, _, H1, rfl, I1.kept (t' := s1.toks) (fun b o x => rest' _ _ (rest _ _ x)), turn_ez B (PySem.W.ktu_apart s1.heap.objs.size a b q1.lt q2.lt), ⟨⟨_, he⟩, ⟨.none, false, rest' _ _ hz, .inl rfl⟩, rest' _ _ pI, ⟨_, _, rest' _ _ pO⟩, k1, k2⟩, new6, q⟩
end EZ
namespace DL
open PySem PySem.Spec PyProof.Rows L2
theorem jok_ez {K : PySem.W.Frag} {F : Hp} {b1 b2 : Bool} {a b : Addr} {vs us : List V} {ds es : List D} (h : ZM.SqX b1 K F a vs) (r : RelDs K F ds vs) (h' : ZM.SqX b2 K F b us) (r' : RelDs K F es us) : JOk K F (EZ.Itez K b1 b2 a b) (enumD 0 (zipD ds es)) := by
  intro i F' Fr l H s R
  have q := sqX_mono R.fz (sqX_mono s h)
  have q' := sqX_mono R.fz (sqX_mono s h')
  refine ⟨fun hi => ⟨vs, us, q, q', ?_⟩, fun d hd => ?_⟩
  · rw [enumD_length] at hi
    have e : (zipD ds es)[i]? = none := List.getElem?_eq_none hi
    rw [zipD_get] at e
    rw [← r.length, ← r'.length]
    cases e1 : ds[i]? with
    | none => exact .inl (List.getElem?_eq_none_iff.mp e1)
    | some _ =>
      cases e2 : es[i]? with
      | none => exact .inr (List.getElem?_eq_none_iff.mp e2)
      | some _ => rw [e1, e2] at e; cases e
  · rw [enumD_get, zipD_get] at hd
    cases e1 : ds[i]? with
    | none => rw [e1] at hd; cases hd
    | some d1 =>
      cases e2 : es[i]? with
      | none => rw [e1, e2] at hd; cases hd
      | some d2 =>
        rw [e1, e2] at hd
        cases hd
        obtain ⟨v, hv, rv⟩ := r.get e1
        obtain ⟨u, hu, ru⟩ := r'.get e2
        refine ⟨⟨vs, us, v, u, q, q', hv, hu⟩, fun x H' ⟨T1, T2, x0, y0, ex, n1, n2, ne, eH, y1, y2⟩ => ?_⟩
        subst ex eH
        have f1 := y1 vs q
        have f2 := y2 us q'
        rw [hv] at f1
        rw [hu] at f2
        cases f1
        cases f2
        have R1 := R.laid n1 (.tup [v, u])
        have s1 := same_upd (o := .tup [v, u]) (R.F_none n1)
        have n2' : upd H T1 (.tup [v, u]) T2 = none := by rw [upd_ne ne]; exact n2
        have R2 := R1.laid n2' (.tup [.int (i : Nat), .ref T1])
        have rel1 : RelD K (upd F' T1 (.tup [v, u])) (.tup [d1, d2]) (.ref T1) := relTup (R.F_none n1) (.cons (rv.mono s) (.cons (ru.mono s) .nil))
        refine ⟨_, s1.trans (same_upd (R1.F_none n2')), ?_, R2⟩
        rw [Nat.zero_add]
        exact relTup (R1.F_none n2') (.cons (.int _) (.cons rel1 .nil))
def iEZ (ta : DTA) : DTI := fun env l R => ta env l fun ds l1 => match ds with
  | [x, y] => match seqOf x with
    | some xs => match seqOf y with
      | some ys => R (enumD 0 (zipD xs ys)) l1
      | none => False
    | none => False
  | _ => False
theorem di_ez {X : Cx} {e e2 : Expr} {ta : DTA} {p p2 pos pos2 tpos : Pos} {elts : List Expr} {kk : Nat} (hg : Gl X "enumerate") (hm : X.mg "enumerate" = none) (hg2 : Gl X "zip") (hm2 : X.mg "zip" = none) (ha : DA X [e, e2] ta)
    (hs2 : starEach [e, e2] X.env = (false, eval e X.env) :: starEach [e2] X.env := by rfl) (hpl : (backTo pos2 (starEach [e2] X.env)).any (·.1) = false := by rfl)
    (hs : starEach [.Call (.Name "zip" p2) [e, e2] [] pos2] X.env = (false, eval (.Call (.Name "zip" p2) [e, e2] [] pos2) X.env) :: starEach [] X.env := by rfl) :
    DI X (.Tuple elts kk tpos) (.Call (.Name "enumerate" p) [.Call (.Name "zip" p2) [e, e2] [] pos2] [] pos) (iEZ ta) := by
  refine ⟨?_⟩
  intro F Fr env l σ H R he hr ht
  refine (EZ.pi_ez hg hm hg2 hm2 paW hs2 hpl hs).wi ?_
  refine (ha F Fr env l σ H _ he hr ht).mono fun vs H1 ⟨F1, ds, l1, s1, r1, R1, q1⟩ => ?_
  cases r1 with
  | nil => exact q1.elim
  | @cons d1 v1 _ _ ra rr =>
    cases rr with
    | nil => exact q1.elim
    | @cons d2 v2 _ _ rb rr =>
      cases rr with
      | cons _ _ => exact q1.elim
      | nil =>
        have q1 : match seqOf d1 with
          | some xs => match seqOf d2 with
            | some ys => R (enumD 0 (zipD xs ys)) l1
            | none => False
          | none => False := q1
        cases e1 : seqOf d1 with
        | none => rw [e1] at q1; exact q1.elim
        | some xs =>
          rw [e1] at q1
          obtain ⟨a, b1, vs1, rfl, h1, r1⟩ := seq_rel ra e1
          cases e2 : seqOf d2 with
          | none => rw [e2] at q1; exact q1.elim
          | some ys =>
            rw [e2] at q1
            obtain ⟨a2, b2, vs2, rfl, h2, r2⟩ := seq_rel rb e2
            exact ⟨a, a2, b1, b2, _, _, rfl, sqX_mono R1.fz h1, sqX_mono R1.fz h2, F1, l1, _, s1, R1, jok_ez h1 r1 h2 r2, q1⟩
end DL

/-! sorted(list of numbers) -/
namespace DL
open PySem PySem.Spec PyProof.Rows L2
def kSortI : List D → LH → DK → Prop := fun ds l Q => match ds with
  | [.lst ds] => ∃ ns : List Int, ds = ns.map D.int ∧ ns.length < 64 ∧ ∀ ms : List Int, ms.Perm ns → ms.Pairwise (· ≤ ·) → Q (.lst (ms.map D.int)) l
  | _ => False
theorem kSortI_ok {X : Cx} : KCall X (rSorted X.K) kSortI := by
  intro F Fr l H Q ds vs Q' R rd hq q
  cases rd with
  | nil => exact q.elim
  | @cons d v ds' vs' r1 rr =>
    cases rr with
    | cons _ _ => cases d <;> exact q.elim
    | nil =>
      cases r1 with
      | @lst p vs ds h1 rr =>
        obtain ⟨ns, rfl, few, q⟩ := q
        rw [rel_ints rr] at h1
        exact ⟨p, ns, rfl, .inl (.inl (R.fz _ _ h1)), few, fun ms p2 h2 h3 np => hq _ _ (LK.lst np R (relDs_ints ms) (q ms h2 h3))⟩
      | _ => exact q.elim
end DL

/-! DLX: what may raise: readings that take a wish about what is raised -/
namespace DL
open PySem PySem.Spec PyProof.Rows L2

abbrev DWish := DSt → D → LH → Prop
/-- the data of what is raised -/
def ExRel (K : PySem.W.Frag) (F : Hp) (x : D) (cls : Value) (d : Option Addr) : Prop := match x with
  | .exc k => ∃ C, PySem.W.nsIn K mainGlobals (exN k) = some (some (.ref C)) ∧ cls = .ref C ∧ d = none
  | .exc1 k e => ∃ C dx v, PySem.W.nsIn K mainGlobals (exN k) = some (some (.ref C)) ∧ cls = .ref C ∧ d = some dx ∧ F dx = some (.xd [(exF k, v)]) ∧ RelD K F e v
  | _ => False
theorem ExRel.rel {K : PySem.W.Frag} {F : Hp} {x : D} {cls : Value} {d : Option Addr} {a : Addr} (h : ExRel K F x cls d) (n : F a = none) : RelD K (upd F a (ExH cls d a)) x (.ref a) := by
  cases x with
  | exc k =>
    obtain ⟨C, h1, rfl, rfl⟩ := h
    exact .exc h1 upd_same
  | exc1 k e =>
    obtain ⟨C, dx, v, h1, rfl, rfl, h2, h3⟩ := h
    refine .exc1 h1 upd_same ?_ (h3.mono (same_upd n))
    rw [upd_ne (fun z => by rw [z, n] at h2; cases h2)]
    exact h2
  | _ => exact h.elim
def LX (K : PySem.W.Frag) (F Fr : Hp) (wx : DWish) : WX := fun cls d σ H => ∃ F' env l x, Same F F' ∧ RepE K F' env σ ∧ Rep K F' Fr l H ∧ ExRel K F' x cls d ∧ wx env x l
def LXE (K : PySem.W.Frag) (F Fr : Hp) (wd : D → LH → Prop) : XK := fun cls d H => ∃ F' l x, Same F F' ∧ Rep K F' Fr l H ∧ ExRel K F' x cls d ∧ wd x l
theorem takes_mono {X : Cx} {F F1 Fr : Hp} {wx : DWish} (s : Same F F1) (tk : Takes X (LX X.K F Fr wx)) : Takes X (LX X.K F1 Fr wx) :=
  tk.imp fun _ _ _ _ ⟨F', e, l, x, s', r⟩ => ⟨F', e, l, x, s.trans s', r⟩

structure DXE (X : Cx) (e : Expr) (t : DWish → DTE) : Prop where
  run : ∀ wx F Fr env l σ H Q, Takes X (LX X.K F Fr wx) → RepE X.K F env σ → Rep X.K F Fr l H → t wx env l Q → WE X e σ H (LK X.K F Fr Q)
structure DXA (X : Cx) (e : List Expr) (t : DWish → DTA) : Prop where
  run : ∀ wx F Fr env l σ H Q, Takes X (LX X.K F Fr wx) → RepE X.K F env σ → Rep X.K F Fr l H → t wx env l Q → WA X e σ H (LA X.K F Fr Q)
structure DXS (X : Cx) (st : Stmt) (t : DWish → DTS) : Prop where
  run : ∀ wx F Fr env l σ H E, Takes X (LX X.K F Fr wx) → RepE X.K F env σ → Rep X.K F Fr l H → t wx E env l → WS X st (LE X.K F Fr E) σ H
structure DXSs (X : Cx) (st : List Stmt) (t : DWish → DTS) : Prop where
  run : ∀ wx F Fr env l σ H E, Takes X (LX X.K F Fr wx) → RepE X.K F env σ → Rep X.K F Fr l H → t wx E env l → WSs X st (LE X.K F Fr E) σ H
section
variable {X : Cx} {e : Expr} {es : List Expr} {st : Stmt} {sts : List Stmt}
theorem dx_e {t : DTE} (h : DE X e t) : DXE X e (fun _ => t) := ⟨fun wx F Fr env l σ H Q _ he hr ht => h F Fr env l σ H Q he hr ht⟩
theorem dx_a {t : DTA} (h : DA X es t) : DXA X es (fun _ => t) := ⟨fun wx F Fr env l σ H Q _ he hr ht => h F Fr env l σ H Q he hr ht⟩
theorem dx_s {t : DTS} (h : DS X st t) : DXS X st (fun _ => t) := ⟨fun wx F Fr env l σ H Q _ he hr ht => h F Fr env l σ H Q he hr ht⟩
theorem dx_ss {t : DTS} (h : DSs X sts t) : DXSs X sts (fun _ => t) := ⟨fun wx F Fr env l σ H Q _ he hr ht => h F Fr env l σ H Q he hr ht⟩
end

/-! ### defs that may raise -/
def spOfX (K : PySem.W.Frag) (dsp : (D → LH → Prop) → DSp) : Sp := fun vs H Q E => ∃ F Fr ds l Qd wd, RelDs K F ds vs ∧ Rep K F Fr l H ∧ dsp wd ds l Qd ∧ (∀ v H', LK K F Fr Qd v H' → Q v H') ∧ ∀ cls d H', LXE K F Fr wd cls d H' → E cls d H'
def fnDX (tb : DWish → DTS) (np nl : Nat) (wd : D → LH → Prop) : DSp := fnD (tb fun _ => wd) np nl
structure FnX (P : Program) (w : World) (K : PySem.W.Frag) (mg : Str → Option Value) (base : Heap) (k : Nat) (f : Addr) (fd : FuncData) (ps : List Str) (dsp : (D → LH → Prop) → DSp) : Prop where
  len : ∀ wd ds l Q, dsp wd ds l Q → ds.length = ps.length
  run : ∀ (A : Around) (outer : List Env) (s : Shared) (H : Hp) (args : Args) (us : List Value) (vs : List V) (Q : VK) (E : XK), Room k A → A.guards = some [] → Env0 P w K mg base A outer s H → BindsTo s fd args (ps.zip us) → Vals vs us → spOfX K dsp vs H Q E →
    codeAny (model P w) A (.call (.ref f) args) (CR (L2.CX P w) outer P w H s Q E) s
section
variable {P : Program} {w : World} {K : PySem.W.Frag} {mg : Str → Option Value} {base : Heap}
theorem FnX.mono {j k : Nat} {f : Addr} {fd : FuncData} {ps : List Str} {dsp : (D → LH → Prop) → DSp} (G : FnX P w K mg base j f fd ps dsp) (h : j ≤ k) : FnX P w K mg base k f fd ps dsp :=
  ⟨G.len, fun A outer s H args us vs Q E hr => G.run A outer s H args us vs Q E (hr.mono h)⟩
/-- where nothing is raised -/
theorem FnX.plain {k : Nat} {f : Addr} {fd : FuncData} {ps : List Str} {dsp : (D → LH → Prop) → DSp} (G : FnX P w K mg base k f fd ps dsp) : FnG P w K mg base k f fd ps (dsp fun _ _ => False) := by
  refine ⟨G.len _, fun A outer s H args us vs Q E hr hgd e0 hbd r hsp => ?_⟩
  obtain ⟨F, Fr, ds, l, Qd, rd, R, q, hq⟩ := hsp
  refine codeAny_mono (G.run A outer s H args us vs Q L2.E0 hr hgd e0 hbd r ⟨F, Fr, ds, l, Qd, _, rd, R, q, hq, fun cls d H' z => ?_⟩) fun res s' hq => ?_
  · obtain ⟨_, _, _, _, _, _, z⟩ := z
    exact z.elim
  · cases res with
    | error _ =>
      obtain ⟨_, _, _, _, _, _, _, _, _, _, _, _, z⟩ := hq
      exact z.elim
    | ok fl => cases fl <;> exact hq
theorem fnx_ok {x qual : Str} {st : Stmt} {f : Addr} {fd : FuncData} {N ps : List Str} {k nl : Nat} {tb : DWish → DTS} (G : Fun K x qual st f fd) (S : FnScope N ps (defScope st)) (hn : nl = N.length - ps.length)
    (hb : ∀ (cdv : Value) (A : Around) (outer : List Env) (s : Shared) (H : Hp) (E : XK), Room k (A.deeper (envOfC qual (defScope st) s.heap.objs.size f cdv)) → (A.deeper (envOfC qual (defScope st) s.heap.objs.size f cdv)).guards = some [] →
      PassesOwn (model P w) (cxOf (L2.CX P w) P w K mg base N qual (defScope st) f cdv A outer s H E).A (cxOf (L2.CX P w) P w K mg base N qual (defScope st) f cdv A outer s H E).env (cxOf (L2.CX P w) P w K mg base N qual (defScope st) f cdv A outer s H E).xe →
      DXSs (cxOf (L2.CX P w) P w K mg base N qual (defScope st) f cdv A outer s H E) (defBody st) tb) :
    FnX P w K mg base (k + 1) f fd ps (fnDX tb ps.length nl) := by
  obtain ⟨oc, od, kV, doc, pm, an, cdv, ct, osl, rfl, lk, hcd⟩ := G.ex
  refine ⟨fun wd ds l Q h => h.1, fun A outer s H args us vs Q E hr hgd e0 hbd r hsp => ?_⟩
  obtain ⟨F, Fr, ds, l, Qd, wd, rd, R, ⟨h1, q⟩, hq, hE⟩ := hsp
  have hlen : vs.length = ps.length := by rw [← rd.length, h1]
  have inK : K.In s.heap := e0.mod.kin.keeps fun b o e => (e0.bs b o e).1
  have hlim : s.heap.NoLimit := e0.mod.nolimit.keeps fun b o e => (e0.bs b o e).1
  have kinds : ∀ y ∈ ps.zip us, (defScope st).names.lookup y.1 = some .local ∨ ((defScope st).names.lookup y.1 = some .cell ∧ ((cellsFrom (s.heap.objs.size + 1) (defScope st).names []).lookup y.1).isSome = true) := by
    rintro ⟨n, v⟩ hy
    exact (S.par n (List.of_mem_zip hy).1).imp id fun q => ⟨q, PySem.W.cellsFrom_some _ _ _ (.inl q)⟩
  refine codeAny_call_function hr.depth (inK _ _ lk) rfl S.co S.gen rfl (PySem.W.codeRec_of inK hcd) (hbd _ _ _ _ (wpAny_newFunctionEnv_cells S.kind kinds fun env he s1 ic => ?_))
  subst he
  refine ⟨hlim.keeps ic.toInCall.keep, codeAny_func ?_⟩
  have I : Inv (cxOf (L2.CX P w) P w K mg base N qual (defScope st) f cdv A outer s H E) [] (start N vs) H s1 := inv_start S hr.hd e0 hlen r ic
  have est : L2.start N vs = vs.map some ++ List.replicate nl none := by
    unfold L2.start
    rw [hn, hlen]
  have tk : Takes (cxOf (L2.CX P w) P w K mg base N qual (defScope st) f cdv A outer s H E) (LX K F Fr fun _ => wd) :=
    (takes_of (E := E) rfl rfl rfl rfl).imp fun c d σ H' ⟨F', env, l', x, s', _, R', er, w'⟩ => hE c d H' ⟨F', l', x, s', R', er, w'⟩
  have body : WSs (cxOf (L2.CX P w) P w K mg base N qual (defScope st) f cdv A outer s H E) (defBody st) (LE K F Fr ⟨fun _ l => Qd .non l, Qd, fun _ _ => False, fun _ _ => False⟩) (L2.start N vs) H := by
    rw [est]
    exact (hb cdv A outer s H E (hr.deeper _) hgd (passes_of rfl)).run (fun _ => wd) F Fr _ l _ H _ tk (RepE.start rd nl) R q
  refine wpAny_mono (pssW.run [] s1 _ H _ I body) (fun fl s' hs => ?_) fun e s' hs => hs
  have fin : ∀ {σ' : St} {H' : Hp} {v : V} {u : Value}, Inv (cxOf (L2.CX P w) P w K mg base N qual (defScope st) f cdv A outer s H E) [] σ' H' s' → RelV v u → Q v H' → CE outer P w H s Q u s' := fun J rv q => ⟨_, _, J.os, J.bare, J.base, J.hok, rv, q⟩
  cases fl with
  | ret u => obtain ⟨v, σ', H', J, rv, q⟩ := hs; exact fin J rv (hq v H' q)
  | next =>
    obtain ⟨σ', H', J, F', e', l', s', re, R', q⟩ := hs
    exact fin (v := .non) (u := .none) J rfl (hq .non H' ⟨F', .non, l', s', .non, R', q⟩)
  | brk => obtain ⟨σ', H', J, F', e', l', s', re, R', q⟩ := hs; exact q.elim
  | cont => obtain ⟨σ', H', J, F', e', l', s', re, R', q⟩ := hs; exact q.elim
end

section
variable {X : Cx} {e o : Expr} {es : List Expr} {to : DTE} {t : DWish → DTA} {pos p apos : Pos} {x m : Str} {c : Cl} {C : Addr} {k : Nat} {g f : Addr} {fd : FuncData} {ps : List Str} {dsp : (D → LH → Prop) → DSp}
theorem run_fnX {pins : List (Addr × Obj)} {σ : St} {H : Hp} {s : Shared} {us : List Value} {vs : List V} {F Fr : Hp} {env : DSt} {ds : List D} {l : LH} {Q : DK} {wx : DWish} (G : FnX X.prog X.w X.K X.mg X.base k g fd ps dsp) (hr : Room k X.A) (hgd : X.A.guards = some []) (hb : Binds X.K fd ps [])
    (I : Inv X pins σ H s) (r : Vals vs us) (rd : RelDs X.K F ds vs) (R : Rep X.K F Fr l H) (tk : Takes X (LX X.K F Fr wx)) (he : RepE X.K F env σ) (h : dsp (wx env) ds l Q) : wpAny (model X.prog X.w) X.A (call (.ref g) us) (EP X pins σ (LK X.K F Fr Q)) X.xe s := by
  have hsp : spOfX X.K dsp vs H (LK X.K F Fr Q) (LXE X.K F Fr (wx env)) := ⟨F, Fr, ds, l, Q, wx env, rd, R, h, fun v H' q => q, fun _ _ _ z => z⟩
  have hl : (us ++ []).length = ps.length := by rw [List.append_nil, ← r.length, ← rd.length]; exact G.len _ _ _ _ h
  have hbd := hb s us I.kIn hl
  rw [List.append_nil] at hbd
  refine wpAny_call (codeAny_mono (G.run X.A X.stack s H ⟨us, []⟩ us vs _ _ hr hgd I.env0 hbd r hsp) fun res s' hq => ?_)
  cases res with
  | error u => exact tk u s' (XE.of_call I (fun cls d H' ⟨F', l', x', s1, R', er, w⟩ => ⟨F', env, l', x', s1, he.mono s1, R', er, w⟩) hq)
  | ok fl =>
    cases fl with
    | ret u => exact I.after hq
    | next => exact hq.elim
    | brk => exact hq.elim
    | cont => exact hq.elim
def xDef (sp : (D → LH → Prop) → DSp) (wx : DWish) (t : DTA) : DTE := fun env l Q => t env l fun ds l1 => callD (sp (wx env)) ds l1 Q
theorem dx_call (G : FnX X.prog X.w X.K X.mg X.base k f fd ps dsp) (hr : Room k X.A) (hgd : X.A.guards = some []) (hg : Gl X x) (hm : X.mg x = some (.ref f)) (hk : PySem.W.keepIn X.K (.ref f) = true) (hb : Binds X.K fd ps []) (ha : DXA X (e :: es) t)
    (hdb : (x == ("__debug__" : Str)) = false := by decide) (he : starEach (e :: es) X.env = (false, eval e X.env) :: starEach es X.env := by rfl) (hpl : (backTo pos (starEach es X.env)).any (·.1) = false := by rfl) : DXE X (.Call (.Name x p) (e :: es) [] pos) (fun wx => xDef dsp wx (t wx)) := by
  refine ⟨?_⟩
  intro wx F Fr env l σ H Q tk hE hR ht pins s I
  refine wpAny_Call_Name_kw (ld_glob I hg hm ?_ hdb)
  refine PySem.W.callWith_K (h₀ := X.base) I.ok.mod.kin hk (thn (ha.run wx F Fr env l σ H _ tk hE hR ht pos pins s I) fun us s1 ⟨vs, H1, I1, r, F1, ds, l1, s1', r1, R1, q1⟩ => ⟨I1.kIn, ?_⟩) he hpl
  exact thn (run_fnX (us := us) (vs := vs) G hr hgd hb I1 r r1 R1 (takes_mono s1' tk) (hE.mono s1') q1.run) fun u s3 q3 => EP.mono (fun v H q => q.weak s1') q3
def xMeth (c : Cl) (sp : (D → LH → Prop) → DSp) (wx : DWish) (to : DTE) (t : DTA) : DTE := fun env l Q => to env l fun x l1 => atIns x l1 c fun _ _ => t env l1 fun ds l2 => callD (sp (wx env)) (x :: ds) l2 Q
def xMeth0 (c : Cl) (sp : (D → LH → Prop) → DSp) (wx : DWish) (to : DTE) : DTE := fun env l Q => to env l fun x l1 => atIns x l1 c fun _ _ => callD (sp (wx env)) [x] l1 Q
theorem dx_meth {pl : Sem Bool} (hC : PySem.W.nsIn X.K mainGlobals c.name = some (some (.ref C))) (cl : Cls X.K C) (hm : Meth X.K C m g) (hnf : c.fs.contains m = false) (G : FnX X.prog X.w X.K X.mg X.base k g fd ps dsp) (hr : Room k X.A) (hgd : X.A.guards = some []) (hb : Binds X.K fd ps []) (ho : DE X o to) (ha : DXA X (e :: es) t)
    (hst : starEach (e :: es) X.env = (false, eval e X.env) :: starEach es X.env := by rfl) (hpl : (backTo pos (starEach es X.env)).any (·.1) = false := by rfl)
    (ht : eval (.Call (.Attribute o m apos) (e :: es) [] pos) X.env = (do
      let ov ← eval o X.env
      standAt apos.atName
      let (f, first) ← holding [ov] (getMethod ov m pl)
      callWith pos f first (backTo pos (starEach (e :: es) X.env)) (backToKw pos (keywordEach [] X.env))) := by rfl) :
    DXE X (.Call (.Attribute o m apos) (e :: es) [] pos) (fun wx => xMeth c dsp wx to (t wx)) := by
  refine ⟨?_⟩
  intro wx F Fr env l σ H Q tk hE hR htt pins s I
  refine PySem.W.methodCall_KW (pl := pl) (thn (ho F Fr env l σ H _ hE hR htt pins s I) fun u s1 ⟨x, H1, I1, rx, F1, d, l1, s1', rd, R1, q1⟩ => ?_) ht
  obtain ⟨a, ds, dx, vs, rfl, rfl, q, hl0, rr, hl, hH⟩ := atIns_ok hC R1 rd q1
  obtain rfl : u = Value.ref a := rx
  refine getmeth_ok I1 hH cl hm (lookup_zip_none (fun z => by rw [List.contains_iff_mem.mpr z] at hnf; cases hnf)) ?_
  refine PySem.W.callWith_K (first := [.ref a]) (h₀ := X.base) I.ok.mod.kin hm.kp (thn (ha.run wx F1 Fr env l1 σ H1 _ (takes_mono s1' tk) (hE.mono s1') R1 q pos pins s1 I1) fun us s2 ⟨vs, H2, I2, r, F2, ds2, l2, s2', r2, R2, q2⟩ => ⟨I2.kIn, ?_⟩) hst hpl
  exact thn (run_fnX (us := .ref a :: us) (vs := .ref a :: vs) G hr hgd hb I2 (.cons rfl r) (.cons (.ref a) r2) R2 (takes_mono (s1'.trans s2') tk) (hE.mono (s1'.trans s2')) q2.run) fun u s3 q3 => EP.mono (fun v H q => q.weak (s1'.trans s2')) q3
theorem dx_meth0 {pl : Sem Bool} (hC : PySem.W.nsIn X.K mainGlobals c.name = some (some (.ref C))) (cl : Cls X.K C) (hm : Meth X.K C m g) (hnf : c.fs.contains m = false) (G : FnX X.prog X.w X.K X.mg X.base k g fd ps dsp) (hr : Room k X.A) (hgd : X.A.guards = some []) (hb : Binds X.K fd ps []) (ho : DE X o to)
    (ht : eval (.Call (.Attribute o m apos) [] [] pos) X.env = (do
      let ov ← eval o X.env
      standAt apos.atName
      let (f, first) ← holding [ov] (getMethod ov m pl)
      callWith pos f first (backTo pos (starEach [] X.env)) (backToKw pos (keywordEach [] X.env))) := by rfl) :
    DXE X (.Call (.Attribute o m apos) [] [] pos) (fun wx => xMeth0 c dsp wx to) := by
  refine ⟨?_⟩
  intro wx F Fr env l σ H Q tk hE hR htt pins s I
  refine PySem.W.methodCall_KW (pl := pl) (thn (ho F Fr env l σ H _ hE hR htt pins s I) fun u s1 ⟨x, H1, I1, rx, F1, d, l1, s1', rd, R1, q1⟩ => ?_) ht
  obtain ⟨a, ds, dx, vs, rfl, rfl, q, hl0, rr, hl, hH⟩ := atIns_ok hC R1 rd q1
  obtain rfl : u = Value.ref a := rx
  refine getmeth_ok I1 hH cl hm (lookup_zip_none (fun z => by rw [List.contains_iff_mem.mpr z] at hnf; cases hnf)) ?_
  refine PySem.W.callWith_K0 (first := [.ref a]) I1.kIn hm.kp ?_
  exact thn (run_fnX (us := [.ref a]) (vs := [.ref a]) G hr hgd hb I1 (.cons rfl .nil) (.cons (.ref a) .nil) R1 (takes_mono s1' tk) (hE.mono s1') q.run) fun u s3 q3 => EP.mono (fun v H q => q.weak s1') q3
/-- C(..) -/
def xMake (c : Cl) (sp : (D → LH → Prop) → DSp) (wx : DWish) (t : DTA) : DTE := fun env l Q => t env l fun ds l1 => ∀ a, l1 a = none → callD (sp (wx env)) (.ref a :: ds) (uL l1 a (.ins c [])) fun v l2 => v = .non ∧ Q (.ref a) l2
theorem dx_make (hC : PySem.W.nsIn X.K mainGlobals c.name = some (some (.ref C))) (M : Mk X.K C g) (G : FnX X.prog X.w X.K X.mg X.base k g fd ps dsp) (hr : Room (k + 1) X.A) (hgd : X.A.guards = some []) (hg : Gl X x) (hmg : X.mg x = some (.ref C)) (hb : Binds X.K fd ps []) (ha : DXA X (e :: es) t)
    (hdb : (x == ("__debug__" : Str)) = false := by decide) (he : starEach (e :: es) X.env = (false, eval e X.env) :: starEach es X.env := by rfl) (hpl : (backTo pos (starEach es X.env)).any (·.1) = false := by rfl) :
    DXE X (.Call (.Name x p) (e :: es) [] pos) (fun wx => xMake c dsp wx (t wx)) := by
  refine ⟨?_⟩
  intro wx F Fr env l σ H Q tk hE hR ht pins s I
  refine wpAny_Call_Name_kw (ld_glob I hg hmg ?_ hdb)
  refine PySem.W.callWith_K (h₀ := X.base) I.ok.mod.kin M.kp (thn (ha.run wx F Fr env l σ H _ tk hE hR ht pos pins s I) fun us s1 ⟨vs, H1, I1, r, F1, ds, l1, s1', r1, R1, q1⟩ => ⟨I1.kIn, ?_⟩) he hpl
  have n1 : H1 (s1.heap.objs.size + 1) = none := I1.hok.fresh (Nat.le_succ _)
  have n0 : H1 s1.heap.objs.size = none := I1.hok.fresh (Nat.le_refl _)
  have I2 := Inv.made (C := C) I1
  have R2 : Rep X.K F1 Fr (uL l1 (s1.heap.objs.size + 1) (.ins c [])) (upd (upd H1 s1.heap.objs.size (.own (s1.heap.objs.size + 1))) (s1.heap.objs.size + 1) (.ins C s1.heap.objs.size [])) :=
    (R1.extra n0 _).made ((upd_ne (Nat.succ_ne_self _)).trans n1) (show DOk X.K F1 _ _ (.ins c []) from ⟨C, _, [], .nil, hC, Nat.zero_le _, by rw [upd_same, List.zip_nil_right]⟩)
  have q2 := (q1 (s1.heap.objs.size + 1) (R1.l_none n1)).run
  have r2 : Vals (V.ref (s1.heap.objs.size + 1) :: vs) (Value.ref (s1.heap.objs.size + 1) :: us) := .cons rfl r
  have hsp : spOfX X.K dsp (V.ref (s1.heap.objs.size + 1) :: vs) _ (fun v H2 => v = .non ∧ LK X.K F1 Fr Q (.ref (s1.heap.objs.size + 1)) H2) (LXE X.K F1 Fr (wx env)) :=
    ⟨F1, Fr, _, _, _, wx env, .cons (.ref _) r1, R2, q2, fun v H' ⟨F3, d3, l3, s3, r3, R3, e3, q3⟩ => by
      subst e3
      cases r3
      exact ⟨rfl, F3, _, l3, s3, .ref _, R3, q3⟩, fun _ _ _ z => z⟩
  have hl : (Value.ref (s1.heap.objs.size + 1) :: us).length = ps.length := by
    have e := r2.length
    rw [← e, List.length_cons, ← r1.length, ← List.length_cons (a := D.ref (s1.heap.objs.size + 1))]
    exact G.len _ _ _ _ q2
  have hbd := hb _ (Value.ref (s1.heap.objs.size + 1) :: us) I2.kIn (by rw [List.append_nil]; exact hl)
  rw [List.append_nil] at hbd
  refine wpAny_call (make_map (f := g) I1.kIn M.makes M.init (beq_iff_eq.mp M.fn) (codeAny_mono (G.run _ X.stack _ _ ⟨Value.ref (s1.heap.objs.size + 1) :: us, []⟩ (Value.ref (s1.heap.objs.size + 1) :: us) _ _ _ (hr.make C us []) hgd
    (I2.env0.make C us []) hbd r2 hsp) fun res s' hq' => ?_))
  cases res with
  | error u => exact tk u s' (XE.of_call I2 (fun cls d H' ⟨F', l', x', s2, R', er, w⟩ => ⟨F', env, l', x', s1'.trans s2, hE.mono (s1'.trans s2), R', er, w⟩) hq')
  | ok fl =>
    cases fl with
    | ret u =>
      obtain ⟨v, H', I3, rv, ev, q3⟩ := I2.after hq'
      subst ev
      exact ⟨rv, ⟨V.ref (s1.heap.objs.size + 1), H', I3, rfl, q3.weak s1'⟩⟩
    | next => exact False.elim hq'
    | brk => exact False.elim hq'
    | cont => exact False.elim hq'
end
end DL

namespace DL
open PySem PySem.Spec PyProof.Rows L2
/-! ### argument lists, displays, statements -/
section
variable {X : Cx} {e : Expr} {es : List Expr} {te : DWish → DTE} {u : DWish → DTA} {pos : Pos} {st : Stmt} {rest : List Stmt} {t v : DWish → DTS}
theorem dxa_nil : DXA X [] (fun _ => aNil) := dx_a da_nil
theorem dxa_cons (ha : DXE X e te) (hr : DXA X es u) (hs : starEach (e :: es) X.env = (false, eval e X.env) :: starEach es X.env := by rfl) : DXA X (e :: es) (fun wx => aCons (te wx) (u wx)) := by
  refine ⟨?_⟩
  intro wx F Fr env l σ H Q tk he hR ht
  refine (pa_cons peW paW hs).wa ?_
  refine (ha.run wx F Fr env l σ H _ tk he hR ht).mono fun x H1 ⟨F1, d, l1, s1, r1, R1, q1⟩ => ?_
  refine (hr.run wx F1 Fr env l1 σ H1 _ (takes_mono s1 tk) (he.mono s1) R1 q1).mono fun xs H2 ⟨F2, ds, l2, s2, r2, R2, q2⟩ => ?_
  exact ⟨F2, d :: ds, l2, s1.trans s2, .cons (r1.mono s2) r2, R2, q2⟩
theorem dx_tup {x1} (h : DXA X es u) : DXE X (.Tuple es x1 pos) (fun wx => dTup (u wx)) := by
  refine ⟨?_⟩
  intro wx F Fr env l σ H Q tk he hR ht
  refine (pe_tup paW).we ?_
  refine (h.run wx F Fr env l σ H _ tk he hR ht).mono fun x H1 ⟨F1, ds, l1, s1, r1, R1, q1, q2⟩ => ?_
  exact ⟨by rw [← r1.length]; exact q1, fun p np => (LK.tup np R1 r1 q2).weak s1⟩
theorem dx_lst (h : DXA X es u) : DXE X (.List es pos) (fun wx => dLst (u wx)) := by
  refine ⟨?_⟩
  intro wx F Fr env l σ H Q tk he hR ht
  refine (pe_lst paW).we ?_
  refine (h.run wx F Fr env l σ H _ tk he hR ht).mono fun x H1 ⟨F1, ds, l1, s1, r1, R1, q1, q2⟩ => ?_
  exact ⟨by rw [← r1.length]; exact q1, fun p np => (LK.lst np R1 r1 q2).weak s1⟩
theorem dx_lstM (h : DXA X es u) : DXE X (.List es pos) (fun wx => dLstM (u wx)) := by
  refine ⟨?_⟩
  intro wx F Fr env l σ H Q tk he hR ht
  refine (pe_lst paW).we ?_
  refine (h.run wx F Fr env l σ H _ tk he hR ht).mono fun x H1 ⟨F1, ds, l1, s1, r1, R1, q1, q2⟩ => ?_
  exact ⟨by rw [← r1.length]; exact q1, fun p np => (LK.mut np R1 r1 q2).weak s1⟩
theorem dx_op {a b : Expr} {ta tb : DWish → DTE} {op : Operator} {r : R2} {k : D → D → LH → DK → Prop} (ho : OpR X (binaryOp op) r) (hk : KOp X r k) (ha : DXE X a ta) (hb : DXE X b tb) : DXE X (.BinOp a op b pos) (fun wx => dOp k (ta wx) (tb wx)) := by
  refine ⟨?_⟩
  intro wx F Fr env l σ H Q tk he hR ht
  refine (pe_op ho peW peW).we ?_
  refine (ha.run wx F Fr env l σ H _ tk he hR ht).mono fun x H1 ⟨F1, d, l1, s1, r1, R1, q1⟩ => ?_
  refine (hb.run wx F1 Fr env l1 σ H1 _ (takes_mono s1 tk) (he.mono s1) R1 q1).mono fun y H2 ⟨F2, d2, l2, s2, r2, R2, q2⟩ => ?_
  exact hk F2 Fr l2 H2 Q d d2 x y _ R2 (r1.mono s2) r2 (fun v H q => q.weak (s1.trans s2)) q2
theorem dx_add {a b : Expr} {ta tb : DWish → DTE} (ha : DXE X a ta) (hb : DXE X b tb) : DXE X (.BinOp a .Add b pos) (fun wx => dAdd (ta wx) (tb wx)) := dx_op op_add4 kAdd_ok ha hb
theorem dxs_one (h : DXS X st t) : DXSs X [st] t := ⟨fun wx F Fr env l σ H E tk he hr ht => (pss_one psW).wss (h.run wx F Fr env l σ H E tk he hr ht)⟩
theorem dxs_cons (h1 : DXS X st t) (h2 : DXSs X rest v) : DXSs X (st :: rest) (fun wx => sSeq (t wx) (v wx)) := by
  refine ⟨?_⟩
  intro wx F Fr env l σ H E tk he hr ht
  refine (pss_cons psW pssW).wss ?_
  refine (h1.run wx F Fr env l σ H _ tk he hr ht).mono (fun σ1 H1 ⟨F1, env1, l1, s1, he1, R1, q1⟩ => ?_) (fun _ _ q => q) (fun _ _ q => q) (fun _ _ q => q)
  exact (h2.run wx F1 Fr env1 l1 σ1 H1 E (takes_mono s1 tk) he1 R1 q1).mono (fun _ _ q => LS.weak s1 q) (fun _ _ q => LK.weak s1 q) (fun _ _ q => LS.weak s1 q) (fun _ _ q => LS.weak s1 q)
theorem dxs_nS {sts : List Stmt} (h : DXSs X sts t) : DXSs X sts (fun wx => nS (t wx)) := ⟨fun wx F Fr env l σ H E tk he hr ht => h.run wx F Fr env l σ H E tk he hr ht.run⟩
theorem dxs_ret (h : DXE X e te) : DXS X (.Return (some e) pos) (fun wx => sRet (te wx)) := ⟨fun wx F Fr env l σ H E tk he hr ht => (ps_ret peW).ws (h.run wx F Fr env l σ H _ tk he hr ht)⟩
theorem dxs_expr (h : DXE X e te) (hs : swapsWith e none pos.line X.env = pure false := by rfl) : DXS X (.Expr e pos) (fun wx => sExpr (te wx)) := by
  refine ⟨?_⟩
  intro wx F Fr env l σ H E tk he hr ht
  refine (ps_expr peW hs).ws ?_
  exact (h.run wx F Fr env l σ H _ tk he hr ht).mono fun x H1 ⟨F1, d, l1, s1, r1, R1, q1⟩ => ⟨F1, env, l1, s1, he.mono s1, R1, q1⟩
theorem dxs_if {c : Expr} {a b : List Stmt} {tt : DTT} (hc : DT X c tt) (ha : DXSs X a t) (hb : DXSs X b v) : DXS X (.If c a b pos) (fun wx => sIf tt (t wx) (v wx)) := by
  refine ⟨?_⟩
  intro wx F Fr env l σ H E tk he hr ht
  refine (ps_if ptW pssW pssW).ws ?_
  refine (hc F Fr env l σ H _ he hr ht).mono fun x H1 ⟨F1, l1, s1, R1, q1⟩ => ?_
  cases x with
  | true => exact L2.iteT ((ha.run wx F1 Fr env l1 σ H1 E (takes_mono s1 tk) (he.mono s1) R1 (ifB_T q1)).mono (fun _ _ q => LS.weak s1 q) (fun _ _ q => LK.weak s1 q) (fun _ _ q => LS.weak s1 q) (fun _ _ q => LS.weak s1 q))
  | false => exact L2.iteF ((hb.run wx F1 Fr env l1 σ H1 E (takes_mono s1 tk) (he.mono s1) R1 (ifB_F q1)).mono (fun _ _ q => LS.weak s1 q) (fun _ _ q => LK.weak s1 q) (fun _ _ q => LS.weak s1 q) (fun _ _ q => LS.weak s1 q))
theorem dxs_asg {tg : Expr} {g : DTG} {vs : List Nat} (h : DXE X e te) (hg : DG X tg vs g) (hs : swapsWithSole [tg] e pos.line X.env = pure false := by rfl) (hw : swappedStores [tg] e X.env = pure none := by rfl)
    (h1 : (assignEach [tg] X.env).map (·.2) = [assign tg X.env] := by rfl) : DXS X (.Assign [tg] e pos) (fun wx => sAsg (te wx) g) := by
  refine ⟨?_⟩
  intro wx F Fr env l σ H E tk he hr ht
  refine (ps_asg peW pgW hs hw h1).ws ?_
  refine (h.run wx F Fr env l σ H _ tk he hr ht).mono fun x H1 ⟨F1, d, l1, s1, r1, R1, q1⟩ => ?_
  exact (hg F1 Fr env l1 σ H1 _ _ _ (he.mono s1) R1 r1 q1).mono fun σ2 H2 ⟨_, q2⟩ => LS.weak s1 q2
theorem dxs_set {i : Nat} {x : Str} {pos' : Pos} (hN : X.N.Nodup) (hi : X.N[i]? = some x) (hx : Loc X.env.scope x) (h : DXE X e te) (hs : swapsWith e (some (.Name x pos')) pos.line X.env = pure false := by rfl) (hf : X.fn x = true ∨ X.env.scope.names.lookup x = some .local := by first | exact .inl rfl | exact .inr rfl | assumption) : DXS X (.Assign [.Name x pos'] e pos) (fun wx => sSet i (te wx)) := by
  refine ⟨?_⟩
  intro wx F Fr env l σ H E tk he hr ht
  refine (ps_set hN hi hx peW hs hf).ws ?_
  refine (h.run wx F Fr env l σ H _ tk he hr ht).mono fun x H1 ⟨F1, d, l1, s1, r1, R1, q1⟩ => ?_
  replace q1 : setK env i d fun env' => E.nx env' l1 := q1
  rw [setK_eq] at q1
  exact ⟨F1, _, l1, s1, (he.mono s1).set r1 i, R1, q1⟩
theorem dxs_for {tg iter : Expr} {body : List Stmt} {ti : DTI} {g : DTG} {tb : DWish → DTS} {vs : List Nat} (hp : PassesOwn (model X.prog X.w) X.A X.env X.xe) (hc : X.calm = true) (hi : DI X tg iter ti) (hg : DG X tg vs g) (hb : DXSs X body tb)
    (hs : ∀ x, foldedSetIterable iter X.env x = pure x := by intro _; rfl) : DXS X (.For tg iter body [] pos) (fun wx => sFor ti g (tb wx)) := by
  refine ⟨?_⟩
  intro wx F Fr env l σ H E tk he hr ht
  refine (ps_for hp hc piW pgW pssW hs).ws ?_
  refine (hi F Fr env l σ H _ he hr ht).mono fun J H1 ⟨F1, l1, ds, s1, R1, jk, q1⟩ => ?_
  refine ⟨fun i m σ H => m = ds.length - i ∧ i ≤ ds.length ∧ ∃ F' env l, Same F1 F' ∧ RepE X.K F' env σ ∧ Rep X.K F' Fr l H ∧ forL g (tb wx) (ds.drop i) E env l, ⟨_, rfl, Nat.zero_le _, F1, env, l1, Same.refl _, he.mono s1, R1, q1⟩, ?_⟩
  rintro i m σ H ⟨rfl, hi, F2, env, l, s2, he2, R2, q2⟩
  obtain ⟨j1, j2⟩ := jk i F2 Fr l H s2 R2
  by_cases hlt : i < ds.length
  · rw [List.drop_eq_getElem_cons hlt] at q2
    obtain ⟨go, y⟩ := j2 ds[i] (List.getElem?_eq_getElem hlt)
    refine .inr ⟨go, fun σ H => ∃ F' env l, Same F1 F' ∧ RepE X.K F' env σ ∧ Rep X.K F' Fr l H ∧ forL g (tb wx) (ds.drop (i + 1)) E env l, fun σ' H' h => ⟨_, by omega, rfl, hlt, h⟩, fun x H' hy => ?_⟩
    obtain ⟨F3, s3, rx, R3⟩ := y x H' hy
    refine (hg F3 Fr env l σ H' _ _ _ (he2.mono s3) R3 rx q2).mono fun σ4 H4 ⟨_, F4, env4, l4, s4, he4, R4, q4⟩ => ?_
    have S : Same F1 F4 := s2.trans (s3.trans s4)
    refine (hb.run wx F4 Fr env4 l4 σ4 H4 _ (takes_mono (s1.trans S) tk) he4 R4 q4).mono (fun σ5 H5 q => ?_) (fun _ _ q => LK.weak (s1.trans S) q) (fun _ _ q => LS.weak (s1.trans S) q) (fun σ5 H5 q => ?_)
    · obtain ⟨F5, env5, l5, s5, he5, R5, q5⟩ := q
      exact ⟨F5, env5, l5, S.trans s5, he5, R5, q5⟩
    · obtain ⟨F5, env5, l5, s5, he5, R5, q5⟩ := q
      exact ⟨F5, env5, l5, S.trans s5, he5, R5, q5⟩
  · have e : i = ds.length := by omega
    subst e
    rw [List.drop_length] at q2
    exact .inl ⟨j1 (Nat.le_refl _), F2, env, l, s1.trans s2, he2, R2, q2⟩
theorem dxs_while {c : Expr} {body : List Stmt} {tt : DTT} {tb : DWish → DTS} (hp : PassesOwn (model X.prog X.w) X.A X.env X.xe) (hc : DT X c tt) (hb : DXSs X body tb) : DXS X (.While c body [] pos) (fun wx => sWhile tt (tb wx)) := by
  refine ⟨?_⟩
  intro wx F Fr env l σ H E tk he hr ht
  obtain ⟨W, ⟨m, w0⟩, step⟩ := ht
  refine (ps_while hp ptW pssW).ws ?_
  refine ⟨fun m σ H => ∃ F' env l, Same F F' ∧ RepE X.K F' env σ ∧ Rep X.K F' Fr l H ∧ W m env l, ⟨m, F, env, l, Same.refl F, he, hr, w0⟩, ?_⟩
  rintro m σ H ⟨F1, env, l, s1, he1, R1, w1⟩
  refine (hc F1 Fr env l σ H _ he1 R1 (step m env l w1)).mono fun x H1 ⟨F2, l2, s2, R2, q2⟩ => ?_
  have S := s1.trans s2
  cases x with
  | true =>
    refine L2.iteT ⟨fun σ H => ∃ m', m' < m ∧ ∃ F' env l, Same F F' ∧ RepE X.K F' env σ ∧ Rep X.K F' Fr l H ∧ W m' env l, fun σ' H' h => h, ?_⟩
    refine (hb.run wx F2 Fr env l2 σ H1 _ (takes_mono S tk) (he1.mono s2) R2 (ifB_T q2)).mono (fun σ5 H5 q => ?_) (fun _ _ q => LK.weak S q) (fun _ _ q => LS.weak S q) (fun σ5 H5 q => ?_)
    · obtain ⟨F5, env5, l5, s5, he5, R5, m', hm, q5⟩ := q
      exact ⟨m', hm, F5, env5, l5, S.trans s5, he5, R5, q5⟩
    · obtain ⟨F5, env5, l5, s5, he5, R5, m', hm, q5⟩ := q
      exact ⟨m', hm, F5, env5, l5, S.trans s5, he5, R5, q5⟩
  | false => exact L2.iteF ⟨F2, env, l2, S, he1.mono s2, R2, ifB_F q2⟩
end

/-! ### raise -/
/-- what is asked of a class of exceptions that has no __init__ of its own -/
structure XCls (K : PySem.W.Frag) (C : Addr) : Prop where
  ex : PySem.W.excIn K C [.type "ValueError", .type "Exception", .type "BaseException", .type "object"] "ValueError.__new__" = true
  kp : PySem.W.keepIn K (.ref C) = true
  sub : PySem.W.subIn K (.ref C) (.type "BaseException") = some true
  ty : PySem.W.typeIn K (.ref C) = some (.type "type")
/-- what isinstance asks of a class of exceptions -/
structure XIs (K : PySem.W.Frag) (C : Addr) : Prop where
  cl : (PySem.W.clsIn K C).isSome = true
  ga : PySem.W.findIn K (.ref C) "__getattribute__" = some (some (.builtin "BaseException.__getattribute__"))
  gt : PySem.W.findIn K (.ref C) "__getattr__" = some none
  sub : PySem.W.subIn K (.ref C) (.type "BaseException") = some true
  ha : PySem.W.findIn K (.ref C) "__class__" = some (some (.builtin "object.__class__"))
  hn : PySem.W.specialIn K (.builtin "object.__class__") "__get__" = some (some (.builtin "getset_descriptor.__get__"))
  htk : PySem.W.takesIn K (.builtin "object.__class__") = some true
  hm : PySem.W.mroIn K C (.type "object") = some true
section
variable {X : Cx} {x m : Str} {C : Addr} {k j : Nat} {p p2 pos pos' : Pos}
def xRaise (k : Nat) (wx : DWish) : DTS := fun _ env l => wx env (.exc k) l
theorem dxs_raise (k : Nat) (hc : X.calm = true) (gC : X.mg x = some (.ref C)) (hns : PySem.W.nsIn X.K mainGlobals (exN k) = some (some (.ref C))) (T : XCls X.K C) (hg : Gl X x) (hdb : (x == ("__debug__" : Str)) = false := by decide) :
    DXS X (.Raise (some (.Call (.Name x p) [.Constant (.str m) j p2] [] pos)) none pos') (fun wx => xRaise k wx) := by
  refine ⟨?_⟩
  intro wx F Fr env l σ H E tk he hr ht
  exact (ps_raise hc tk (pmk_own PySem.F.excBase_ValueError T.ex gC T.kp (raises_own T.sub T.ty) hg hdb)).ws (D := LE X.K F Fr E) ⟨F, env, l, .exc k, Same.refl F, he, hr, ⟨C, hns, rfl, rfl⟩, ht⟩
end

/-! ### what a table says of the classes -/
def exL : List (Nat × Bool) → Nat → (Bool → Prop) → Prop
  | [], _, _ => False
  | (j, b) :: r, k, Q => match Nat.beq j k with
    | true => Q b
    | false => exL r k Q
def exTab (tab : List (Nat × Bool)) (x : D) (Q : Bool → Prop) : Prop := match x with
  | .exc k => exL tab k Q
  | .exc1 k _ => exL tab k Q
  | _ => False
def XTab (K : PySem.W.Frag) (P : Addr → Bool → Prop) : List (Nat × Bool) → Prop
  | [] => True
  | (k, b) :: r => (∃ C, PySem.W.nsIn K mainGlobals (exN k) = some (some (.ref C)) ∧ P C b) ∧ XTab K P r
theorem exL_ok {K : PySem.W.Frag} {P : Addr → Bool → Prop} {k : Nat} {Q : Bool → Prop} : ∀ {tab : List (Nat × Bool)}, XTab K P tab → exL tab k Q → ∃ b C, PySem.W.nsIn K mainGlobals (exN k) = some (some (.ref C)) ∧ P C b ∧ Q b
  | [], _, q => q.elim
  | (j, b) :: r, ⟨⟨C, h1, h2⟩, t⟩, q => by
    unfold exL at q
    cases e : Nat.beq j k with
    | true =>
      rw [e] at q
      have e' : j = k := Nat.eq_of_beq_eq_true e
      subst e'
      exact ⟨b, C, h1, h2, q⟩
    | false =>
      rw [e] at q
      exact exL_ok t q
theorem exTab_ok {K : PySem.W.Frag} {F : Hp} {P : Addr → Bool → Prop} {x : D} {cls : Value} {d : Option Addr} {Q : Bool → Prop} {tab : List (Nat × Bool)} (T : XTab K P tab) (er : ExRel K F x cls d) (q : exTab tab x Q) : ∃ b C, cls = .ref C ∧ P C b ∧ Q b := by
  cases x with
  | exc k =>
    obtain ⟨C, h1, rfl, rfl⟩ := er
    obtain ⟨b, C', h1', h2, q⟩ := exL_ok T q
    rw [h1] at h1'
    cases h1'
    exact ⟨b, _, rfl, h2, q⟩
  | exc1 k e =>
    obtain ⟨C, dx, v, h1, rfl, _⟩ := er
    obtain ⟨b, C', h1', h2, q⟩ := exL_ok T q
    rw [h1] at h1'
    cases h1'
    exact ⟨b, _, rfl, h2, q⟩
  | _ => exact er.elim

/-! ### try: the exception that is caught is tracked from then on -/
section
variable {X : Cx} {pins : List (Addr × Obj)} {σ : St} {H : Hp} {s : Shared}
theorem Inv.track {a : Addr} {oe : Obj} {vs : Array Value} {cls : Value} {d : Option Addr} (I : Inv X pins σ H s) (ha : s.heap.get? a = some oe) (hc : oe.cls = cls) (hdd : oe.dict = d) (hd : oe.data = .fields vs) (na : H a = none) (nL : a ≠ X.env.locals) (n0 : X.s_0.heap.get? a = none)
    (np : ∀ p ∈ X.pn ++ pins, p.1 ≠ a) : Inv X pins σ (upd H a (ExH cls d a)) s := by
  refine ⟨I.ok, I.os, I.bare, ⟨I.base.keep, I.base.slot, fun b o e n hx => ?_, I.base.there, fun b xs e => ?_, fun b o u e => ?_, fun b ps e => ?_⟩, I.loc, I.cell, ?_, fun y c e => ?_, fun p hp => ?_, fun b o e => ?_, I.len⟩
  · rw [upd_ne (fun z => by rw [z, n0] at e; cases e)]
    exact I.base.free b o e n hx
  · have q := I.base.tups b xs e
    rw [upd_ne (ne_of_none q na)]
    exact q
  · have q := I.base.frzs b o u e
    rw [upd_ne (ne_of_none q na)]
    exact q
  · obtain ⟨m, q⟩ := I.base.tbls b ps e
    exact ⟨m, by rw [upd_ne (ne_of_none q na)]; exact q⟩
  · rw [upd_ne (Ne.symm nL)]
    exact I.free
  · obtain ⟨v, o, ho, hv⟩ := I.cell y c e
    rw [upd_ne (fun z => by rw [z, ha] at ho; cases ho; rw [hd] at hv; cases hv)]
    exact I.freeC y c e
  · obtain ⟨h1, h2, h3⟩ := I.pin p hp
    exact ⟨h1, by rw [upd_ne (np p hp)]; exact h2, h3⟩
  · by_cases hb : b = a
    · subst hb
      rw [upd_same] at e
      cases e
      exact ⟨⟨oe, vs, ha, hc, hdd, hd⟩, ⟨oe, ha⟩, fun _ _ ⟨o, v, q, r⟩ k => ⟨o, v, k o q, r⟩⟩
    · rw [upd_ne hb] at e
      exact (I.hok b o e).stay (fun c u _ q => q) (fun c q => by rw [upd_ne (ne_of_none q na)]; exact q) fun c xs q => by rw [upd_ne (ne_of_none q na)]; exact q
theorem Inv.suite0 (I : Inv X pins σ H s) (a : Addr) : Inv (X.suite a (X.pn ++ pins)) [] σ H s :=
  ⟨I.ok.suite _ _, I.os, I.bare, I.base, I.loc, I.cell, I.free, I.freeC, fun p hp => I.pin p (by rw [List.append_nil] at hp; exact hp), I.hok, I.len⟩
theorem Inv.unsuite0 {a : Addr} {pn' : List (Addr × Obj)} (I : Inv (X.suite a (X.pn ++ pins)) pn' σ H s) (ok : X.Ok) : Inv X pins σ H s :=
  ⟨ok, I.os, I.bare, I.base, I.loc, I.cell, I.free, I.freeC, fun p hp => I.pin p (List.mem_append_left _ hp), I.hok, I.len⟩
end
def wKeep (K : PySem.W.Frag) (c : Value) (i : Nat) (ts : Addr → TS) (Wout : WX) (D : Ends) : WX := fun cls d σ H =>
  ∃ b, PySem.W.exmOne K cls c = some b ∧ (b = true → ∀ a, H a = none → ts a { nx := fun σ' H' => D.nx (σ'.set i none) H', rt := D.rt, bk := fun σ' H' => D.bk (σ'.set i none) H', ct := fun σ' H' => D.ct (σ'.set i none) H' } (σ.set i (some (.ref a))) (upd H a (ExH cls d a))) ∧
    (b = false → Wout cls d σ H)
section
variable {X : Cx} {x n : Str} {c : Value} {i : Nat} {body suite : List Stmt} {b₀ : Stmt} {np pos pos' : Pos} {tb : WX → TS} {ts : Addr → TS} {Wout : WX}
theorem ps_try_keep (hs : X.stack = X.env :: X.outer) (hf : X.env.frame = some X.env.locals) (hN : X.N.Nodup) (hi : X.N[i]? = some n) (hln : X.env.kindOf n = some .local) (hc : Names X x c) (hex : X.ex = []) (tk : Takes X Wout)
    (hb : ∀ (W : WX) (pn : List (Addr × Obj)) (xe : Value → Shared → Prop), Takes (X.tr pn xe) W → PassesOwn (model X.prog X.w) X.A X.env xe → PSs (X.tr pn xe) body (tb W))
    (hsu : ∀ (a : Addr) (pn : List (Addr × Obj)), PSs (X.suite a pn) (b₀ :: suite) (ts a)) :
    PS X (.Try body [.ExceptHandler (some (.Name x np)) (some n) (b₀ :: suite) pos'] [] [] pos) (fun D σ H => tb (wKeep X.K c i ts Wout D) D σ H) := by
  refine ⟨fun pins s σ H D I h => ?_⟩
  have ok := I.ok
  have hfr : X.A.frames = some (X.env :: X.outer) := by rw [ok.frames, hs]
  have hloc : Loc X.env.scope n := .inl hln
  refine wpAny_Try_except ?_
  refine wpAny_mono ((hb (wKeep X.K c i ts Wout D) (X.pn ++ pins) (fun e s₁ => wpAny (model X.prog X.w) X.A (noteFrame e X.env) (fun _ s₂ => wpAny (model X.prog X.w) X.A (setFlight e none) (fun _ s₃ =>
    wpAny (model X.prog X.w) X.A (handleBy e X.env [.ExceptHandler (some (.Name x np)) (some n) (b₀ :: suite) pos']) (SP X pins D) X.xe s₃) X.xe s₂) X.xe s₁) (fun u s' xx => ?_) PassesOwn.looking).run [] s σ H D (I.toTry _) h) (fun f s1 hsp => ?_) (fun e s1 he => he)
  · -- the catch
    obtain ⟨a, B, sI, pins', σ', H', cls, d, rfl, J', nb, up, sky, na, os, ag, b, hb1, hyes, hno⟩ := xx
    have J : Inv X pins σ' H' sI := J'.ofTry ok
    have sky' : Sky B (X.env :: X.outer) a (Zc cls d) X.env.locals s'.heap := by rw [← hs]; exact sky
    show wpAny (model X.prog X.w) X.A (noteFrame (.ref a) X.env) _ _ _
    refine Sky.land Zc.steady hfr hf sky' fun h3 fl3 up3 => ?_
    have J3 : Inv X pins σ' H' { s' with heap := h3 } := J.landed nb fl3.1 (up.trans up3) os ag
    obtain ⟨oe3, vs3, he3, hz3, hd3⟩ := fl3.there
    have notFr : ∀ {h : Heap} {o : Obj} {vs : Array Value}, h.FunFrames B (X.env :: X.outer) → h.get? a = some o → o.data = .fields vs → a ∉ frs (X.env :: X.outer) := fun {h o vs} ff e dd hm => by
      obtain ⟨_, o', e', hnf⟩ := ff.mem hm
      rw [e] at e'; cases e'
      exact hnf _ dd
    have nfr := notFr fl3.2.2.1 he3 hd3
    have nL : a ≠ X.env.locals := fun z => nfr (List.mem_filterMap.mpr ⟨X.env, List.mem_cons_self, by rw [hf, z]⟩)
    have nI : sI.heap.get? a = none := by
      cases q : sI.heap.get? a with
      | none => rfl
      | some o =>
        have z := nb a o q (by rw [show frs X.stack = frs (X.env :: X.outer) from by rw [hs]]; exact nfr)
        rw [fl3.2.1] at z
        cases z
    have n0 : X.s_0.heap.get? a = none := by
      cases q : X.s_0.heap.get? a with
      | none => rfl
      | some o =>
        obtain ⟨o', z⟩ := J.base.there a o q (by rw [hex]; exact fun z => nomatch z)
        rw [nI] at z
        cases z
    have npin : ∀ p ∈ X.pn ++ pins, p.1 ≠ a := fun p hp z => by
      have q := (J.pin p hp).1
      rw [z, nI] at q
      cases q
    have S3 := Inv.suite0 J3 a
    refine wpAny_handleBy_cons (codeAny_handlers_test ?_) (by intro q; cases q)
    have LT : PySem.W.Looks (model X.prog X.w) h3 (typeOf (.ref a)) cls := fun A Q E s k q => wpAny_typeOf_ref (k _ _ he3) (by rw [hz3.1]; exact q)
    have LM := PySem.W.exm_one (M := model X.prog X.w) (J3.kIn) LT hb1
    have test : ∀ {Q : Value → Shared → Prop} {E : Value → Shared → Prop}, Q c { s' with heap := h3 } → wpAny (model X.prog X.w) (X.A.mark (some (.ref a))) (eval (.Name x np) X.env) Q E { s' with heap := h3 } := fun {Q E} q => by
      obtain ⟨hg, hdbg, hm | ⟨hm, hv, hnn⟩⟩ := hc
      · exact ld_glob (X := X.suite a (X.pn ++ pins)) S3 hg hm q hdbg
      · exact ld_blt (X := X.suite a (X.pn ++ pins)) S3 hg hm hv q hnn hdbg
    refine test (LM.here ?_)
    cases b with
    | true =>
      refine codeAny_handlers_suite_as ?_
      refine HandSPX.lands_againZ fl3 fun h4 fl4 up4 => ?_
      have J4 : Inv X pins σ' H' { s' with heap := h4 } := J.landed nb fl4.1 ((up.trans up3).trans up4) os ag
      obtain ⟨oe4, vs4, he4, hz4, hd4⟩ := fl4.there
      have S4 := Inv.suite0 (Inv.track J4 he4 hz4.1 hz4.2 hd4 na nL n0 npin) a
      refine store_ok (X := X.suite a (X.pn ++ pins)) (v := .ref a) S4 hN hi hloc rfl (fun s5 S5 => ?_) (.inr hln)
      refine wpAny_mono ((hsu a (X.pn ++ pins)).run [] s5 _ _ _ S5 (hyes rfl a na)) (fun f s6 hsp => ?_) (fun _ _ z => False.elim z)
      have end_ : ∀ {σ6 : St} {H6 : Hp} {Q : Shared → Prop}, Inv (X.suite a (X.pn ++ pins)) [] σ6 H6 s6 → (∀ s7, Inv X pins (σ6.set i none) H6 s7 → Q s7) →
          wpAny (model X.prog X.w) X.A (do bindName X.env n .none; unbindBehindTheSuite X.env n pos') (fun _ s7 => Q s7) X.xe s6 := fun {σ6 H6 Q} S6 hq => gone_ok (Inv.unsuite0 S6 ok) hN hi hln hq
      cases f with
      | next =>
        obtain ⟨σ6, H6, S6, q6⟩ := hsp
        exact end_ S6 fun s7 J7 => ⟨_, _, J7, q6⟩
      | brk =>
        obtain ⟨σ6, H6, S6, q6⟩ := hsp
        exact end_ S6 fun s7 J7 => ⟨_, _, J7, q6⟩
      | cont =>
        obtain ⟨σ6, H6, S6, q6⟩ := hsp
        exact end_ S6 fun s7 J7 => ⟨_, _, J7, q6⟩
      | ret u =>
        obtain ⟨v6, σ6, H6, S6, r6, q6⟩ := hsp
        exact end_ S6 fun s7 J7 => ⟨_, _, _, J7, r6, q6⟩
    | false =>
      show wpAny _ X.A (handleBy (.ref a) X.env []) _ _ _
      refine wpAny_handleBy_nil ?_
      obtain ⟨k1, k2, k3, oe, vs, T, oT, ts', he, hz, hd, h1, hr⟩ := id fl3
      unfold PySem.passOn
      refine wpAny_bind (wpAny_field he hd h1 ?_)
      rw [if_neg (show ¬ ((Value.ref T == Value.none) = true) from by simp)]
      have fin : wpAny (model X.prog X.w) X.A (setFlight (.ref a) X.env.frame) (fun _ s4 => wpAny (model X.prog X.w) X.A (throw (.ref a) : Sem Flow) (SP X pins D) X.xe s4) X.xe { s' with heap := h3 } := by
        rw [hf]
        refine HandSPX.setFlight_upZ fl3 fun h4 hh4 up4 => wpAny_throw (tk _ _ ?_)
        exact ⟨a, B, sI, pins, σ', H', cls, d, rfl, J, nb, (up.trans up3).trans up4, .inr (.inr (by rw [hs]; exact hh4)), na, os, ag, hno rfl⟩
      first
        | exact wpAny_bind (wpAny_pure (wpAny_bind fin))
        | exact wpAny_bind fin
  · cases f with
    | next =>
      obtain ⟨σ', H', J', q⟩ := hsp
      exact wpAny_execs_nil ⟨σ', H', J'.ofTry ok, q⟩
    | brk =>
      obtain ⟨σ', H', J', q⟩ := hsp
      exact ⟨σ', H', J'.ofTry ok, q⟩
    | cont =>
      obtain ⟨σ', H', J', q⟩ := hsp
      exact ⟨σ', H', J'.ofTry ok, q⟩
    | ret u =>
      obtain ⟨v, σ', H', J', r, q⟩ := hsp
      exact ⟨v, σ', H', J'.ofTry ok, r, q⟩
end
section
variable {X : Cx} {x n : Str} {c : Value} {i : Nat} {body suite : List Stmt} {b₀ : Stmt} {np pos pos' : Pos} {tb : DWish → DTS} {ts : DTS} {tab : List (Nat × Bool)}
def xTry (tab : List (Nat × Bool)) (i : Nat) (tb : DWish → DTS) (ts : DTS) (wx : DWish) : DTS := fun E env l => tb (fun env' x l' => exTab tab x fun b => match b with
  | true => setK env' i x fun env2 => ts ⟨fun e l => clrK e i fun e' => E.nx e' l, E.rt, fun e l => clrK e i fun e' => E.bk e' l, fun e l => clrK e i fun e' => E.ct e' l⟩ env2 l'
  | false => wx env' x l') E env l
theorem LS.clr {K : PySem.W.Frag} {F F1 Fr : Hp} (s : Same F F1) {Q : DSt → LH → Prop} {σ : St} {H : Hp} (q : LS K F1 Fr (fun e l => clrK e i fun e' => Q e' l) σ H) : LS K F Fr Q (σ.set i none) H := by
  obtain ⟨F2, e, l, s2, re, R, q⟩ := q
  rw [clrK_eq] at q
  exact ⟨F2, _, l, s.trans s2, re.clr i none, R, q⟩
theorem dxs_try (hs : X.stack = X.env :: X.outer) (hf : X.env.frame = some X.env.locals) (hN : X.N.Nodup) (hi : X.N[i]? = some n) (hln : X.env.kindOf n = some .local) (hc : Names X x c) (hex : X.ex = []) (T : XTab X.K (fun C b => PySem.W.exmOne X.K (.ref C) c = some b) tab)
    (hb : ∀ (pn : List (Addr × Obj)) (xe : Value → Shared → Prop), PassesOwn (model X.prog X.w) X.A X.env xe → DXSs (X.tr pn xe) body tb) (hsu : ∀ (a : Addr) (pn : List (Addr × Obj)), DSs (X.suite a pn) (b₀ :: suite) ts) :
    DXS X (.Try body [.ExceptHandler (some (.Name x np)) (some n) (b₀ :: suite) pos'] [] [] pos) (fun wx => xTry tab i tb ts wx) := by
  refine ⟨?_⟩
  intro wx F Fr env l σ H E tk he hr ht
  refine (ps_try_keep (tb := fun W D σ H => ∀ (pn : List (Addr × Obj)) (xe : Value → Shared → Prop), Takes (X.tr pn xe) W → PassesOwn (model X.prog X.w) X.A X.env xe → WSs (X.tr pn xe) body D σ H)
    (ts := fun a D σ H => ∀ pn : List (Addr × Obj), WSs (X.suite a pn) (b₀ :: suite) D σ H) hs hf hN hi hln hc hex tk
    (fun W pn xe tk hp => ⟨fun pins s σ H D I h => h pn xe tk hp pins s I⟩) (fun a pn => ⟨fun pins s σ H D I h => h pn pins s I⟩)).ws ?_
  intro pn xe tk' hp
  refine (hb pn xe hp).run _ F Fr env l σ H E (tk'.imp ?_) he hr ht
  rintro cls d σ' H' ⟨F', env', l', y, s, re, R, er, w⟩
  obtain ⟨b, C, rfl, hm, w⟩ := exTab_ok T er w
  refine ⟨b, hm, fun e a na pn => ?_, fun e => ?_⟩
  · subst e
    have w : setK env' i y _ := w
    rw [setK_eq] at w
    have nF := R.F_none na
    refine ((hsu a pn) _ Fr _ l' _ _ _ ((re.mono (same_upd nF)).set (er.rel nF) i) (R.laid na _) w).mono (fun _ _ q => ?_) (fun _ _ q => ?_) (fun _ _ q => ?_) (fun _ _ q => ?_)
    · exact LS.clr (s.trans (same_upd nF)) q
    · exact LK.weak (s.trans (same_upd nF)) q
    · exact LS.clr (s.trans (same_upd nF)) q
    · exact LS.clr (s.trans (same_upd nF)) q
  · subst e
    exact ⟨F', env', l', y, s, re, R, er, w⟩
end

/-! ### isinstance of an exception -/
def NameV (X : Cx) (y : Str) (u : Value) : Prop := ((∃ C, u = .ref C ∧ X.mg y = some (.ref C)) ∨ (∃ T, u = .type T ∧ X.mg y = none ∧ bootBuiltins y = some (.type T) ∧ y ≠ "__name__")) ∧ Gl X y ∧ (y == ("__debug__" : Str)) = false
def vOf : Value → V
  | .ref a => .ref a
  | .type n => .ty n
  | _ => .non
def NamesV (X : Cx) : List Expr → List Value → Prop
  | [], [] => True
  | .Name y _ :: es, u :: us => NameV X y u ∧ NamesV X es us
  | _, _ => False
section
variable {X : Cx}
theorem nameV_pe {y : Str} {p : Pos} {u : Value} (h : NameV X y u) : PE X (.Name y p) (fun _ H Q => Q (vOf u) H) ∧ ClsV (vOf u) u := by
  obtain ⟨h | h, hg, hd⟩ := h
  · obtain ⟨C, rfl, hm⟩ := h
    exact ⟨pe_glob (v := .ref C) hg hm rfl hd, .own C⟩
  · obtain ⟨T, rfl, hm, hv, hn⟩ := h
    exact ⟨pe_bltn (v := .ty T) hg hm hv rfl hn hd, .ty T⟩
theorem namesV_pa : ∀ {es : List Expr} {us : List Value}, NamesV X es us → PA X es (fun _ H Q => Q (us.map vOf) H) ∧ Paired ClsV (us.map vOf) us
  | [], [], _ => ⟨⟨fun pos pins s σ H Q I h => pa_nil.run pos pins s σ H Q I h⟩, .nil⟩
  | .Name y p :: es, u :: us, h => by
    obtain ⟨h1, h2⟩ := nameV_pe (p := p) h.1
    obtain ⟨h3, h4⟩ := namesV_pa h.2
    exact ⟨⟨fun pos pins s σ H Q I q => (pa_cons h1 h3 (by rfl)).run pos pins s σ H Q I q⟩, .cons h2 h4⟩
  | [], _ :: _, h => h.elim
  | .Name _ _ :: _, [], h => h.elim
/-- an exception that is tracked -/
theorem excAt {pins : List (Addr × Obj)} {σ : St} {H : Hp} {s : Shared} {p C : Addr} {dx : Option Addr} (I : Inv X pins σ H s) (e : H p = some (ExH (.ref C) dx p)) (hd : ∀ a, dx = some a → ∃ fs, H a = some (.xd fs)) : ∃ oe od, PySem.W.InstAt s.heap p oe C od := by
  obtain ⟨⟨oe, vs, h1, h2, h3, h4⟩, _⟩ := I.hok p _ e
  have hno : PySem.W.notCls oe = true := by
    obtain ⟨c, d, dt, sl⟩ := oe
    dsimp only at h4
    subst h4
    rfl
  cases dx with
  | none => exact ⟨oe, none, h1, h2, hno, by rw [h3]; trivial⟩
  | some a =>
    obtain ⟨fs, ha⟩ := hd a rfl
    obtain ⟨mA, ⟨o, es, ep, ho, _⟩, _⟩ := I.hok a _ ha
    exact ⟨oe, some o, h1, h2, hno, by rw [h3]; exact ho⟩
/-- isinstance(e, C), isinstance(e, (C, ..)) -/
def rIsX (K : PySem.W.Frag) : List V → Hp → VK → Prop := fun xs H Q => ∃ (p C : Addr) (dx : Option Addr) (b : Bool), H p = some (ExH (.ref C) dx p) ∧ (∀ a, dx = some a → ∃ fs, H a = some (.xd fs)) ∧ XIs K C ∧ Q (.bl b) H ∧
  ((∃ u, xs = [.ref p, vOf u] ∧ ClsV (vOf u) u ∧ PySem.W.kitOne K (.ref C) u = some b) ∨ ∃ tp us, xs = [.ref p, .ref tp] ∧ H tp = some (.tup (us.map vOf)) ∧ Paired ClsV (us.map vOf) us ∧ PySem.W.kitAny K (.ref C) us = some b)
theorem call_isX : CallR X (.builtin "isinstance") (rIsX X.K) := by
  intro pins s σ H xs us Q I r h
  obtain ⟨p, C, dx, b, hp, hdx, T, q, h | h⟩ := h
  · obtain ⟨u, rfl, k, e⟩ := h
    obtain ⟨u1, u2, rfl, r1, r2⟩ := vals2 r
    cases (show u1 = Value.ref p from r1)
    have e2 := k.eq r2
    subst e2
    obtain ⟨oe, od, A⟩ := excAt I hp hdx
    exact PySem.W.kia_one (PySem.W.kitx_exc T.cl T.ga T.gt T.sub T.ha T.hn T.htk T.hm) I.kIn A e (fun z => nomatch z) fun tk => ⟨.bl b, H, I.tok tk, rfl, q⟩
  · obtain ⟨tp, ws, rfl, hT, k, e⟩ := h
    obtain ⟨u1, u2, rfl, r1, r2⟩ := vals2 r
    cases (show u1 = Value.ref p from r1)
    cases (show u2 = Value.ref tp from r2)
    obtain ⟨oe, od, A⟩ := excAt I hp hdx
    obtain ⟨_, its, rv, o, h1, h2, n, h3⟩ := (show ObjOk X.prog X.w H s.heap tp (.tup (ws.map vOf)) from I.hok tp _ hT)
    have e3 := ClsV.all k rv
    subst e3
    obtain ⟨oc, od', dt, sl⟩ := o
    simp only at h2 h3
    subst h2 h3
    exact PySem.W.kia_tup (PySem.W.kitx_exc T.cl T.ga T.gt T.sub T.ha T.hn T.htk T.hm) I.kIn A h1 e (fun z => nomatch z) fun tk => ⟨.bl b, H, I.tok tk, rfl, q⟩
def dIsX (tab : List (Nat × Bool)) (te : DTE) : DTE := fun env l Q => te env l fun x l1 => exTab tab x fun b => Q (.bl b) l1
theorem exRel_of {K : PySem.W.Frag} {F : Hp} {x : D} {v : V} {tab : List (Nat × Bool)} {Q : Bool → Prop} (r : RelD K F x v) (q : exTab tab x Q) : ∃ p C dx, v = .ref p ∧ F p = some (ExH (.ref C) dx p) ∧ (∀ a, dx = some a → ∃ fs, F a = some (.xd fs)) ∧ ExRel K F x (.ref C) dx := by
  cases r with
  | exc h1 h2 => exact ⟨_, _, none, rfl, h2, (fun a z => nomatch z), _, h1, rfl, rfl⟩
  | exc1 h1 h2 h3 h4 => exact ⟨_, _, some _, rfl, h2, (fun a z => by cases z; exact ⟨_, h3⟩), _, _, _, h1, rfl, rfl, h3, h4⟩
  | _ => exact q.elim
variable {e : Expr} {te : DTE} {tab : List (Nat × Bool)} {y : Str} {p p2 p3 pos : Pos} {es : List Expr} {us : List Value} {u : Value}
theorem de_isX1 (hg : Gl X "isinstance") (hm : X.mg "isinstance" = none) (hv : bootBuiltins "isinstance" = some (.builtin "isinstance")) (hy : NameV X y u) (T : XTab X.K (fun C b => XIs X.K C ∧ PySem.W.kitOne X.K (.ref C) u = some b) tab) (h : DE X e te)
    (he : starEach (e :: [.Name y p2]) X.env = (false, eval e X.env) :: starEach [.Name y p2] X.env := by rfl) : DE X (.Call (.Name "isinstance" p) [e, .Name y p2] [] pos) (dIsX tab te) := by
  refine ⟨?_⟩
  intro F Fr env l σ H Q hE hR ht
  obtain ⟨hp, hk⟩ := nameV_pe (p := p2) hy
  refine (pe_callB call_isX hg hm hv (pa_cons peW (pa_cons hp pa_nil) he) (by decide) (by decide) he).we ?_
  refine (h F Fr env l σ H _ hE hR ht).mono fun x H1 ⟨F1, d, l1, s1, r1, R1, q1⟩ => ?_
  obtain ⟨q, C, dx, rfl, h1, h2, er⟩ := exRel_of r1 q1
  obtain ⟨b, C', hC, ⟨T1, T2⟩, q2⟩ := exTab_ok T er q1
  cases hC
  exact ⟨q, C, dx, b, R1.fz _ _ h1, fun a z => let ⟨fs, z⟩ := h2 a z; ⟨fs, R1.fz _ _ z⟩, T1, ⟨F1, _, l1, s1, .bl b, R1, q2⟩, .inl ⟨u, rfl, hk, T2⟩⟩
theorem de_isXT {c : Nat} (hg : Gl X "isinstance") (hm : X.mg "isinstance" = none) (hv : bootBuiltins "isinstance" = some (.builtin "isinstance")) (hy : NamesV X es us) (hl : us.length < 1000) (T : XTab X.K (fun C b => XIs X.K C ∧ PySem.W.kitAny X.K (.ref C) us = some b) tab) (h : DE X e te)
    (he : starEach (e :: [.Tuple es c p2]) X.env = (false, eval e X.env) :: starEach [.Tuple es c p2] X.env := by rfl) : DE X (.Call (.Name "isinstance" p) [e, .Tuple es c p2] [] pos) (dIsX tab te) := by
  refine ⟨?_⟩
  intro F Fr env l σ H Q hE hR ht
  obtain ⟨hp, hk⟩ := namesV_pa hy
  refine (pe_callB call_isX hg hm hv (pa_cons peW (pa_cons (pe_tup hp) pa_nil) he) (by decide) (by decide) he).we ?_
  refine (h F Fr env l σ H _ hE hR ht).mono fun x H1 ⟨F1, d, l1, s1, r1, R1, q1⟩ => ?_
  obtain ⟨q, C, dx, rfl, h1, h2, er⟩ := exRel_of r1 q1
  obtain ⟨b, C', hC, ⟨T1, T2⟩, q2⟩ := exTab_ok T er q1
  cases hC
  refine ⟨by rw [List.length_map]; exact Nat.le_of_lt (Nat.lt_of_lt_of_le hl (by decide)), fun tp np => ?_⟩
  have R2 := R1.laid np (.tup (us.map vOf))
  have nF := R1.F_none np
  exact ⟨q, C, dx, b, R2.fz _ _ (same_upd nF _ _ h1), fun a z => let ⟨fs, z⟩ := h2 a z; ⟨fs, R2.fz _ _ (same_upd nF _ _ z)⟩, T1, ⟨_, _, l1, s1.trans (same_upd nF), .bl b, R2, q2⟩, .inr ⟨tp, us, rfl, upd_same, hk, T2⟩⟩
end
/-! ### a list that may be written, frozen and remembered -/
def fzL (d : D) (l : LH) (k : DK) : Prop := match d with
  | .ref a => getO l a fun o => match o with
    | .lst ds => k (.lst ds) (uL l a (.fz (.lst ds)))
    | .fz d => k d l
    | _ => False
  | d => k d l
def dFzL (te : DTE) : DTE := fun env l Q => te env l fun d l1 => fzL d l1 Q
theorem de_fzL {X : Cx} {e : Expr} {te : DTE} (h : DE X e te) : DE X e (dFzL te) := by
  refine ⟨?_⟩
  intro F Fr env l σ H Q hE hR ht
  refine (h F Fr env l σ H _ hE hR ht).mono fun x H1 ⟨F1, d, l1, s1, r1, R1, q1⟩ => ?_
  have plain : ∀ {d' : D}, d' = d → Q d' l1 → LK X.K F Fr Q x H1 := fun e q => by subst e; exact ⟨F1, _, l1, s1, r1, R1, q⟩
  cases d with
  | ref a =>
    obtain ⟨o, ho, q⟩ := q1
    cases r1
    cases o with
    | lst ds =>
      obtain ⟨vs, rr, h1⟩ := (R1.lv _ _ ho).2
      have n := (R1.lv _ _ ho).1 rfl
      exact ⟨upd F1 a (.lst vs), .lst ds, _, s1.trans (same_upd n), relLst n rr, (R1.freeze ho rfl h1).keepFz (relLst n rr) upd_same, q⟩
    | fz d => exact ⟨F1, d, l1, s1, (R1.lv _ _ ho).2.1, R1, q⟩
    | _ => exact q.elim
  | _ => exact plain rfl q1
end DL

namespace DL
open PySem PySem.Spec PyProof.Rows L2
theorem cls_of_mro {K : PySem.W.Frag} {C : Addr} {v : Value} {b : Bool} (h : PySem.W.mroIn K C v = some b) : (PySem.W.clsIn K C).isSome = true := by
  unfold PySem.W.mroIn at h
  cases q : PySem.W.clsIn K C with
  | none => rw [q] at h; cases h
  | some cd => rfl
/-! ### str of a list of lists that may be written, as they stand -/
section
variable {X : Cx} {k : Nat} {e : Expr} {te : DTE} {p pos : Pos}
def kStrN : List D → LH → DK → Prop := fun ds l Q => match ds with
  | [d] => resN d l fun d => strOk d ∧ Q (.str (toPy d).shown) l
  | _ => False
theorem kStrN_ok : KCall X (rStr X.K) kStrN := by
  intro F Fr l H Q ds vs Q' R rd hq q
  cases rd with
  | nil => exact q.elim
  | cons r1 rr =>
    cases rr with
    | cons _ _ => exact q.elim
    | nil =>
      replace q : resN _ l fun d => strOk d ∧ Q (.str (toPy d).shown) l := q
      obtain ⟨d', ⟨hk, q⟩, h⟩ := resN_ok R r1 q
      exact ⟨_, _, rfl, h hk.lay.1, hk.sq, hk.lay.1, hk.sh, hk.sz, hk.lay.2, hq _ _ (LK.mk (.str _) R q)⟩
theorem de_strN (hr : Room k X.A) (hgd : X.A.guards = some []) (hg : Gl X "str") (hm : X.mg "str" = none) (h : DE X e te) (he : starEach [e] X.env = (false, eval e X.env) :: starEach [] X.env := by rfl) : DE X (.Call (.Name "str" p) [e] [] pos) (dCall kStrN (aCons te aNil)) :=
  de_callT (call_strSeq hr hgd) kStrN_ok hg hm (by decide +kernel) (da_cons h da_nil he) (by decide) (by decide) he
end
end DL

/-! what may be written is borrowed by an expression that tells a tuple of simple things -/
namespace DL
open PySem PySem.Spec PyProof.Rows L2
def tupI : D → Bool
  | .non | .bl _ | .int _ | .str _ => true
  | .tup ds => ds.all simpD
  | _ => false
def dBorT (ix : List Nat) (t : DTE) : DTE := fun env l Q => borK l (fun env (_ : Unit) => t env (fun _ => none) fun d _ => tupI d = true ∧ Q d l) () ix env
noncomputable def tupH (F F2 : Hp) : Hp := fun b => match F2 b with | some (.tup vs) => some (.tup vs) | _ => F b
theorem tupH_cases {F F2 : Hp} {b : Addr} {o : HO} (h : tupH F F2 b = some o) : (∃ vs, F2 b = some (.tup vs) ∧ o = .tup vs) ∨ F b = some o := by
  unfold tupH at h
  split at h
  · rename_i vs e
    cases h
    exact .inl ⟨vs, e, rfl⟩
  · exact .inr h
theorem tupH_tup {F F2 : Hp} {b : Addr} {vs : List V} (h : F2 b = some (.tup vs)) : tupH F F2 b = some (.tup vs) := by
  unfold tupH
  rw [h]
theorem tupH_none {F F2 : Hp} {b : Addr} (h : ∀ vs, F2 b ≠ some (.tup vs)) : tupH F F2 b = F b := by
  unfold tupH
  split
  · rename_i vs e
    exact absurd e (h vs)
  · rfl
theorem tupH_same {F F2 : Hp} (s : Same F F2) : Same F (tupH F F2) := fun b o e => by
  unfold tupH
  split
  · rename_i vs e2
    rw [s _ _ e] at e2
    exact e2.symm
  · exact e
theorem simp_rel {K : PySem.W.Frag} {F F' : Hp} {d : D} {v : V} (h : simpD d = true) (r : RelD K F d v) : RelD K F' d v := by
  cases r with
  | non => exact .non
  | bl b => exact .bl b
  | int b => exact .int b
  | str b => exact .str b
  | _ => cases h
theorem simp_rels {K : PySem.W.Frag} {F F' : Hp} : ∀ {ds : List D} {vs : List V}, ds.all simpD = true → RelDs K F ds vs → RelDs K F' ds vs
  | [], _, _, .nil => .nil
  | d :: ds, _, h, .cons a b => by
    rw [List.all_cons, Bool.and_eq_true] at h
    exact .cons (simp_rel h.1 a) (simp_rels h.2 b)
theorem tup_rel {K : PySem.W.Frag} {F F2 : Hp} {d : D} {v : V} (h : tupI d = true) (r : RelD K F2 d v) : RelD K (tupH F F2) d v := by
  cases r with
  | non => exact .non
  | bl b => exact .bl b
  | int b => exact .int b
  | str b => exact .str b
  | tup a b => exact .tup (tupH_tup a) (simp_rels h b)
  | _ => cases h
theorem dok_notup {K : PySem.W.Frag} {F H : Hp} {b : Addr} {o : DO} {vs : List V} (f : isFz o = false) (h : DOk K F H b o) (e : H b = some (.tup vs)) : False := by
  cases o with
  | lst ds => obtain ⟨vs, _, z⟩ := h; rw [e] at z; cases z
  | dT ks ds => obtain ⟨vs, _, _, z⟩ := h; rw [e] at z; cases z
  | dK ks ds => obtain ⟨vs, _, _, z⟩ := h; rw [e] at z; cases z
  | ins c ds => obtain ⟨C, dx, vs, _, _, _, z⟩ := h; rw [e] at z; cases z
  | fz d => cases f
theorem Bor.backT {K : PySem.W.Frag} {F Fr H F1 : Hp} {l : LH} {F2 H' : Hp} {l' : LH} (R : Rep K F Fr l H) (B : Bor F l H F1) (s : Same F1 F2) (R' : Rep K F2 (frB Fr H F1 l) l' H') : Rep K (tupH F F2) Fr l H' := by
  have R0 := B.back R s R'
  have fs : Same F F2 := fun b o e => s b o (B.up b o e)
  refine ⟨fun b o e => ?_, R0.fr, fun b o e => ?_, fun b o e => ?_, R0.ft⟩
  · rcases tupH_cases e with ⟨vs, e2, rfl⟩ | e2
    · exact R'.fz b _ e2
    · exact R0.fz b o e2
  · obtain ⟨h1, h2⟩ := R.fd b o e
    refine ⟨?_, h2⟩
    have h3 : frB Fr H F1 l b = some o := by
      unfold frB
      rw [if_neg (fun z => z.1 h2)]
      exact e
    rw [tupH_none (fun vs z => by rw [(R'.fd b o h3).1] at z; cases z)]
    exact h1
  · obtain ⟨h1, h2⟩ := R0.lv b o e
    refine ⟨fun f => ?_, h2.mono (tupH_same fs) rfl⟩
    rw [tupH_none (fun vs z => dok_notup f h2 (R'.fz b _ z))]
    exact h1 f
section
variable {X : Cx} {e : Expr} {te : DTE}
theorem de_borT {ix : List Nat} (h : DE X e te) : DE X e (dBorT ix te) := by
  refine ⟨?_⟩
  intro F Fr env l σ H Q hE hr ht
  refine bor_run hr (fun env F1 B hE q => ?_) ix env F .refl hE ht
  refine (h F1 _ env _ σ H _ hE (B.rep hr) q).mono fun v H1 ⟨F2, d, l2, s2, r2, R2, q1, q2⟩ => ?_
  exact ⟨tupH F F2, d, l, tupH_same fun b o e => s2 b o (B.up b o e), tup_rel q1 r2, B.backT hr s2 R2, q2⟩
end
/-! the same, but some objects may be read within -/
def tupL : D → Bool
  | .lst xs => xs.all tupI && xs.any fun d => !simpD d
  | d => tupI d
def tupV : D → Bool
  | .ref _ => true
  | d => tupL d
def tupO : DO → Bool
  | .lst ds => ds.all tupV
  | .dT _ ds => ds.all tupV
  | .dK _ ds => ds.all tupV
  | .ins _ ds => ds.all tupV
  | .fz _ => false
def stL (l : LH) (S : Addr → Bool) : LH := fun b => cond (S b) (l b) none
theorem stL_in {l : LH} {S : Addr → Bool} {b : Addr} (h : S b = true) : stL l S b = l b := by unfold stL; rw [h]; rfl
theorem stL_out {l : LH} {S : Addr → Bool} {b : Addr} (h : S b = false) : stL l S b = none := by unfold stL; rw [h]; rfl
/-- the borrowed ones are lists of simple things -/
def borS {β : Type} (l : LH) (S : Addr → Bool) (run : DSt → β → Prop) (k : β) : List Nat → DSt → Prop
  | [], env => run env k
  | i :: ix, env => match nthE env i with
    | some (.ref a) => getO l a fun o => match o with | .lst ds => S a = false ∧ ds.all simpD = true ∧ borS l S run k ix (env.set i (some (.lst ds))) | _ => False
    | _ => borS l S run k ix env
/-- S: what may be read -/
def BorOk (l : LH) (S : Addr → Bool) : Prop := ∀ a, S a = true → ∃ o, l a = some o ∧ tupO o = true
def tBorS (ix : List Nat) (t : DTT) : DTT := fun env l Q => ∃ S : Addr → Bool, BorOk l S ∧ borS l S (fun env (_ : Unit) => t env (stL l S) fun c l2 => (∀ a, S a = true → l2 a = l a) ∧ Q c l) () ix env
def dBorS (ix : List Nat) (t : DTE) : DTE := fun env l Q => ∃ S : Addr → Bool, BorOk l S ∧ borS l S (fun env (_ : Unit) => t env (stL l S) fun d l2 => (∀ a, S a = true → l2 a = l a) ∧ tupI d = true ∧ Q d l) () ix env
def nref (vs : List V) : Bool := vs.all fun v => match v with | .ref _ => false | _ => true
theorem nref_of {K : PySem.W.Frag} {F : Hp} : ∀ {ds : List D} {vs : List V}, ds.all simpD = true → RelDs K F ds vs → nref vs = true
  | [], _, _, .nil => rfl
  | d :: ds, _, h, .cons a b => by
    rw [List.all_cons, Bool.and_eq_true] at h
    have ih := nref_of h.2 b
    unfold nref at ih ⊢
    rw [List.all_cons, ih]
    cases a with
    | non => rfl
    | bl b => rfl
    | int b => rfl
    | str b => rfl
    | _ => exact nomatch h.1
theorem nref_not {K : PySem.W.Frag} {F : Hp} : ∀ {ds : List D} {vs : List V}, ds.all tupI = true → (ds.any fun d => !simpD d) = true → RelDs K F ds vs → nref vs = true → False
  | [], _, _, h, .nil, _ => nomatch h
  | d :: ds, _, h, h2, .cons a b, n => by
    rw [List.all_cons, Bool.and_eq_true] at h
    unfold nref at n
    rw [List.all_cons, Bool.and_eq_true] at n
    rw [List.any_cons, Bool.or_eq_true] at h2
    rcases h2 with h2 | h2
    · cases a with
      | non => cases h2
      | bl b => cases h2
      | int b => cases h2
      | str b => cases h2
      | tup p q => exact nomatch n.1
      | _ => exact nomatch h.1
    · exact nref_not h.2 h2 b n.2
structure BorS (F : Hp) (l : LH) (S : Addr → Bool) (H F1 : Hp) : Prop where
  up : Same F F1
  of : ∀ b o, F1 b = some o → F b = some o ∨ (l b ≠ none ∧ S b = false ∧ H b = some o ∧ ∃ vs, o = .lst vs ∧ nref vs = true)
theorem BorS.refl {F : Hp} {l : LH} {S : Addr → Bool} {H : Hp} : BorS F l S H F := ⟨Same.refl F, fun _ _ e => .inl e⟩
/-- F2 without what was borrowed -/
def subH (F F1 F2 : Hp) : Hp := fun b => match F b, F1 b with
  | none, some _ => none
  | _, _ => F2 b
theorem subH_sub {F F1 F2 : Hp} {b : Addr} {o : HO} (h : subH F F1 F2 b = some o) : F2 b = some o := by
  unfold subH at h
  split at h
  · cases h
  · exact h
theorem subH_none {F F1 F2 : Hp} {b : Addr} (h : F2 b = none) : subH F F1 F2 b = none := by
  unfold subH
  split
  · rfl
  · exact h
theorem subH_bor {F F1 F2 : Hp} {b : Addr} (h : F b = none) (h1 : F1 b ≠ none ∨ F2 b = none) : subH F F1 F2 b = none := by
  unfold subH
  rw [h]
  cases q : F1 b with
  | some _ => rfl
  | none =>
    rcases h1 with z | z
    · exact absurd q z
    · exact z
theorem subH_same {F F1 F2 : Hp} (s : Same F F2) : Same F (subH F F1 F2) := fun b o e => by
  unfold subH
  rw [e]
  exact s b o e
section
variable {K : PySem.W.Frag} {F Fr H F1 F2 : Hp} {l : LH} {S : Addr → Bool}
theorem BorS.keep (B : BorS F l S H F1) (s : Same F1 F2) {p : Addr} {o : HO} (h : F2 p = some o) (hn : ∀ vs, o = .lst vs → nref vs = true → False) : subH F F1 F2 p = some o := by
  unfold subH
  cases e : F p with
  | some u => exact h
  | none =>
    cases e1 : F1 p with
    | none => exact h
    | some u =>
      have e2 := s _ _ e1
      rw [h] at e2
      cases e2
      rcases B.of p _ e1 with z | ⟨_, _, _, vs, z, n⟩
      · rw [e] at z; cases z
      · exact (hn vs z n).elim
theorem BorS.tupI (B : BorS F l S H F1) (s : Same F1 F2) {d : D} {v : V} (h : tupI d = true) (r : RelD K F2 d v) : RelD K (subH F F1 F2) d v := by
  cases r with
  | non => exact .non
  | bl b => exact .bl b
  | int b => exact .int b
  | str b => exact .str b
  | tup a b => exact .tup (B.keep s a fun vs e => nomatch e) (simp_rels h b)
  | _ => cases h
theorem BorS.tupIs (B : BorS F l S H F1) (s : Same F1 F2) : ∀ {ds : List D} {vs : List V}, ds.all DL.tupI = true → RelDs K F2 ds vs → RelDs K (subH F F1 F2) ds vs
  | [], _, _, .nil => .nil
  | d :: ds, _, h, .cons a b => by
    rw [List.all_cons, Bool.and_eq_true] at h
    exact .cons (B.tupI s h.1 a) (B.tupIs s h.2 b)
theorem BorS.tupV (B : BorS F l S H F1) (s : Same F1 F2) {d : D} {v : V} (h : tupV d = true) (r : RelD K F2 d v) : RelD K (subH F F1 F2) d v := by
  cases d with
  | ref a => cases r; exact .ref _
  | lst xs =>
    have h : (xs.all DL.tupI && xs.any fun d => !simpD d) = true := h
    rw [Bool.and_eq_true] at h
    cases r with
    | lst a b => exact .lst (B.keep s a fun vs e n => by cases e; exact nref_not h.1 h.2 b n) (B.tupIs s h.1 b)
  | _ => exact B.tupI s h r
theorem BorS.tupVs (B : BorS F l S H F1) (s : Same F1 F2) : ∀ {ds : List D} {vs : List V}, ds.all DL.tupV = true → RelDs K F2 ds vs → RelDs K (subH F F1 F2) ds vs
  | [], _, _, .nil => .nil
  | d :: ds, _, h, .cons a b => by
    rw [List.all_cons, Bool.and_eq_true] at h
    exact .cons (B.tupV s h.1 a) (B.tupVs s h.2 b)
theorem BorS.tupO (B : BorS F l S H F1) (s : Same F1 F2) {H' : Hp} {b : Addr} {o : DO} (h : tupO o = true) (x : DOk K F2 H' b o) : DOk K (subH F F1 F2) H' b o := by
  cases o with
  | lst ds => obtain ⟨vs, r, q⟩ := x; exact ⟨vs, B.tupVs s h r, q⟩
  | dT ks ds => obtain ⟨vs, r, n, q⟩ := x; exact ⟨vs, B.tupVs s h r, n, q⟩
  | dK ks ds => obtain ⟨vs, r, n, q⟩ := x; exact ⟨vs, B.tupVs s h r, n, q⟩
  | ins c ds => obtain ⟨C, dx, vs, r, z, n, q⟩ := x; exact ⟨C, dx, vs, B.tupVs s h r, z, n, q⟩
  | fz d => cases h
open Classical in
noncomputable def frS (S : Addr → Bool) (Fr H F1 : Hp) (l : LH) : Hp := fun b => if l b ≠ none ∧ S b = false ∧ F1 b = none then H b else Fr b
theorem BorS.rep (R : Rep K F Fr l H) (B : BorS F l S H F1) : Rep K F1 (frS S Fr H F1 l) (stL l S) H where
  fz := fun b o e => by
    rcases B.of b o e with q | ⟨_, _, q, _⟩
    · exact R.fz b o q
    · exact q
  fr := fun b o e => by
    unfold frS at e
    split at e
    · exact e
    · exact R.fr b o e
  fd := fun b o e => by
    unfold frS at e
    split at e
    · rename_i h; exact ⟨h.2.2, stL_out h.2.1⟩
    · obtain ⟨h1, h2⟩ := R.fd b o e
      refine ⟨?_, ?_⟩
      · cases q : F1 b with
        | none => rfl
        | some u =>
          rcases B.of b u q with z | ⟨z, _⟩
          · rw [h1] at z; cases z
          · exact absurd h2 z
      · unfold stL
        rw [h2]
        cases S b <;> rfl
  lv := fun b o e => by
    cases hS : S b with
    | false => rw [stL_out hS] at e; cases e
    | true =>
      rw [stL_in hS] at e
      obtain ⟨h1, h2⟩ := R.lv b o e
      refine ⟨fun f => ?_, h2.mono B.up rfl⟩
      cases q : F1 b with
      | none => rfl
      | some u =>
        rcases B.of b u q with z | ⟨_, z, _⟩
        · rw [h1 f] at z; cases z
        · rw [hS] at z; cases z
  ft := fun b vs e => by
    unfold frS at e
    split at e
    · rename_i h
      cases q : l b with
      | none => exact h.1 q
      | some x =>
        obtain ⟨h1, h2⟩ := R.lv b x q
        cases hx : isFz x with
        | false => exact dok_notup hx h2 e
        | true =>
          cases x with
          | fz d =>
            obtain ⟨_, u, z⟩ := h2
            rw [B.up _ _ z] at h
            exact nomatch h.2.2
          | _ => cases hx
    · exact R.ft b vs e
theorem BorS.back {H' : Hp} {l2 : LH} (R : Rep K F Fr l H) (B : BorS F l S H F1) (s : Same F1 F2) (R' : Rep K F2 (frS S Fr H F1 l) l2 H') (ok : BorOk l S) (same : ∀ a, S a = true → l2 a = l a) : Rep K (subH F F1 F2) Fr l H' where
  fz := fun b o e => R'.fz b o (subH_sub e)
  fr := fun b o e => by
    refine R'.fr b o ?_
    unfold frS
    rw [if_neg (fun z => z.1 (R.fd b o e).2)]
    exact e
  fd := fun b o e => by
    obtain ⟨h1, h2⟩ := R.fd b o e
    refine ⟨?_, h2⟩
    have h3 : frS S Fr H F1 l b = some o := by
      unfold frS
      rw [if_neg (fun z => z.1 h2)]
      exact e
    exact subH_none (R'.fd b o h3).1
  lv := fun b o e => by
    obtain ⟨h1, h2⟩ := R.lv b o e
    cases hS : S b with
    | true =>
      obtain ⟨o', e', ho⟩ := ok b hS
      rw [e] at e'
      cases e'
      obtain ⟨q1, q2⟩ := R'.lv b o ((same b hS).trans e)
      exact ⟨fun f => subH_none (q1 f), B.tupO s ho q2⟩
    | false =>
      have fs : Same F F2 := fun b o e => s b o (B.up b o e)
      obtain ⟨u, hu⟩ := h2.there R.fz
      have nl : l b ≠ none := by rw [e]; exact fun z => (nomatch z)
      have fb : F1 b = none → frS S Fr H F1 l b = some u := fun q => by
        unfold frS
        rw [if_pos ⟨nl, hS, q⟩]
        exact hu
      have hH : H' b = H b := by
        rw [hu]
        cases q : F1 b with
        | none => exact R'.fr b u (fb q)
        | some u' =>
          rcases B.of b u' q with z | ⟨_, _, z, _⟩
          · have z := R.fz b u' z
            rw [hu] at z; cases z
            exact R'.fz b u (s b u q)
          · rw [hu] at z; cases z
            exact R'.fz b u (s b u q)
      refine ⟨fun f => subH_bor (h1 f) ?_, h2.mono (subH_same fs) hH⟩
      cases q : F1 b with
      | some _ => exact .inl fun z => nomatch z
      | none => exact .inr (R'.fd b u (fb q)).1
  ft := R.ft
theorem borS_run {β : Type} {run : DSt → β → Prop} {k : β} {σ : St} {P : Prop} (R : Rep K F Fr l H) (hP : ∀ env F1, BorS F l S H F1 → RepE K F1 env σ → run env k → P) : ∀ (ix : List Nat) (env : DSt) (F1 : Hp), BorS F l S H F1 → RepE K F1 env σ → borS l S run k ix env → P
  | [], env, F1, B, hE, q => hP env F1 B hE q
  | i :: ix, env, F1, B, hE, q => by
    unfold borS at q
    split at q
    · rename_i a ha
      obtain ⟨o, ho, q⟩ := q
      cases o with
      | lst ds =>
        obtain ⟨hS, hd, q⟩ := q
        obtain ⟨v, hv, rv⟩ := hE.get ha
        cases rv
        obtain ⟨hF, vs, rd, hH⟩ := R.lv a _ ho
        have hF := hF rfl
        have B' : BorS F l S H (upd F1 a (.lst vs)) := by
          refine ⟨fun b o e => ?_, fun b o e => ?_⟩
          · rw [upd_ne (fun z => by subst z; rw [hF] at e; cases e)]
            exact B.up b o e
          · by_cases hb : b = a
            · subst hb
              rw [upd_same] at e; cases e
              exact .inr ⟨by rw [ho]; exact fun z => (nomatch z), hS, hH, vs, rfl, nref_of hd rd⟩
            · rw [upd_ne hb] at e
              exact B.of b o e
        have s1 : Same F1 (upd F1 a (.lst vs)) := fun b o e => by
          by_cases hb : b = a
          · subst hb
            rcases B.of b o e with z | ⟨_, _, z, _⟩
            · rw [hF] at z; cases z
            · rw [hH] at z; cases z
              exact upd_same
          · rw [upd_ne hb]; exact e
        exact borS_run R hP ix _ _ B' ((hE.mono s1).setD hv (.lst upd_same (rd.mono B'.up))) q
      | _ => exact q.elim
    · exact borS_run R hP ix env F1 B hE q
end
section
variable {X : Cx} {e : Expr} {te : DTE} {tt : DTT}
theorem dt_borS {ix : List Nat} (h : DT X e tt) : DT X e (tBorS ix tt) := by
  refine ⟨?_⟩
  intro F Fr env l σ H Q hE hr ⟨S, ok, ht⟩
  refine borS_run hr (fun env F1 B hE q => ?_) ix env F .refl hE ht
  refine (h F1 _ env _ σ H _ hE (B.rep hr) q).mono fun c H1 ⟨F2, l2, s2, R2, q1, q2⟩ => ?_
  exact ⟨subH F F1 F2, l, subH_same fun b o e => s2 b o (B.up b o e), B.back hr s2 R2 ok q1, q2⟩
theorem de_borS {ix : List Nat} (h : DE X e te) : DE X e (dBorS ix te) := by
  refine ⟨?_⟩
  intro F Fr env l σ H Q hE hr ⟨S, ok, ht⟩
  refine borS_run hr (fun env F1 B hE q => ?_) ix env F .refl hE ht
  refine (h F1 _ env _ σ H _ hE (B.rep hr) q).mono fun v H1 ⟨F2, d, l2, s2, r2, R2, q1, q2, q3⟩ => ?_
  exact ⟨subH F F1 F2, d, l, subH_same fun b o e => s2 b o (B.up b o e), B.tupI s2 q2 r2, B.back hr s2 R2 ok q1, q3⟩
end
end DL

namespace Law
open PySem PySem.Spec PyProof.Rows L2 DL
def topS (i : Nat) : Stmt := PySem.Challenge.pw_bracketwords_k25_rows_spelled.main.body.getD i (.Pass ⟨0, 0, 0, 0⟩)
abbrev s__law_folded : Stmt := topS 39
abbrev N__law_folded : List Str := ["_law_script", "_law_size", "_law_cells", "_law_k", "_law_cell"]
abbrev p__law_folded : List Str := ["_law_script", "_law_size"]
theorem sc__law_folded : FnScope N__law_folded p__law_folded (defScope s__law_folded) := ⟨rfl, rfl, rfl, by decide +kernel, rfl, by decide +kernel, by decide +kernel⟩
abbrev s__law_take : Stmt := topS 38
abbrev N__law_take : List Str := ["_law_box_here", "_law_size", "_law_found", "_law_step", "_law_once", "_law_twice"]
abbrev p__law_take : List Str := ["_law_box_here", "_law_size"]
theorem sc__law_take : FnScope N__law_take p__law_take (defScope s__law_take) := ⟨rfl, rfl, rfl, by decide +kernel, rfl, by decide +kernel, by decide +kernel⟩
abbrev s__law_sizes : Stmt := topS 40
abbrev N__law_sizes : List Str := ["_law_box_here", "_law_some"]
abbrev p__law_sizes : List Str := ["_law_box_here"]
theorem sc__law_sizes : FnScope N__law_sizes p__law_sizes (defScope s__law_sizes) := ⟨rfl, rfl, rfl, by decide +kernel, rfl, by decide +kernel, by decide +kernel⟩
abbrev s_next_turnword : Stmt := topS 26
abbrev N_next_turnword : List Str := ["word", "letters", "size", "longer"]
abbrev p_next_turnword : List Str := ["word", "letters", "size"]
theorem sc_next_turnword : FnScope N_next_turnword p_next_turnword (defScope s_next_turnword) := ⟨rfl, rfl, rfl, by decide +kernel, rfl, by decide +kernel, by decide +kernel⟩
abbrev s_turnwords : Stmt := topS 27
abbrev N_turnwords : List Str := ["letters", "size", "found", "word"]
abbrev p_turnwords : List Str := ["letters", "size"]
theorem sc_turnwords : FnScope N_turnwords p_turnwords (defScope s_turnwords) := ⟨rfl, rfl, rfl, by decide +kernel, rfl, by decide +kernel, by decide +kernel⟩
abbrev s_Ground_init : Stmt := inClass (topS 35) 0
abbrev N_Ground_init : List Str := ["self", "letters", "depth", "size", "place", "word"]
abbrev p_Ground_init : List Str := ["self", "letters", "depth"]
theorem sc_Ground_init : FnScope N_Ground_init p_Ground_init (defScope s_Ground_init) := ⟨rfl, rfl, rfl, by decide +kernel, rfl, by decide +kernel, by decide +kernel⟩
abbrev s__law_ground_of : Stmt := topS 46
abbrev N__law_ground_of : List Str := ["_law_box_here", "_law_first", "_law_letters", "_law_depth"]
abbrev p__law_ground_of : List Str := ["_law_box_here", "_law_first"]
theorem sc__law_ground_of : FnScope N__law_ground_of p__law_ground_of (defScope s__law_ground_of) := ⟨rfl, rfl, rfl, by decide +kernel, rfl, by decide +kernel, by decide +kernel⟩
abbrev s_Ground_letters : Stmt := inClass (topS 35) 1
abbrev N_Ground_letters : List Str := ["self"]
abbrev p_Ground_letters : List Str := ["self"]
theorem sc_Ground_letters : FnScope N_Ground_letters p_Ground_letters (defScope s_Ground_letters) := ⟨rfl, rfl, rfl, by decide +kernel, rfl, by decide +kernel, by decide +kernel⟩
abbrev s_Ground_depth : Stmt := inClass (topS 35) 2
abbrev N_Ground_depth : List Str := ["self"]
abbrev p_Ground_depth : List Str := ["self"]
theorem sc_Ground_depth : FnScope N_Ground_depth p_Ground_depth (defScope s_Ground_depth) := ⟨rfl, rfl, rfl, by decide +kernel, rfl, by decide +kernel, by decide +kernel⟩
abbrev s_Ground_places : Stmt := inClass (topS 35) 5
abbrev N_Ground_places : List Str := ["self"]
abbrev p_Ground_places : List Str := ["self"]
theorem sc_Ground_places : FnScope N_Ground_places p_Ground_places (defScope s_Ground_places) := ⟨rfl, rfl, rfl, by decide +kernel, rfl, by decide +kernel, by decide +kernel⟩
abbrev s_turns : Stmt := topS 24
abbrev N_turns : List Str := ["word", "place"]
abbrev p_turns : List Str := ["word"]
theorem sc_turns : FnScope N_turns p_turns (defScope s_turns) := ⟨rfl, rfl, rfl, by decide +kernel, rfl, by decide +kernel, by decide +kernel⟩
abbrev s_is_turnword : Stmt := topS 25
abbrev N_is_turnword : List Str := ["word", "turn"]
abbrev p_is_turnword : List Str := ["word"]
theorem sc_is_turnword : FnScope N_is_turnword p_is_turnword (defScope s_is_turnword) := ⟨rfl, rfl, rfl, by decide +kernel, rfl, by decide +kernel, by decide +kernel⟩
abbrev s_halves : Stmt := topS 29
abbrev N_halves : List Str := ["word", "start"]
abbrev p_halves : List Str := ["word"]
theorem sc_halves : FnScope N_halves p_halves (defScope s_halves) := ⟨rfl, rfl, rfl, by decide +kernel, rfl, by decide +kernel, by decide +kernel⟩
abbrev s_Ground_parts_at : Stmt := inClass (topS 35) 9
abbrev N_Ground_parts_at : List Str := ["self", "place", "word", "one", "other"]
abbrev p_Ground_parts_at : List Str := ["self", "place"]
theorem sc_Ground_parts_at : FnScope N_Ground_parts_at p_Ground_parts_at (defScope s_Ground_parts_at) := ⟨rfl, rfl, rfl, by decide +kernel, rfl, by decide +kernel, by decide +kernel⟩
abbrev s_backed : Stmt := topS 16
abbrev N_backed : List Str := ["word", "step"]
abbrev p_backed : List Str := ["word"]
theorem sc_backed : FnScope N_backed p_backed (defScope s_backed) := ⟨rfl, rfl, rfl, by decide +kernel, rfl, by decide +kernel, by decide +kernel⟩
abbrev s_bracketed : Stmt := topS 19
abbrev N_bracketed : List Str := ["one", "other"]
abbrev p_bracketed : List Str := ["one", "other"]
theorem sc_bracketed : FnScope N_bracketed p_bracketed (defScope s_bracketed) := ⟨rfl, rfl, rfl, by decide +kernel, rfl, by decide +kernel, by decide +kernel⟩
abbrev s_Ground_bracket_at : Stmt := inClass (topS 35) 10
abbrev N_Ground_bracket_at : List Str := ["self", "place", "parts"]
abbrev p_Ground_bracket_at : List Str := ["self", "place"]
theorem sc_Ground_bracket_at : FnScope N_Ground_bracket_at p_Ground_bracket_at (defScope s_Ground_bracket_at) := ⟨rfl, rfl, rfl, by decide +kernel, rfl, by decide +kernel, by decide +kernel⟩
abbrev s__law_number : Stmt := topS 41
abbrev N__law_number : List Str := ["_law_box_here", "_law_way", "_law_sign", "_law_found", "_law_k"]
abbrev p__law_number : List Str := ["_law_box_here"]
theorem sc__law_number : FnScope N__law_number p__law_number (defScope s__law_number) := ⟨rfl, rfl, rfl, by decide +kernel, rfl, by decide +kernel, by decide +kernel⟩
abbrev s__law_drawn : Stmt := topS 43
abbrev N__law_drawn : List Str := ["_law_box_here", "_law_brackets", "_law_row", "_law_exact", "_law_great", "_law_turn", "_law_at", "_law_number_here", "_law_left", "_law_word"]
abbrev p__law_drawn : List Str := ["_law_box_here", "_law_brackets"]
theorem sc__law_drawn : FnScope N__law_drawn p__law_drawn (defScope s__law_drawn) := ⟨rfl, rfl, rfl, by decide +kernel, rfl, by decide +kernel, by decide +kernel⟩
abbrev s__law_backed : Stmt := topS 42
abbrev N__law_backed : List Str := ["_law_word", "_law_step"]
abbrev p__law_backed : List Str := ["_law_word"]
theorem sc__law_backed : FnScope N__law_backed p__law_backed (defScope s__law_backed) := ⟨rfl, rfl, rfl, by decide +kernel, rfl, by decide +kernel, by decide +kernel⟩
abbrev s__law_due : Stmt := topS 45
abbrev N__law_due : List Str := ["_law_row", "_law_brackets", "_law_found", "_law_number_here", "_law_word"]
abbrev p__law_due : List Str := ["_law_row", "_law_brackets"]
theorem sc__law_due : FnScope N__law_due p__law_due (defScope s__law_due) := ⟨rfl, rfl, rfl, by decide +kernel, rfl, by decide +kernel, by decide +kernel⟩
abbrev s_joined : Stmt := topS 17
abbrev N_joined : List Str := ["one", "other"]
abbrev p_joined : List Str := ["one", "other"]
theorem sc_joined : FnScope N_joined p_joined (defScope s_joined) := ⟨rfl, rfl, rfl, by decide +kernel, rfl, by decide +kernel, by decide +kernel⟩
abbrev s_repeated : Stmt := topS 18
abbrev N_repeated : List Str := ["word", "n"]
abbrev p_repeated : List Str := ["word", "n"]
theorem sc_repeated : FnScope N_repeated p_repeated (defScope s_repeated) := ⟨rfl, rfl, rfl, by decide +kernel, rfl, by decide +kernel, by decide +kernel⟩
abbrev s_spelled : Stmt := topS 22
abbrev N_spelled : List Str := ["ground", "row", "brackets", "found", "number", "bracket", "place"]
abbrev p_spelled : List Str := ["ground", "row"]
theorem sc_spelled : FnScope N_spelled p_spelled (defScope s_spelled) := ⟨rfl, rfl, rfl, by decide +kernel, rfl, by decide +kernel, by decide +kernel⟩
abbrev s__law_told : Stmt := topS 44
abbrev N__law_told : List Str := ["_law_ground", "_law_row", "_law_found", "_law_caught", "error", "_law_other"]
abbrev p__law_told : List Str := ["_law_ground", "_law_row"]
theorem sc__law_told : FnScope N__law_told p__law_told (defScope s__law_told) := ⟨rfl, rfl, rfl, by decide +kernel, rfl, by decide +kernel, by decide +kernel⟩
abbrev s__law_right : Stmt := topS 47
abbrev N__law_right : List Str := ["_law_box_here", "_law_first", "_law_ground", "_law_letters", "_law_depth", "_law_brackets", "_law_rows", "_law_row", "_law_kept", "_law_due_here", "_law_at", "_law_place", "_law_turn"]
abbrev p__law_right : List Str := ["_law_box_here", "_law_first"]
theorem sc__law_right : FnScope N__law_right p__law_right (defScope s__law_right) := ⟨rfl, rfl, rfl, by decide +kernel, rfl, by decide +kernel, by decide +kernel⟩
abbrev s__law_box : Stmt := topS 37
abbrev N__law_box : List Str := ["_law_script", "_law_k", "_law_cell"]
abbrev p__law_box : List Str := ["_law_script", "_law_k"]
theorem sc__law_box : FnScope N__law_box p__law_box (defScope s__law_box) := ⟨rfl, rfl, rfl, by decide +kernel, rfl, by decide +kernel, by decide +kernel⟩
abbrev s_law : Stmt := topS 48
abbrev N_law : List Str := ["_law_script", "_law_cells", "_law_k"]
abbrev p_law : List Str := ["_law_script"]
theorem sc_law : FnScope N_law p_law (defScope s_law) := ⟨rfl, rfl, rfl, by decide +kernel, rfl, by decide +kernel, by decide +kernel⟩
def cl_Ground : Cl := ⟨"Ground", ["letter_count", "depth_count", "turn_list", "place_by_word", "kept_powers"]⟩
def B__law_folded_1 : DTS :=
  (sAsg (dAdd (dIx (dVar 2) (dMod (dVar 3) (dVar 1))) (dMul (dVar 4) (dAdd (dVar 3) (dC (.int 2))))) (gIx (dVar 2) (dMod (dVar 3) (dVar 1))))
def T__law_folded_3 : DTS :=
  (sRet (dFrz (dVar 2)))
def T__law_folded_2 : DTS :=
  (sSeq (sFor (iEnum (aCons (dSl (dVar 0) (oSm (dVar 1)) (oSm (dC (.int 63)))) aNil)) (gTup 2 (gCons (gName 3) (gCons (gName 4) gNil)))
  (nS B__law_folded_1))
  (nS T__law_folded_3))
def T__law_folded : DTS :=
  (sSeq (sSet 2 (dCall kListM (aCons (dSl (dVar 0) oNo (oSm (dVar 1))) aNil)))
  (nS T__law_folded_2))
abbrev D__law_folded : DSp := fnD T__law_folded 2 3
def T__law_take_6 : DTS :=
  (sRet (dMod (dDiv (dMod (dMul (dVar 5) (dAdd (dMod (dVar 5) (dC (.int 1013))) (dC (.int 3)))) (dC (.int 998244353))) (dC (.int 16))) (dVar 1)))
def T__law_take_5 : DTS :=
  (sSeq (sSet 5 (dMod (dAdd (dMul (dVar 4) (dAdd (dMod (dVar 4) (dC (.int 30011))) (dC (.int 5)))) (dIx (dVar 0) (dC (.int 2)))) (dC (.int 2147483563))))
  (nS T__law_take_6))
def T__law_take_4 : DTS :=
  (sSeq (sSet 4 (dMod (dMul (dAdd (dIx (dVar 0) (dC (.int 1))) (dMul (dC (.int 39373)) (dIx (dVar 0) (dC (.int 2))))) (dVar 3)) (dC (.int 2147483587))))
  (nS T__law_take_5))
def T__law_take_3 : DTS :=
  (sSeq (sSet 3 (dAdd (dC (.int 69621)) (dMul (dIx (dVar 0) (dC (.int 2))) (dIx (dVar 0) (dC (.int 2))))))
  (nS T__law_take_4))
def T__law_take_2 : DTS :=
  (sSeq (sAsg (dAdd (dIx (dVar 0) (dC (.int 2))) (dC (.int 1))) (gIx (dVar 0) (dC (.int 2))))
  (nS T__law_take_3))
def T__law_take : DTS :=
  (sSeq (sIf (dTV (dGt (dIx (dVar 0) (dC (.int 0))) (dC (.int 0)))) (sSeq (sAsg (dCall kDivmod (aCons (dIx (dVar 0) (dC (.int 0))) (aCons (dVar 1) aNil))) (gTup 2 (gCons (gIx (dVar 0) (dC (.int 0))) (gCons (gName 2) gNil))))
  (sRet (dVar 2))) sNext)
  (nS T__law_take_2))
abbrev D__law_take : DSp := fnD T__law_take 2 4
def T__law_sizes_4 : DTS :=
  (sRet (dIx (dVar 1) (dDef D__law_take (aCons (dVar 0) (aCons (dCall kLen (aCons (dVar 1) aNil)) aNil)))))
def T__law_sizes_3 : DTS :=
  (sSeq (sIf (dTV (dEq (dDef D__law_take (aCons (dVar 0) (aCons (dC (.int 3)) aNil))) (dC (.int 0)))) (sSet 1 (dC (.lst [.tup [.int 1, .int 1], .tup [.int 1, .int 2], .tup [.int 1, .int 3], .tup [.int 1, .int 4], .tup [.int 1, .int 5], .tup [.int 2, .int 1], .tup [.int 3, .int 1], .tup [.int 4, .int 1]]))) sNext)
  (nS T__law_sizes_4))
def T__law_sizes_2 : DTS :=
  (sSeq (sSet 1 (dC (.lst [.tup [.int 2, .int 2], .tup [.int 2, .int 3], .tup [.int 2, .int 4], .tup [.int 3, .int 2], .tup [.int 3, .int 3], .tup [.int 4, .int 2]])))
  (nS T__law_sizes_3))
def T__law_sizes : DTS :=
  (sSeq (sIf (dTV (dEq (dDef D__law_take (aCons (dVar 0) (aCons (dC (.int 8)) aNil))) (dC (.int 0)))) (sRet (dIx (dC (.lst [.tup [.int 2, .int 5], .tup [.int 3, .int 4], .tup [.int 4, .int 3]])) (dDef D__law_take (aCons (dVar 0) (aCons (dC (.int 3)) aNil))))) sNext)
  (nS T__law_sizes_2))
abbrev D__law_sizes : DSp := fnD T__law_sizes 1 1
def B_next_turnword_1 : DTS :=
  (sSet 3 (dSl (dVar 3) oNo (oSm (dNeg (dC (.int 1))))))
def T_next_turnword_4 : DTS :=
  (sRet (dAdd (dSl (dVar 3) oNo (oSm (dNeg (dC (.int 1))))) (dTup (aCons (dAdd (dIx (dVar 3) (dNeg (dC (.int 1)))) (dC (.int 1))) aNil))))
def T_next_turnword_3 : DTS :=
  (sSeq (sIf (dTV (dEq (dCall kLen (aCons (dVar 3) aNil)) (dC (.int 0)))) (sRet (dTup aNil)) sNext)
  (nS T_next_turnword_4))
def T_next_turnword_2 : DTS :=
  (sSeq (sWhile (tAnd (dTV (dGt (dCall kLen (aCons (dVar 3) aNil)) (dC (.int 0)))) (dTV (dEq (dIx (dVar 3) (dNeg (dC (.int 1)))) (dVar 1)))) (nS B_next_turnword_1))
  (nS T_next_turnword_3))
def T_next_turnword : DTS :=
  (sSeq (sSet 3 (dSl (dMul (dVar 0) (dVar 2)) oNo (oSm (dVar 2))))
  (nS T_next_turnword_2))
abbrev D_next_turnword : DSp := fnD T_next_turnword 3 1
def B_turnwords_1 : DTS :=
  (sSeq (sIf (dTV (dEq (dCall kLen (aCons (dVar 3) aNil)) (dVar 1))) (sExpr (dMt kAppend (dVar 2) (aCons (dVar 3) aNil))) sNext)
  (sSet 3 (dDef D_next_turnword (aCons (dVar 3) (aCons (dVar 0) (aCons (dVar 1) aNil))))))
def T_turnwords_4 : DTS :=
  (sRet (dFrz (dVar 2)))
def T_turnwords_3 : DTS :=
  (sSeq (sWhile (dTV (dGt (dCall kLen (aCons (dVar 3) aNil)) (dC (.int 0)))) (nS B_turnwords_1))
  (nS T_turnwords_4))
def T_turnwords_2 : DTS :=
  (sSeq (sSet 3 (dTup (aCons (dC (.int 1)) aNil)))
  (nS T_turnwords_3))
def T_turnwords : DTS :=
  (sSeq (sSet 2 (dLstM aNil))
  (nS T_turnwords_2))
abbrev D_turnwords : DSp := fnD T_turnwords 2 2
def B_Ground_init_1 : DTS :=
  (sExpr (dMt kExtend (dFld cl_Ground 2 (dVar 0)) (aCons (dDef D_turnwords (aCons (dVar 1) (aCons (dVar 3) aNil))) aNil)))
def B_Ground_init_2 : DTS :=
  (sPutD (dFld cl_Ground 3 (dVar 0)) (dVar 5) (dVar 4))
def T_Ground_init_8 : DTS :=
  (sPutF cl_Ground 4 (dVar 0) dNewK)
def T_Ground_init_7 : DTS :=
  (sSeq (sFor (iEnum (aCons (dFzF cl_Ground 2 (dVar 0)) aNil)) (gTup 2 (gCons (gName 4) (gCons (gName 5) gNil)))
  (nS B_Ground_init_2))
  (nS T_Ground_init_8))
def T_Ground_init_6 : DTS :=
  (sSeq (sPutF cl_Ground 3 (dVar 0) dNewT)
  (nS T_Ground_init_7))
def T_Ground_init_5 : DTS :=
  (sSeq (sFor (iRg2 (aCons (dC (.int 1)) (aCons (dAdd (dVar 2) (dC (.int 1))) aNil))) (gName 3)
  (nS B_Ground_init_1))
  (nS T_Ground_init_6))
def T_Ground_init_4 : DTS :=
  (sSeq (sPutF cl_Ground 2 (dVar 0) (dLstM aNil))
  (nS T_Ground_init_5))
def T_Ground_init_3 : DTS :=
  (sSeq (sPutF cl_Ground 1 (dVar 0) (dVar 2))
  (nS T_Ground_init_4))
def T_Ground_init_2 : DTS :=
  (sSeq (sPutF cl_Ground 0 (dVar 0) (dVar 1))
  (nS T_Ground_init_3))
def T_Ground_init : DTS :=
  (sSeq (sIf (tOr (tNot (dTV (dChain kLe kLe (dC (.int 1)) (dVar 1) (dC (.int 4))))) (tOr (tNot (dTV (dChain kLe kLe (dC (.int 1)) (dVar 2) (dC (.int 5))))) (dTV (dGt (dAdd (dVar 1) (dVar 2)) (dC (.int 7)))))) sNever sNext)
  (nS T_Ground_init_2))
abbrev D_Ground_init : DSp := fnD T_Ground_init 3 3
def T__law_ground_of_2 : DTS :=
  (sRet (dMake cl_Ground D_Ground_init (aCons (dVar 2) (aCons (dIf (tOr (dTV (dVar 1)) (dTV (dLt (dAdd (dVar 2) (dVar 3)) (dC (.int 7))))) (dVar 3) (dSub (dVar 3) (dC (.int 2)))) aNil))))
def T__law_ground_of : DTS :=
  (sSeq (sAsg (dDef D__law_sizes (aCons (dVar 0) aNil)) (gTup 2 (gCons (gName 2) (gCons (gName 3) gNil))))
  (nS T__law_ground_of_2))
abbrev D__law_ground_of : DSp := fnD T__law_ground_of 2 2
def T_Ground_letters : DTS :=
  (sRet (dFld cl_Ground 0 (dVar 0)))
abbrev D_Ground_letters : DSp := fnD T_Ground_letters 1 0
def T_Ground_depth : DTS :=
  (sRet (dFld cl_Ground 1 (dVar 0)))
abbrev D_Ground_depth : DSp := fnD T_Ground_depth 1 0
def T_Ground_places : DTS :=
  (sRet (dCall kLen (aCons (dFld cl_Ground 2 (dVar 0)) aNil)))
abbrev D_Ground_places : DSp := fnD T_Ground_places 1 0
def C_turns_1 : DTE :=
  (dAdd (dCall kTuple (aCons (dSl (dVar 0) (oSm (dVar 1)) oNo) aNil)) (dCall kTuple (aCons (dSl (dVar 0) oNo (oSm (dVar 1))) aNil)))
def T_turns : DTS :=
  (sRet (dLc (iRg1 (aCons (dCall kLen (aCons (dVar 0) aNil)) aNil)) (gName 1) tYes (nE C_turns_1) [1]))
abbrev D_turns : DSp := fnD T_turns 1 1
def C_is_turnword_1 : DTE :=
  (dLt (dCall kTuple (aCons (dVar 0) aNil)) (dVar 1))
def T_is_turnword : DTS :=
  (sRet (dAnd (dGt (dCall kLen (aCons (dVar 0) aNil)) (dC (.int 0))) (dCall kAll (aCons (dLc (iSeq (dSl (dDef D_turns (aCons (dVar 0) aNil)) (oSm (dC (.int 1))) oNo)) (gName 1) tYes (nE C_is_turnword_1) [1]) aNil))))
abbrev D_is_turnword : DSp := fnD T_is_turnword 1 1
def B_halves_1 : DTS :=
  (sAug 1 (dC (.int 1)) kAdd2)
def T_halves_3 : DTS :=
  (sRet (dTup (aCons (dCall kTuple (aCons (dSl (dVar 0) oNo (oSm (dVar 1))) aNil)) (aCons (dCall kTuple (aCons (dSl (dVar 0) (oSm (dVar 1)) oNo) aNil)) aNil))))
def T_halves_2 : DTS :=
  (sSeq (sWhile (tAnd (dTV (dLt (dVar 1) (dSub (dCall kLen (aCons (dVar 0) aNil)) (dC (.int 1))))) (tNot (dTV (dDef D_is_turnword (aCons (dSl (dVar 0) (oSm (dVar 1)) oNo) aNil))))) (nS B_halves_1))
  (nS T_halves_3))
def T_halves : DTS :=
  (sSeq (sSet 1 (dC (.int 1)))
  (nS T_halves_2))
abbrev D_halves : DSp := fnD T_halves 1 1
def T_Ground_parts_at_4 : DTS :=
  (sRet (dTup (aCons (dGetD (dFld cl_Ground 3 (dVar 0)) (dVar 3)) (aCons (dGetD (dFld cl_Ground 3 (dVar 0)) (dVar 4)) aNil))))
def T_Ground_parts_at_3 : DTS :=
  (sSeq (sAsg (dDef D_halves (aCons (dVar 2) aNil)) (gTup 2 (gCons (gName 3) (gCons (gName 4) gNil))))
  (nS T_Ground_parts_at_4))
def T_Ground_parts_at_2 : DTS :=
  (sSeq (sIf (dTV (dEq (dCall kLen (aCons (dVar 2) aNil)) (dC (.int 1)))) (sRet (dC .non)) sNext)
  (nS T_Ground_parts_at_3))
def T_Ground_parts_at : DTS :=
  (sSeq (sSet 2 (dIx (dFld cl_Ground 2 (dVar 0)) (dVar 1)))
  (nS T_Ground_parts_at_2))
abbrev D_Ground_parts_at : DSp := fnD T_Ground_parts_at 2 3
def C_backed_1 : DTE :=
  (dNeg (dVar 1))
def T_backed : DTS :=
  (sRet (dCall kTuple (aCons (dLc (iRev (dVar 0)) (gName 1) tYes (nE C_backed_1) [1]) aNil)))
abbrev D_backed : DSp := fnD T_backed 1 1
def T_bracketed : DTS :=
  (sRet (dAdd (dAdd (dAdd (dDef D_backed (aCons (dVar 0) aNil)) (dDef D_backed (aCons (dVar 1) aNil))) (dCall kTuple (aCons (dVar 0) aNil))) (dCall kTuple (aCons (dVar 1) aNil))))
abbrev D_bracketed : DSp := fnD T_bracketed 2 0
def T_Ground_bracket_at_3 (D_Ground_bracket_at_n : DSp) : DTS :=
  (sRet (dDef D_bracketed (aCons (dMeth cl_Ground D_Ground_bracket_at_n (dVar 0) (aCons (dIx (dVar 2) (dC (.int 0))) aNil)) (aCons (dMeth cl_Ground D_Ground_bracket_at_n (dVar 0) (aCons (dIx (dVar 2) (dC (.int 1))) aNil)) aNil))))
def T_Ground_bracket_at_2 (D_Ground_bracket_at_n : DSp) : DTS :=
  (sSeq (sIf (dTV (dIsN (dVar 2) (dC .non))) (sRet (dIx (dFld cl_Ground 2 (dVar 0)) (dVar 1))) sNext)
  (nS (T_Ground_bracket_at_3 D_Ground_bracket_at_n)))
def T_Ground_bracket_at (D_Ground_bracket_at_n : DSp) : DTS :=
  (sSeq (sSet 2 (dMeth cl_Ground D_Ground_parts_at (dVar 0) (aCons (dVar 1) aNil)))
  (nS (T_Ground_bracket_at_2 D_Ground_bracket_at_n)))
def D_Ground_bracket_at : Nat → DSp
  | 0 => fun _ _ _ => False
  | n + 1 => fnD (T_Ground_bracket_at (D_Ground_bracket_at n)) 2 1
def C__law_right_1 : DTE :=
  (dMeth cl_Ground (D_Ground_bracket_at 8) (dVar 2) (aCons (dVar 11) aNil))
def B__law_drawn_m_1 : DTS :=
  (sSeq (sPar 6 7 (aCons (dDef D__law_take (aCons (dVar 0) (aCons (dCall kLen (aCons (dVar 2) aNil)) aNil))) (aCons (dAdd (dC (.int 1)) (dDef D__law_take (aCons (dVar 0) (aCons (dIx (dLst (aCons (dC (.int 3)) (aCons (dC (.int 9)) (aCons (dC (.int 30)) aNil)))) (dDef D__law_take (aCons (dVar 0) (aCons (dC (.int 3)) aNil)))) aNil)))) aNil)))
  (sAsg (dMul (dVar 7) (dSub (dC (.int 1)) (dMul (dC (.int 2)) (dDef D__law_take (aCons (dVar 0) (aCons (dC (.int 2)) aNil)))))) (gIx (dVar 2) (dVar 6))))
def C__law_drawn_m_1 : DTE :=
  (dMul (dCall kAbs (aCons (dVar 7) aNil)) (dCall kLen (aCons (dVar 9) aNil)))
def B__law_number_1 : DTS :=
  (sSet 3 (dAdd (dMul (dVar 3) (dPow (dC (.int 10)) (dC (.int 9)))) (dDef D__law_take (aCons (dVar 0) (aCons (dPow (dC (.int 10)) (dC (.int 9))) aNil)))))
def T__law_number_5 : DTS :=
  (sRet (dMul (dMod (dVar 3) (dSub (dPow (dC (.int 10)) (dC (.int 60))) (dC (.int 9)))) (dVar 2)))
def T__law_number_4 : DTS :=
  (sSeq (sFor (iRg1 (aCons (dC (.int 7)) aNil)) (gName 4)
  (nS B__law_number_1))
  (nS T__law_number_5))
def T__law_number_3 : DTS :=
  (sSeq (sIf (dTV (dLt (dVar 1) (dC (.int 5)))) (sRet (dMul (dDef D__law_take (aCons (dVar 0) (aCons (dIx (dLst (aCons (dC (.int 10)) (aCons (dC (.int 10)) (aCons (dPow (dC (.int 10)) (dC (.int 6))) aNil)))) (dSub (dVar 1) (dC (.int 2)))) aNil))) (dVar 2))) sNext)
  (nS T__law_number_4))
def T__law_number_2 : DTS :=
  (sSeq (sIf (dTV (dLt (dVar 1) (dC (.int 2)))) (sRet (dMul (dVar 1) (dVar 2))) sNext)
  (nS T__law_number_3))
def T__law_number : DTS :=
  (sSeq (sPar3 1 2 3 (aCons (dDef D__law_take (aCons (dVar 0) (aCons (dC (.int 6)) aNil))) (aCons (dSub (dC (.int 1)) (dMul (dC (.int 2)) (dDef D__law_take (aCons (dVar 0) (aCons (dC (.int 2)) aNil))))) (aCons (dC (.int 0)) aNil))))
  (nS T__law_number_2))
abbrev D__law_number : DSp := fnD T__law_number 1 4
def T__law_drawn_m_5 : DTS :=
  (sRet (dVar 2))
def T__law_drawn_m_4 : DTS :=
  (sSeq (sIf (dTV (dVar 4)) (sAsg (dDef D__law_number (aCons (dVar 0) aNil)) (gIx (dVar 2) (dDef D__law_take (aCons (dVar 0) (aCons (dCall kLen (aCons (dVar 2) aNil)) aNil))))) sNext)
  (nS T__law_drawn_m_5))
def T__law_drawn_m_3 : DTS :=
  (sSeq (sIf (dTV (dLt (dVar 3) (dC (.int 2)))) (sSeq (sAsg (dC (.int 0)) (gIx (dVar 2) (dC (.int 0))))
  (sSeq (sSet 8 (dSub (dAdd (dC (.int 600)) (dVar 3)) (dBorS [2] (dCall kSum (aCons (dLc (iZip (aCons (dVar 2) (aCons (dVar 1) aNil))) (gTup 2 (gCons (gName 7) (gCons (gName 9) gNil))) tYes (nE C__law_drawn_m_1) [7, 9]) aNil)))))
  (sAsg (dMul (dCall kMax (aCons (dC (.int 0)) (aCons (dVar 8) aNil))) (dSub (dC (.int 1)) (dMul (dC (.int 2)) (dDef D__law_take (aCons (dVar 0) (aCons (dC (.int 2)) aNil)))))) (gIx (dVar 2) (dC (.int 0)))))) sNext)
  (nS T__law_drawn_m_4))
def T__law_drawn_m_2 : DTS :=
  (sSeq (sFor (iRg1 (aCons (dDef D__law_take (aCons (dVar 0) (aCons (dC (.int 5)) aNil))) aNil)) (gName 5)
  (nS B__law_drawn_m_1))
  (nS T__law_drawn_m_3))
def T__law_drawn_m : DTS :=
  (sSeq (sPar3 2 3 4 (aCons (dMulM (dLst (aCons (dC (.int 0)) aNil)) (dCall kLen (aCons (dVar 1) aNil))) (aCons (dDef D__law_take (aCons (dVar 0) (aCons (dC (.int 4)) aNil))) (aCons (dEq (dDef D__law_take (aCons (dVar 0) (aCons (dC (.int 8)) aNil))) (dC (.int 0))) aNil))))
  (nS T__law_drawn_m_2))
abbrev D__law_drawn_m : DSp := fnD T__law_drawn_m 2 8
def C__law_right_2 : DTE :=
  (dDef D__law_drawn_m (aCons (dVar 0) (aCons (dVar 5) aNil)))
def C__law_due_1 : DTE :=
  (dMul (dCall kAbs (aCons (dVar 3) aNil)) (dCall kLen (aCons (dVar 4) aNil)))
def C__law_backed_1 : DTE :=
  (dNeg (dVar 1))
def T__law_backed : DTS :=
  (sRet (dCall kTuple (aCons (dLc (iRev (dVar 0)) (gName 1) tYes (nE C__law_backed_1) [1]) aNil)))
abbrev D__law_backed : DSp := fnD T__law_backed 1 1
def B__law_due_1 : DTS :=
  (sSet 2 (dAdd (dVar 2) (dMul (dIf (dTV (dGt (dVar 3) (dC (.int 0)))) (dVar 4) (dDef D__law_backed (aCons (dVar 4) aNil))) (dCall kAbs (aCons (dVar 3) aNil)))))
def T__law_due_4 : DTS :=
  (sRet (dVar 2))
def T__law_due_3 : DTS :=
  (sSeq (sFor (iZipX (aCons (dVar 0) (aCons (dVar 1) aNil))) (gTup 2 (gCons (gName 3) (gCons (gName 4) gNil)))
  (nS B__law_due_1))
  (nS T__law_due_4))
def T__law_due_2 : DTS :=
  (sSeq (sSet 2 (dTup aNil))
  (nS T__law_due_3))
def T__law_due : DTS :=
  (sSeq (sIf (dTV (dGt (dCall kSum (aCons (dLc (iZipX (aCons (dVar 0) (aCons (dVar 1) aNil))) (gTup 2 (gCons (gName 3) (gCons (gName 4) gNil))) tYes (nE C__law_due_1) [3, 4]) aNil)) (dC (.int 600)))) (sRet (dC (.str "long"))) sNext)
  (nS T__law_due_2))
abbrev D__law_due : DSp := fnD T__law_due 2 3
def C_spelled_1 : DTE :=
  (dMeth cl_Ground (D_Ground_bracket_at 8) (dVar 0) (aCons (dVar 6) aNil))
def C_spelled_2 : DTE :=
  (dMul (dCall kAbs (aCons (dVar 4) aNil)) (dCall kLen (aCons (dVar 5) aNil)))
def T_joined : DTS :=
  (sRet (dAdd (dCall kTuple (aCons (dVar 0) aNil)) (dCall kTuple (aCons (dVar 1) aNil))))
abbrev D_joined : DSp := fnD T_joined 2 0
def T_repeated_3 : DTS :=
  (sRet (dMul (dCall kTuple (aCons (dVar 0) aNil)) (dVar 1)))
def T_repeated_2 : DTS :=
  (sSeq (sIf (dTV (dLt (dVar 1) (dC (.int 0)))) (sRet (dMul (dDef D_backed (aCons (dVar 0) aNil)) (dNeg (dVar 1)))) sNext)
  (nS T_repeated_3))
def T_repeated : DTS :=
  (sSeq (sIf (dTV (dEq (dCall kLen (aCons (dVar 0) aNil)) (dC (.int 0)))) (sRet (dTup aNil)) sNext)
  (nS T_repeated_2))
abbrev D_repeated : DSp := fnD T_repeated 2 0
def B_spelled_1 : DTS :=
  (sSet 3 (dDef D_joined (aCons (dVar 3) (aCons (dDef D_repeated (aCons (dVar 5) (aCons (dVar 4) aNil))) aNil))))
def T_spelled_5 (wx : DWish) : DTS :=
  (sRet (dVar 3))
def T_spelled_4 (wx : DWish) : DTS :=
  (sSeq (sFor (iZipX (aCons (dVar 1) (aCons (dVar 2) aNil))) (gTup 2 (gCons (gName 4) (gCons (gName 5) gNil)))
  (nS B_spelled_1))
  (nS (T_spelled_5 wx)))
def T_spelled_3 (wx : DWish) : DTS :=
  (sSeq (sSet 3 (dTup aNil))
  (nS (T_spelled_4 wx)))
def T_spelled_2 (wx : DWish) : DTS :=
  (sSeq (sIf (dTV (dGt (dCall kSum (aCons (dLc (iZipX (aCons (dVar 1) (aCons (dVar 2) aNil))) (gTup 2 (gCons (gName 4) (gCons (gName 5) gNil))) tYes (nE C_spelled_2) [4, 5]) aNil)) (dC (.int 600)))) (xRaise 3 wx) sNext)
  (nS (T_spelled_3 wx)))
def T_spelled (wx : DWish) : DTS :=
  (sSeq (sSet 2 (dLc (iRg1 (aCons (dMeth0 cl_Ground D_Ground_places (dVar 0)) aNil)) (gName 6) tYes (nE C_spelled_1) [6]))
  (nS (T_spelled_2 wx)))
abbrev D_spelled : (D → LH → Prop) → DSp := fnDX T_spelled 2 5
def T__law_told_6 (wx : DWish) : DTS :=
  (sRet (dIf (tAnd (dTV (dIsX [(3, true)] (dVar 3))) (tNot (dTV (dVar 5)))) (dC (.str "long")) (dC (.str "other"))))
def T__law_told_5 (wx : DWish) : DTS :=
  (sSeq (sSet 5 (dOr (dVar 5) (dOr (dIsX [(3, false)] (dVar 3)) (dNot (dIsX [(3, true)] (dVar 3))))))
  (nS (T__law_told_6 wx)))
def T__law_told_4 (wx : DWish) : DTS :=
  (sSeq (sSet 5 (dIsX [(3, false)] (dVar 3)))
  (nS (T__law_told_5 wx)))
def T__law_told_3 (wx : DWish) : DTS :=
  (sSeq (sIf (dTV (dIsN (dVar 3) (dC .non))) (sRet (dVar 2)) sNext)
  (nS (T__law_told_4 wx)))
def T__law_told_2 (wx : DWish) : DTS :=
  (sSeq (xTry [(3, true)] 4 (fun wx => (sSet 2 (xDef D_spelled wx (aCons (dVar 0) (aCons (dVar 1) aNil))))) (sSet 3 (dVar 4)) wx)
  (nS (T__law_told_3 wx)))
def T__law_told (wx : DWish) : DTS :=
  (sSeq (sAsg (dTup (aCons (dC .non) (aCons (dC .non) aNil))) (gTup 2 (gCons (gName 2) (gCons (gName 3) gNil))))
  (nS (T__law_told_2 wx)))
abbrev D__law_told : (D → LH → Prop) → DSp := fnDX T__law_told 2 4
def B__law_right_1 : DTS :=
  (sSeq (sPar 8 9 (aCons (dCall kListF (aCons (dVar 7) aNil)) (aCons (dBorS [7] (dDef D__law_due (aCons (dVar 7) (aCons (dVar 5) aNil)))) aNil)))
  (sIf (tBorS [7] (tOr (dTV (dNe (dDef (D__law_told fun _ _ => False) (aCons (dVar 2) (aCons (dVar 7) aNil))) (dVar 9))) (tOr (dTV (dNe (dDef (D__law_told fun _ _ => False) (aCons (dVar 2) (aCons (dCall kTuple (aCons (dVar 7) aNil)) aNil))) (dVar 9))) (dTV (dNe (dVar 7) (dVar 8)))))) (sRet (dC (.bl false))) sNext))
def T__law_right_9 : DTS :=
  (sRet (dBorS [7] (dEq (dDef (D__law_told fun _ _ => False) (aCons (dVar 2) (aCons (dVar 7) aNil))) (dDef D__law_due (aCons (dVar 7) (aCons (dVar 5) aNil))))))
def T__law_right_8 : DTS :=
  (sSeq (sAsg (dSub (dAdd (dIx (dVar 7) (dVar 10)) (dC (.int 1))) (dMul (dC (.int 2)) (dDef D__law_take (aCons (dVar 0) (aCons (dC (.int 2)) aNil))))) (gIx (dVar 7) (dVar 10)))
  (nS T__law_right_9))
def T__law_right_7 : DTS :=
  (sSeq (sIf (tBorS [7] (dTV (dNe (dDef (D__law_told fun _ _ => False) (aCons (dVar 2) (aCons (dVar 7) aNil))) (dDef D__law_due (aCons (dVar 7) (aCons (dVar 5) aNil)))))) (sRet (dC (.bl false))) sNext)
  (nS T__law_right_8))
def T__law_right_6 : DTS :=
  (sSeq (sPar 7 10 (aCons (dIx (dVar 6) (dC (.int 0))) (aCons (dDef D__law_take (aCons (dVar 0) (aCons (dCall kLen (aCons (dVar 5) aNil)) aNil))) aNil)))
  (nS T__law_right_7))
def T__law_right_5 : DTS :=
  (sSeq (sFor (iSeq (dTup (aCons (dIx (dVar 6) (dC (.int 0))) (aCons (dIx (dVar 6) (dC (.int 1))) (aCons (dIx (dVar 6) (dC (.int 0))) (aCons (dMul (dLst (aCons (dC (.int 0)) aNil)) (dCall kLen (aCons (dVar 5) aNil))) aNil)))))) (gName 7)
  (nS B__law_right_1))
  (nS T__law_right_6))
def T__law_right_4 : DTS :=
  (sSeq (sSet 6 (dLc (iRg1 (aCons (dC (.int 2)) aNil)) (gName 12) tYes (nE C__law_right_2) [12]))
  (nS T__law_right_5))
def T__law_right_3 : DTS :=
  (sSeq (sSet 5 (dLc (iRg1 (aCons (dMeth0 cl_Ground D_Ground_places (dVar 2)) aNil)) (gName 11) tYes (nE C__law_right_1) [11]))
  (nS T__law_right_4))
def T__law_right_2 : DTS :=
  (sSeq (sPar 3 4 (aCons (dMeth0 cl_Ground D_Ground_letters (dVar 2)) (aCons (dMeth0 cl_Ground D_Ground_depth (dVar 2)) aNil)))
  (nS T__law_right_3))
def T__law_right : DTS :=
  (sSeq (sSet 2 (dDef D__law_ground_of (aCons (dVar 0) (aCons (dVar 1) aNil))))
  (nS T__law_right_2))
abbrev D__law_right : DSp := fnD T__law_right 2 11
def T__law_box_m_2 : DTS :=
  (sRet (dLstM (aCons (dMul (dCall kAbs (aCons (dVar 2) aNil)) (dCall kInt1 (aCons (dGe (dCall kAbs (aCons (dVar 2) aNil)) (dPow (dC (.int 10)) (dC (.int 18)))) aNil))) (aCons (dMod (dMul (dAdd (dAdd (dMod (dVar 2) (dC (.int 2147483629))) (dMul (dC (.int 15485863)) (dVar 1))) (dC (.int 37))) (dC (.int 48271))) (dC (.int 2147483647))) (aCons (dC (.int 0)) aNil)))))
def T__law_box_m : DTS :=
  (sSeq (sSet 2 (dIf (dTV (dLt (dVar 1) (dCall kLen (aCons (dVar 0) aNil)))) (dIx (dVar 0) (dVar 1)) (dC (.int 0))))
  (nS T__law_box_m_2))
abbrev D__law_box_m : DSp := fnD T__law_box_m 2 1
def C_law_1 : DTE :=
  (dDef D__law_right (aCons (dDef D__law_box_m (aCons (dVar 1) (aCons (dVar 2) aNil))) (aCons (dEq (dVar 2) (dC (.int 0))) aNil)))
def T_law_2 : DTS :=
  (sRet (dCall kAll (aCons (dLc (iRg1 (aCons (dCall kMax (aCons (dC (.int 1)) (aCons (dCall kLen (aCons (dVar 1) aNil)) aNil))) aNil)) (gName 2) tYes (nE C_law_1) [2]) aNil)))
def T_law : DTS :=
  (sSeq (sSet 1 (dDef D__law_folded (aCons (dVar 0) (aCons (dC (.int 4)) aNil))))
  (nS T_law_2))
abbrev D_law : DSp := fnD T_law 1 2
structure Facts (K : PySem.W.Frag) (mg : Str → Option Value) where
  C_Ground : Addr
  n_Ground : PySem.W.nsIn K mainGlobals "Ground" = some (some (.ref C_Ground))
  k_Ground : Cls K C_Ground
  gc_Ground : mg "Ground" = some (.ref C_Ground)
  na_Ground_letter_count : NoAttr K C_Ground "letter_count"
  na_Ground_depth_count : NoAttr K C_Ground "depth_count"
  na_Ground_turn_list : NoAttr K C_Ground "turn_list"
  na_Ground_place_by_word : NoAttr K C_Ground "place_by_word"
  na_Ground_kept_powers : NoAttr K C_Ground "kept_powers"
  f__law_folded : Addr
  fd__law_folded : FuncData
  F__law_folded : Fun K "_law_folded" "_law_folded" s__law_folded f__law_folded fd__law_folded
  b__law_folded : Binds K fd__law_folded p__law_folded []
  g__law_folded : mg "_law_folded" = some (.ref f__law_folded)
  f__law_take : Addr
  fd__law_take : FuncData
  F__law_take : Fun K "_law_take" "_law_take" s__law_take f__law_take fd__law_take
  b__law_take : Binds K fd__law_take p__law_take []
  g__law_take : mg "_law_take" = some (.ref f__law_take)
  f__law_sizes : Addr
  fd__law_sizes : FuncData
  F__law_sizes : Fun K "_law_sizes" "_law_sizes" s__law_sizes f__law_sizes fd__law_sizes
  b__law_sizes : Binds K fd__law_sizes p__law_sizes []
  g__law_sizes : mg "_law_sizes" = some (.ref f__law_sizes)
  f_next_turnword : Addr
  fd_next_turnword : FuncData
  F_next_turnword : Fun K "next_turnword" "next_turnword" s_next_turnword f_next_turnword fd_next_turnword
  b_next_turnword : Binds K fd_next_turnword p_next_turnword []
  g_next_turnword : mg "next_turnword" = some (.ref f_next_turnword)
  f_turnwords : Addr
  fd_turnwords : FuncData
  F_turnwords : Fun K "turnwords" "turnwords" s_turnwords f_turnwords fd_turnwords
  b_turnwords : Binds K fd_turnwords p_turnwords []
  g_turnwords : mg "turnwords" = some (.ref f_turnwords)
  f_Ground_init : Addr
  fd_Ground_init : FuncData
  F_Ground_init : Fun K "__init__" "Ground.__init__" s_Ground_init f_Ground_init fd_Ground_init
  b_Ground_init : Binds K fd_Ground_init p_Ground_init []
  mk_Ground : Mk K C_Ground f_Ground_init
  f__law_ground_of : Addr
  fd__law_ground_of : FuncData
  F__law_ground_of : Fun K "_law_ground_of" "_law_ground_of" s__law_ground_of f__law_ground_of fd__law_ground_of
  b__law_ground_of : Binds K fd__law_ground_of p__law_ground_of []
  g__law_ground_of : mg "_law_ground_of" = some (.ref f__law_ground_of)
  f_Ground_letters : Addr
  fd_Ground_letters : FuncData
  F_Ground_letters : Fun K "letters" "Ground.letters" s_Ground_letters f_Ground_letters fd_Ground_letters
  b_Ground_letters : Binds K fd_Ground_letters p_Ground_letters []
  m_Ground_letters : Meth K C_Ground "letters" f_Ground_letters
  f_Ground_depth : Addr
  fd_Ground_depth : FuncData
  F_Ground_depth : Fun K "depth" "Ground.depth" s_Ground_depth f_Ground_depth fd_Ground_depth
  b_Ground_depth : Binds K fd_Ground_depth p_Ground_depth []
  m_Ground_depth : Meth K C_Ground "depth" f_Ground_depth
  f_Ground_places : Addr
  fd_Ground_places : FuncData
  F_Ground_places : Fun K "places" "Ground.places" s_Ground_places f_Ground_places fd_Ground_places
  b_Ground_places : Binds K fd_Ground_places p_Ground_places []
  m_Ground_places : Meth K C_Ground "places" f_Ground_places
  f_turns : Addr
  fd_turns : FuncData
  F_turns : Fun K "turns" "turns" s_turns f_turns fd_turns
  b_turns : Binds K fd_turns p_turns []
  g_turns : mg "turns" = some (.ref f_turns)
  f_is_turnword : Addr
  fd_is_turnword : FuncData
  F_is_turnword : Fun K "is_turnword" "is_turnword" s_is_turnword f_is_turnword fd_is_turnword
  b_is_turnword : Binds K fd_is_turnword p_is_turnword []
  g_is_turnword : mg "is_turnword" = some (.ref f_is_turnword)
  f_halves : Addr
  fd_halves : FuncData
  F_halves : Fun K "halves" "halves" s_halves f_halves fd_halves
  b_halves : Binds K fd_halves p_halves []
  g_halves : mg "halves" = some (.ref f_halves)
  f_Ground_parts_at : Addr
  fd_Ground_parts_at : FuncData
  F_Ground_parts_at : Fun K "parts_at" "Ground.parts_at" s_Ground_parts_at f_Ground_parts_at fd_Ground_parts_at
  b_Ground_parts_at : Binds K fd_Ground_parts_at p_Ground_parts_at []
  m_Ground_parts_at : Meth K C_Ground "parts_at" f_Ground_parts_at
  f_backed : Addr
  fd_backed : FuncData
  F_backed : Fun K "backed" "backed" s_backed f_backed fd_backed
  b_backed : Binds K fd_backed p_backed []
  g_backed : mg "backed" = some (.ref f_backed)
  f_bracketed : Addr
  fd_bracketed : FuncData
  F_bracketed : Fun K "bracketed" "bracketed" s_bracketed f_bracketed fd_bracketed
  b_bracketed : Binds K fd_bracketed p_bracketed []
  g_bracketed : mg "bracketed" = some (.ref f_bracketed)
  f_Ground_bracket_at : Addr
  fd_Ground_bracket_at : FuncData
  F_Ground_bracket_at : Fun K "bracket_at" "Ground.bracket_at" s_Ground_bracket_at f_Ground_bracket_at fd_Ground_bracket_at
  b_Ground_bracket_at : Binds K fd_Ground_bracket_at p_Ground_bracket_at []
  m_Ground_bracket_at : Meth K C_Ground "bracket_at" f_Ground_bracket_at
  f__law_number : Addr
  fd__law_number : FuncData
  F__law_number : Fun K "_law_number" "_law_number" s__law_number f__law_number fd__law_number
  b__law_number : Binds K fd__law_number p__law_number []
  g__law_number : mg "_law_number" = some (.ref f__law_number)
  f__law_drawn : Addr
  fd__law_drawn : FuncData
  F__law_drawn : Fun K "_law_drawn" "_law_drawn" s__law_drawn f__law_drawn fd__law_drawn
  b__law_drawn : Binds K fd__law_drawn p__law_drawn []
  g__law_drawn : mg "_law_drawn" = some (.ref f__law_drawn)
  f__law_backed : Addr
  fd__law_backed : FuncData
  F__law_backed : Fun K "_law_backed" "_law_backed" s__law_backed f__law_backed fd__law_backed
  b__law_backed : Binds K fd__law_backed p__law_backed []
  g__law_backed : mg "_law_backed" = some (.ref f__law_backed)
  f__law_due : Addr
  fd__law_due : FuncData
  F__law_due : Fun K "_law_due" "_law_due" s__law_due f__law_due fd__law_due
  b__law_due : Binds K fd__law_due p__law_due []
  g__law_due : mg "_law_due" = some (.ref f__law_due)
  f_joined : Addr
  fd_joined : FuncData
  F_joined : Fun K "joined" "joined" s_joined f_joined fd_joined
  b_joined : Binds K fd_joined p_joined []
  g_joined : mg "joined" = some (.ref f_joined)
  f_repeated : Addr
  fd_repeated : FuncData
  F_repeated : Fun K "repeated" "repeated" s_repeated f_repeated fd_repeated
  b_repeated : Binds K fd_repeated p_repeated []
  g_repeated : mg "repeated" = some (.ref f_repeated)
  f_spelled : Addr
  fd_spelled : FuncData
  F_spelled : Fun K "spelled" "spelled" s_spelled f_spelled fd_spelled
  b_spelled : Binds K fd_spelled p_spelled []
  g_spelled : mg "spelled" = some (.ref f_spelled)
  f__law_told : Addr
  fd__law_told : FuncData
  F__law_told : Fun K "_law_told" "_law_told" s__law_told f__law_told fd__law_told
  b__law_told : Binds K fd__law_told p__law_told []
  g__law_told : mg "_law_told" = some (.ref f__law_told)
  f__law_right : Addr
  fd__law_right : FuncData
  F__law_right : Fun K "_law_right" "_law_right" s__law_right f__law_right fd__law_right
  b__law_right : Binds K fd__law_right p__law_right []
  g__law_right : mg "_law_right" = some (.ref f__law_right)
  f__law_box : Addr
  fd__law_box : FuncData
  F__law_box : Fun K "_law_box" "_law_box" s__law_box f__law_box fd__law_box
  b__law_box : Binds K fd__law_box p__law_box []
  g__law_box : mg "_law_box" = some (.ref f__law_box)
  f_law : Addr
  fd_law : FuncData
  F_law : Fun K "law" "law" s_law f_law fd_law
  b_law : Binds K fd_law p_law []
  g_law : mg "law" = some (.ref f_law)
  E_BracketError : Addr
  en_BracketError : PySem.W.nsIn K mainGlobals "BracketError" = some (some (.ref E_BracketError))
  eg_BracketError : mg "BracketError" = some (.ref E_BracketError)
  E_TooLong : Addr
  en_TooLong : PySem.W.nsIn K mainGlobals "TooLong" = some (some (.ref E_TooLong))
  eg_TooLong : mg "TooLong" = some (.ref E_TooLong)
  E_BadName : Addr
  en_BadName : PySem.W.nsIn K mainGlobals "BadName" = some (some (.ref E_BadName))
  eg_BadName : mg "BadName" = some (.ref E_BadName)
  E_BadRow : Addr
  en_BadRow : PySem.W.nsIn K mainGlobals "BadRow" = some (some (.ref E_BadRow))
  eg_BadRow : mg "BadRow" = some (.ref E_BadRow)
  E_BadText : Addr
  en_BadText : PySem.W.nsIn K mainGlobals "BadText" = some (some (.ref E_BadText))
  eg_BadText : mg "BadText" = some (.ref E_BadText)
  E_NoGround : Addr
  en_NoGround : PySem.W.nsIn K mainGlobals "NoGround" = some (some (.ref E_NoGround))
  eg_NoGround : mg "NoGround" = some (.ref E_NoGround)
  E_NoLetter : Addr
  en_NoLetter : PySem.W.nsIn K mainGlobals "NoLetter" = some (some (.ref E_NoLetter))
  eg_NoLetter : mg "NoLetter" = some (.ref E_NoLetter)
  E_NoName : Addr
  en_NoName : PySem.W.nsIn K mainGlobals "NoName" = some (some (.ref E_NoName))
  eg_NoName : mg "NoName" = some (.ref E_NoName)
  E_NoPlace : Addr
  en_NoPlace : PySem.W.nsIn K mainGlobals "NoPlace" = some (some (.ref E_NoPlace))
  eg_NoPlace : mg "NoPlace" = some (.ref E_NoPlace)
  E_NoPut : Addr
  en_NoPut : PySem.W.nsIn K mainGlobals "NoPut" = some (some (.ref E_NoPut))
  eg_NoPut : mg "NoPut" = some (.ref E_NoPut)
  E_NoRules : Addr
  en_NoRules : PySem.W.nsIn K mainGlobals "NoRules" = some (some (.ref E_NoRules))
  eg_NoRules : mg "NoRules" = some (.ref E_NoRules)
  E_Ring : Addr
  en_Ring : PySem.W.nsIn K mainGlobals "Ring" = some (some (.ref E_Ring))
  eg_Ring : mg "Ring" = some (.ref E_Ring)
  E_TooGreat : Addr
  en_TooGreat : PySem.W.nsIn K mainGlobals "TooGreat" = some (some (.ref E_TooGreat))
  eg_TooGreat : mg "TooGreat" = some (.ref E_TooGreat)
  ex_TooLong : XCls K E_TooLong
  ei_TooLong : XIs K E_TooLong
  em_TooLong_BracketError : PySem.W.exmOne K (.ref E_TooLong) (.ref E_BracketError) = some true
  ki_0 : PySem.W.kitAny K (.ref E_TooLong) [.ref E_BadName, .ref E_BadRow, .ref E_BadText, .ref E_NoGround, .ref E_NoLetter, .ref E_NoName, .ref E_NoPlace, .ref E_NoPut] = some false
  ki_1 : PySem.W.kitOne K (.ref E_TooLong) (.type "ValueError") = some true
  ki_2 : PySem.W.kitAny K (.ref E_TooLong) [.ref E_NoRules, .ref E_Ring, .ref E_TooGreat] = some false
  ki_3 : PySem.W.kitOne K (.ref E_TooLong) (.ref E_TooLong) = some true
  g_turnwords_turning : mg "turnwords_turning" = some (.ref f_turnwords)
  t_MOST_BOTH : Tok
  v_MOST_BOTH : mg "MOST_BOTH" = some (.int 7 t_MOST_BOTH)
  t_MOST_DEPTH : Tok
  v_MOST_DEPTH : mg "MOST_DEPTH" = some (.int 5 t_MOST_DEPTH)
  t_MOST_LETTERS : Tok
  v_MOST_LETTERS : mg "MOST_LETTERS" = some (.int 4 t_MOST_LETTERS)
  t_MOST_STEPS : Tok
  v_MOST_STEPS : mg "MOST_STEPS" = some (.int 600 t_MOST_STEPS)
  m_ValueError : mg "ValueError" = none
  m_abs : mg "abs" = none
  m_all : mg "all" = none
  m_divmod : mg "divmod" = none
  m_enumerate : mg "enumerate" = none
  m_int : mg "int" = none
  m_isinstance : mg "isinstance" = none
  m_len : mg "len" = none
  m_list : mg "list" = none
  m_max : mg "max" = none
  m_range : mg "range" = none
  m_reversed : mg "reversed" = none
  m_sum : mg "sum" = none
  m_tuple : mg "tuple" = none
  m_zip : mg "zip" = none
section
variable {P : Program} {w : World} {K : PySem.W.Frag} {mg : Str → Option Value} {base : Heap}
theorem ok__law_folded (T : Facts K mg) : FnG P w K mg base 1 T.f__law_folded T.fd__law_folded p__law_folded D__law_folded := by
  refine fn_ok T.F__law_folded sc__law_folded rfl fun cdv A outer s H E hr hgd => ?_
  refine dss_cons ?_ ?_
  · exact (ds_set (i := 2) sc__law_folded.nd rfl (.inl rfl) (de_callT call_list_of kListM_ok (by rfl) T.m_list (by decide +kernel) (da_cons (de_sl (de_var 0) dp_no (dp_sm (de_var 1))) da_nil)))
  refine dss_nS ?_
  refine dss_cons ?_ ?_
  · exact (ds_for (vs := [3, 4]) PassesOwn.never rfl (di_enum (by rfl) T.m_enumerate (da_cons (de_sl (de_var 0) (dp_sm (de_var 1)) (dp_sm de_int)) da_nil)) (dg_tup rfl (dgs_cons (dg_name (i := 3) sc__law_folded.nd rfl (.inl rfl) (by decide)) (dgs_cons (dg_name (i := 4) sc__law_folded.nd rfl (.inl rfl) (by decide)) dgs_nil)))
      (dss_nS (dss_one (ds_asg (vs := []) (de_add (de_ix (de_var 2) (de_mod (de_var 3) (de_var 1))) (de_mul (de_var 4) (de_add (de_var 3) de_int))) (dg_sub set_list kSetL_ok (de_var 2) (de_mod (de_var 3) (de_var 1)))))))
  refine dss_nS ?_
  refine dss_one ?_
  exact (ds_ret (de_frz (de_var 2)))
theorem ok__law_take (T : Facts K mg) : FnG P w K mg base 1 T.f__law_take T.fd__law_take p__law_take D__law_take := by
  refine fn_ok T.F__law_take sc__law_take rfl fun cdv A outer s H E hr hgd => ?_
  refine dss_cons ?_ ?_
  · exact (ds_if (dt_gt (de_ix (de_var 0) de_int) de_int) (dss_cons (ds_asg (vs := [2]) (de_callB call_divmod kDivmod_ok (by rfl) T.m_divmod (by decide +kernel) (da_cons (de_ix (de_var 0) de_int) (da_cons (de_var 1) da_nil))) (dg_tup rfl (dgs_cons (dg_sub set_list kSetL_ok (de_var 0) de_int) (dgs_cons (dg_name (i := 2) sc__law_take.nd rfl (.inl rfl) (by decide)) dgs_nil))))
      (dss_one (ds_ret (de_var 2)))) dss_nil)
  refine dss_nS ?_
  refine dss_cons ?_ ?_
  · exact (ds_asg (vs := []) (de_add (de_ix (de_var 0) de_int) de_int) (dg_sub set_list kSetL_ok (de_var 0) de_int))
  refine dss_nS ?_
  refine dss_cons ?_ ?_
  · exact (ds_set (i := 3) sc__law_take.nd rfl (.inl rfl) (de_add de_int (de_mul (de_ix (de_var 0) de_int) (de_ix (de_var 0) de_int))))
  refine dss_nS ?_
  refine dss_cons ?_ ?_
  · exact (ds_set (i := 4) sc__law_take.nd rfl (.inl rfl) (de_mod (de_mul (de_add (de_ix (de_var 0) de_int) (de_mul de_int (de_ix (de_var 0) de_int))) (de_var 3)) de_int))
  refine dss_nS ?_
  refine dss_cons ?_ ?_
  · exact (ds_set (i := 5) sc__law_take.nd rfl (.inl rfl) (de_mod (de_add (de_mul (de_var 4) (de_add (de_mod (de_var 4) de_int) de_int)) (de_ix (de_var 0) de_int)) de_int))
  refine dss_nS ?_
  refine dss_one ?_
  exact (ds_ret (de_mod (de_div (de_mod (de_mul (de_var 5) (de_add (de_mod (de_var 5) de_int) de_int)) de_int) de_int) (de_var 1)))
theorem ok__law_sizes (T : Facts K mg) : FnG P w K mg base 2 T.f__law_sizes T.fd__law_sizes p__law_sizes D__law_sizes := by
  refine fn_ok T.F__law_sizes sc__law_sizes rfl fun cdv A outer s H E hr hgd => ?_
  refine dss_cons ?_ ?_
  · exact (ds_if (dt_eq hr.units (de_call (ok__law_take T) (hr.mono (by decide)) hgd (by rfl) T.g__law_take T.F__law_take.kp T.b__law_take (da_cons (de_var 0) (da_cons de_int da_nil))) de_int) (dss_one (ds_ret (de_ix (de_lit (d := .lst [.tup [.int 2, .int 5], .tup [.int 3, .int 4], .tup [.int 4, .int 3]]) 4 (by decide +kernel)) (de_call (ok__law_take T) (hr.mono (by decide)) hgd (by rfl) T.g__law_take T.F__law_take.kp T.b__law_take (da_cons (de_var 0) (da_cons de_int da_nil)))))) dss_nil)
  refine dss_nS ?_
  refine dss_cons ?_ ?_
  · exact (ds_set (i := 1) sc__law_sizes.nd rfl (.inl rfl) (de_lit (d := .lst [.tup [.int 2, .int 2], .tup [.int 2, .int 3], .tup [.int 2, .int 4], .tup [.int 3, .int 2], .tup [.int 3, .int 3], .tup [.int 4, .int 2]]) 4 (by decide +kernel)))
  refine dss_nS ?_
  refine dss_cons ?_ ?_
  · exact (ds_if (dt_eq hr.units (de_call (ok__law_take T) (hr.mono (by decide)) hgd (by rfl) T.g__law_take T.F__law_take.kp T.b__law_take (da_cons (de_var 0) (da_cons de_int da_nil))) de_int) (dss_one (ds_set (i := 1) sc__law_sizes.nd rfl (.inl rfl) (de_lit (d := .lst [.tup [.int 1, .int 1], .tup [.int 1, .int 2], .tup [.int 1, .int 3], .tup [.int 1, .int 4], .tup [.int 1, .int 5], .tup [.int 2, .int 1], .tup [.int 3, .int 1], .tup [.int 4, .int 1]]) 4 (by decide +kernel)))) dss_nil)
  refine dss_nS ?_
  refine dss_one ?_
  exact (ds_ret (de_ix (de_var 1) (de_call (ok__law_take T) (hr.mono (by decide)) hgd (by rfl) T.g__law_take T.F__law_take.kp T.b__law_take (da_cons (de_var 0) (da_cons (de_len (by rfl) T.m_len (de_var 1)) da_nil)))))
theorem ok_next_turnword (T : Facts K mg) : FnG P w K mg base 1 T.f_next_turnword T.fd_next_turnword p_next_turnword D_next_turnword := by
  refine fn_ok T.F_next_turnword sc_next_turnword rfl fun cdv A outer s H E hr hgd => ?_
  refine dss_cons ?_ ?_
  · exact (ds_set (i := 3) sc_next_turnword.nd rfl (.inl rfl) (de_sl (de_mul (de_var 0) (de_var 2)) dp_no (dp_sm (de_var 2))))
  refine dss_nS ?_
  refine dss_cons ?_ ?_
  · exact (ds_while PassesOwn.never (dw_dt (dw_and (dt_gt (de_len (by rfl) T.m_len (de_var 3)) de_int) (dw_and1 (dt_eq hr.units (de_ix (de_var 3) (de_neg de_int)) (de_var 1))))) (dss_nS (dss_one (ds_set (i := 3) sc_next_turnword.nd rfl (.inl rfl) (de_sl (de_var 3) dp_no (dp_sm (de_neg de_int)))))))
  refine dss_nS ?_
  refine dss_cons ?_ ?_
  · exact (ds_if (dt_eq hr.units (de_len (by rfl) T.m_len (de_var 3)) de_int) (dss_one (ds_ret (de_tup da_nil))) dss_nil)
  refine dss_nS ?_
  refine dss_one ?_
  exact (ds_ret (de_add (de_sl (de_var 3) dp_no (dp_sm (de_neg de_int))) (de_tup (da_cons (de_add (de_ix (de_var 3) (de_neg de_int)) de_int) da_nil))))
theorem ok_turnwords (T : Facts K mg) : FnG P w K mg base 2 T.f_turnwords T.fd_turnwords p_turnwords D_turnwords := by
  refine fn_ok T.F_turnwords sc_turnwords rfl fun cdv A outer s H E hr hgd => ?_
  refine dss_cons ?_ ?_
  · exact (ds_set (i := 2) sc_turnwords.nd rfl (.inl rfl) (de_lstM da_nil))
  refine dss_nS ?_
  refine dss_cons ?_ ?_
  · exact (ds_set (i := 3) sc_turnwords.nd rfl (.inl rfl) (de_tup (da_cons de_int da_nil)))
  refine dss_nS ?_
  refine dss_cons ?_ ?_
  · exact (ds_while PassesOwn.never (dt_gt (de_len (by rfl) T.m_len (de_var 3)) de_int) (dss_nS (dss_cons (ds_if (dt_eq hr.units (de_len (by rfl) T.m_len (de_var 3)) (de_var 1)) (dss_one (ds_expr (de_append (de_var 2) (de_var 3)))) dss_nil)
      (dss_one (ds_set (i := 3) sc_turnwords.nd rfl (.inl rfl) (de_call (ok_next_turnword T) (hr.mono (by decide)) hgd (by rfl) T.g_next_turnword T.F_next_turnword.kp T.b_next_turnword (da_cons (de_var 3) (da_cons (de_var 0) (da_cons (de_var 1) da_nil)))))))))
  refine dss_nS ?_
  refine dss_one ?_
  exact (ds_ret (de_frz (de_var 2)))
theorem ok_Ground_init (T : Facts K mg) : FnG P w K mg base 3 T.f_Ground_init T.fd_Ground_init p_Ground_init D_Ground_init := by
  refine fn_ok T.F_Ground_init sc_Ground_init rfl fun cdv A outer s H E hr hgd => ?_
  refine dss_cons ?_ ?_
  · exact (ds_if (dw_dt (dw_or (dt_not (dt_chain op_le op_le kLe_ok kLe_ok de_int (de_var 1) (de_glob (by rfl) T.v_MOST_LETTERS))) (dw_or (dt_not (dt_chain op_le op_le kLe_ok kLe_ok de_int (de_var 2) (de_glob (by rfl) T.v_MOST_DEPTH))) (dw_or1 (dt_gt (de_add (de_var 1) (de_var 2)) (de_glob (by rfl) T.v_MOST_BOTH)))))) (dss_one ds_never) dss_nil)
  refine dss_nS ?_
  refine dss_cons ?_ ?_
  · exact (ds_fld 0 rfl (by decide +kernel) (by decide +kernel) T.n_Ground T.k_Ground T.na_Ground_letter_count (de_var 0) (de_var 1))
  refine dss_nS ?_
  refine dss_cons ?_ ?_
  · exact (ds_fld 1 rfl (by decide +kernel) (by decide +kernel) T.n_Ground T.k_Ground T.na_Ground_depth_count (de_var 0) (de_var 2))
  refine dss_nS ?_
  refine dss_cons ?_ ?_
  · exact (ds_fld 2 rfl (by decide +kernel) (by decide +kernel) T.n_Ground T.k_Ground T.na_Ground_turn_list (de_var 0) (de_lstM da_nil))
  refine dss_nS ?_
  refine dss_cons ?_ ?_
  · exact (ds_for (vs := [3]) PassesOwn.never rfl (di_range2 (by rfl) T.m_range (da_cons de_int (da_cons (de_add (de_var 2) de_int) da_nil))) (dg_name (i := 3) sc_Ground_init.nd rfl (.inl rfl) (by decide))
      (dss_nS (dss_one (ds_expr (de_mt PySem.F.slot_list_extend PySem.F.type_list_extend mt_extend kExtend_ok (de_fld 2 rfl (by decide +kernel) T.n_Ground T.k_Ground T.na_Ground_turn_list (de_var 0)) (da_cons (de_call (ok_turnwords T) (hr.mono (by decide)) hgd (by rfl) T.g_turnwords_turning T.F_turnwords.kp T.b_turnwords (da_cons (de_var 1) (da_cons (de_var 3) da_nil))) da_nil))))))
  refine dss_nS ?_
  refine dss_cons ?_ ?_
  · exact (ds_fld 3 rfl (by decide +kernel) (by decide +kernel) T.n_Ground T.k_Ground T.na_Ground_place_by_word (de_var 0) (de_newT))
  refine dss_nS ?_
  refine dss_cons ?_ ?_
  · exact (ds_for (vs := [4, 5]) PassesOwn.never rfl (di_enum (by rfl) T.m_enumerate (da_cons (de_fzF 2 rfl (by decide +kernel) T.n_Ground T.k_Ground T.na_Ground_turn_list (de_var 0)) da_nil)) (dg_tup rfl (dgs_cons (dg_name (i := 4) sc_Ground_init.nd rfl (.inl rfl) (by decide)) (dgs_cons (dg_name (i := 5) sc_Ground_init.nd rfl (.inl rfl) (by decide)) dgs_nil)))
      (dss_nS (dss_one (ds_putD hr (de_fld 3 rfl (by decide +kernel) T.n_Ground T.k_Ground T.na_Ground_place_by_word (de_var 0)) (de_var 5) (de_var 4)))))
  refine dss_nS ?_
  refine dss_one ?_
  exact (ds_fld 4 rfl (by decide +kernel) (by decide +kernel) T.n_Ground T.k_Ground T.na_Ground_kept_powers (de_var 0) (de_newK))
theorem ok__law_ground_of (T : Facts K mg) : FnG P w K mg base 5 T.f__law_ground_of T.fd__law_ground_of p__law_ground_of D__law_ground_of := by
  refine fn_ok T.F__law_ground_of sc__law_ground_of rfl fun cdv A outer s H E hr hgd => ?_
  refine dss_cons ?_ ?_
  · exact (ds_asg (vs := [2, 3]) (de_call (ok__law_sizes T) (hr.mono (by decide)) hgd (by rfl) T.g__law_sizes T.F__law_sizes.kp T.b__law_sizes (da_cons (de_var 0) da_nil)) (dg_tup rfl (dgs_cons (dg_name (i := 2) sc__law_ground_of.nd rfl (.inl rfl) (by decide)) (dgs_cons (dg_name (i := 3) sc__law_ground_of.nd rfl (.inl rfl) (by decide)) dgs_nil))))
  refine dss_nS ?_
  refine dss_one ?_
  exact (ds_ret (de_make T.n_Ground T.mk_Ground (ok_Ground_init T) (hr.mono (by decide)) hgd (by rfl) T.gc_Ground T.b_Ground_init (da_cons (de_var 2) (da_cons (de_if (dw_dt (dw_or (dt_val (de_var 1)) (dw_or1 (dt_lt hr.units0 (de_add (de_var 2) (de_var 3)) de_int)))) (de_var 3) (de_sub (de_var 3) de_int)) da_nil))))
theorem ok_Ground_letters (T : Facts K mg) : FnG P w K mg base 1 T.f_Ground_letters T.fd_Ground_letters p_Ground_letters D_Ground_letters := by
  refine fn_ok T.F_Ground_letters sc_Ground_letters rfl fun cdv A outer s H E hr hgd => ?_
  refine dss_one ?_
  exact (ds_ret (de_fld 0 rfl (by decide +kernel) T.n_Ground T.k_Ground T.na_Ground_letter_count (de_var 0)))
theorem ok_Ground_depth (T : Facts K mg) : FnG P w K mg base 1 T.f_Ground_depth T.fd_Ground_depth p_Ground_depth D_Ground_depth := by
  refine fn_ok T.F_Ground_depth sc_Ground_depth rfl fun cdv A outer s H E hr hgd => ?_
  refine dss_one ?_
  exact (ds_ret (de_fld 1 rfl (by decide +kernel) T.n_Ground T.k_Ground T.na_Ground_depth_count (de_var 0)))
theorem ok_Ground_places (T : Facts K mg) : FnG P w K mg base 1 T.f_Ground_places T.fd_Ground_places p_Ground_places D_Ground_places := by
  refine fn_ok T.F_Ground_places sc_Ground_places rfl fun cdv A outer s H E hr hgd => ?_
  refine dss_one ?_
  exact (ds_ret (de_len (by rfl) T.m_len (de_fld 2 rfl (by decide +kernel) T.n_Ground T.k_Ground T.na_Ground_turn_list (de_var 0))))
theorem ok_turns (T : Facts K mg) : FnG P w K mg base 1 T.f_turns T.fd_turns p_turns D_turns := by
  refine fn_ok T.F_turns sc_turns rfl fun cdv A outer s H E hr hgd => ?_
  refine dss_one ?_
  exact (ds_ret (de_lc (own := [("place", 1)]) rfl sc_turns.nd (di_range1 (by rfl) T.m_range (da_cons (de_len (by rfl) T.m_len (de_var 0)) da_nil)) (blkOk_by (N := N_turns) (sc := defScope s_turns) (by decide +kernel)) (fun _ _ _ _ _ => (dg_name (i := 1) sc_turns.nd rfl (.inl rfl) (by decide))) (fun _ _ _ _ _ => dts_nil) (fun _ _ _ _ _ => (de_nE (de_add (de_callT call_tuple_of kTuple_ok (by rfl) T.m_tuple (by decide +kernel) (da_cons (de_sl (de_var 0) (dp_sm (de_var 1)) dp_no) da_nil)) (de_callT call_tuple_of kTuple_ok (by rfl) T.m_tuple (by decide +kernel) (da_cons (de_sl (de_var 0) dp_no (dp_sm (de_var 1))) da_nil)))))))
theorem ok_is_turnword (T : Facts K mg) : FnG P w K mg base 2 T.f_is_turnword T.fd_is_turnword p_is_turnword D_is_turnword := by
  refine fn_ok T.F_is_turnword sc_is_turnword rfl fun cdv A outer s H E hr hgd => ?_
  refine dss_one ?_
  exact (ds_ret (de_and (de_gt (de_len (by rfl) T.m_len (de_var 0)) de_int) (de_one (de_callB (cr_all rfl) kAll_ok (by rfl) T.m_all (by decide +kernel) (da_cons (de_lc (own := [("turn", 1)]) rfl sc_is_turnword.nd (di_seq (de_sl (de_call (ok_turns T) (hr.mono (by decide)) hgd (by rfl) T.g_turns T.F_turns.kp T.b_turns (da_cons (de_var 0) da_nil)) (dp_sm de_int) dp_no)) (blkOk_by (N := N_is_turnword) (sc := defScope s_is_turnword) (by decide +kernel)) (fun _ _ _ _ _ => (dg_name (i := 1) sc_is_turnword.nd rfl (.inl rfl) (by decide))) (fun _ _ _ _ _ => dts_nil) (fun _ _ _ _ _ => (de_nE (de_lt hr.units0 (de_callT call_tuple_of kTuple_ok (by rfl) T.m_tuple (by decide +kernel) (da_cons (de_var 0) da_nil)) (de_var 1))))) da_nil)))))
theorem ok_halves (T : Facts K mg) : FnG P w K mg base 3 T.f_halves T.fd_halves p_halves D_halves := by
  refine fn_ok T.F_halves sc_halves rfl fun cdv A outer s H E hr hgd => ?_
  refine dss_cons ?_ ?_
  · exact (ds_set (i := 1) sc_halves.nd rfl (.inl rfl) de_int)
  refine dss_nS ?_
  refine dss_cons ?_ ?_
  · exact (ds_while PassesOwn.never (dw_dt (dw_and (dt_lt hr.units0 (de_var 1) (de_sub (de_len (by rfl) T.m_len (de_var 0)) de_int)) (dw_and1 (dt_not (dt_val (de_call (ok_is_turnword T) (hr.mono (by decide)) hgd (by rfl) T.g_is_turnword T.F_is_turnword.kp T.b_is_turnword (da_cons (de_sl (de_var 0) (dp_sm (de_var 1)) dp_no) da_nil))))))) (dss_nS (dss_one (ds_aug (i := 1) sc_halves.nd rfl (.inl rfl) iop_add2 kAdd2_ok de_int))))
  refine dss_nS ?_
  refine dss_one ?_
  exact (ds_ret (de_tup (da_cons (de_callT call_tuple_of kTuple_ok (by rfl) T.m_tuple (by decide +kernel) (da_cons (de_sl (de_var 0) dp_no (dp_sm (de_var 1))) da_nil)) (da_cons (de_callT call_tuple_of kTuple_ok (by rfl) T.m_tuple (by decide +kernel) (da_cons (de_sl (de_var 0) (dp_sm (de_var 1)) dp_no) da_nil)) da_nil))))
theorem ok_Ground_parts_at (T : Facts K mg) : FnG P w K mg base 4 T.f_Ground_parts_at T.fd_Ground_parts_at p_Ground_parts_at D_Ground_parts_at := by
  refine fn_ok T.F_Ground_parts_at sc_Ground_parts_at rfl fun cdv A outer s H E hr hgd => ?_
  refine dss_cons ?_ ?_
  · exact (ds_set (i := 2) sc_Ground_parts_at.nd rfl (.inl rfl) (de_ix (de_fld 2 rfl (by decide +kernel) T.n_Ground T.k_Ground T.na_Ground_turn_list (de_var 0)) (de_var 1)))
  refine dss_nS ?_
  refine dss_cons ?_ ?_
  · exact (ds_if (dt_eq hr.units (de_len (by rfl) T.m_len (de_var 2)) de_int) (dss_one (ds_ret de_non)) dss_nil)
  refine dss_nS ?_
  refine dss_cons ?_ ?_
  · exact (ds_asg (vs := [3, 4]) (de_call (ok_halves T) (hr.mono (by decide)) hgd (by rfl) T.g_halves T.F_halves.kp T.b_halves (da_cons (de_var 2) da_nil)) (dg_tup rfl (dgs_cons (dg_name (i := 3) sc_Ground_parts_at.nd rfl (.inl rfl) (by decide)) (dgs_cons (dg_name (i := 4) sc_Ground_parts_at.nd rfl (.inl rfl) (by decide)) dgs_nil))))
  refine dss_nS ?_
  refine dss_one ?_
  exact (ds_ret (de_tup (da_cons (de_getD hr (de_fld 3 rfl (by decide +kernel) T.n_Ground T.k_Ground T.na_Ground_place_by_word (de_var 0)) (de_var 3)) (da_cons (de_getD hr (de_fld 3 rfl (by decide +kernel) T.n_Ground T.k_Ground T.na_Ground_place_by_word (de_var 0)) (de_var 4)) da_nil))))
theorem ok_backed (T : Facts K mg) : FnG P w K mg base 1 T.f_backed T.fd_backed p_backed D_backed := by
  refine fn_ok T.F_backed sc_backed rfl fun cdv A outer s H E hr hgd => ?_
  refine dss_one ?_
  exact (ds_ret (de_callT call_tuple_of kTuple_ok (by rfl) T.m_tuple (by decide +kernel) (da_cons (de_lc (own := [("step", 1)]) rfl sc_backed.nd (di_rev (by rfl) T.m_reversed (de_var 0)) (blkOk_by (N := N_backed) (sc := defScope s_backed) (by decide +kernel)) (fun _ _ _ _ _ => (dg_name (i := 1) sc_backed.nd rfl (.inl rfl) (by decide))) (fun _ _ _ _ _ => dts_nil) (fun _ _ _ _ _ => (de_nE (de_neg (de_var 1))))) da_nil)))
theorem ok_bracketed (T : Facts K mg) : FnG P w K mg base 2 T.f_bracketed T.fd_bracketed p_bracketed D_bracketed := by
  refine fn_ok T.F_bracketed sc_bracketed rfl fun cdv A outer s H E hr hgd => ?_
  refine dss_one ?_
  exact (ds_ret (de_add (de_add (de_add (de_call (ok_backed T) (hr.mono (by decide)) hgd (by rfl) T.g_backed T.F_backed.kp T.b_backed (da_cons (de_var 0) da_nil)) (de_call (ok_backed T) (hr.mono (by decide)) hgd (by rfl) T.g_backed T.F_backed.kp T.b_backed (da_cons (de_var 1) da_nil))) (de_callT call_tuple_of kTuple_ok (by rfl) T.m_tuple (by decide +kernel) (da_cons (de_var 0) da_nil))) (de_callT call_tuple_of kTuple_ok (by rfl) T.m_tuple (by decide +kernel) (da_cons (de_var 1) da_nil))))
theorem ok_Ground_bracket_at (T : Facts K mg) : ∀ n, FnG P w K mg base (4 + n) T.f_Ground_bracket_at T.fd_Ground_bracket_at p_Ground_bracket_at (D_Ground_bracket_at n)
  | 0 => ⟨fun ds l Q h => h.elim, fun A outer s H args us vs Q E hr hg e hb r ⟨F, Fr, ds, l, Qd, a, b, c, d⟩ => c.elim⟩
  | n + 1 => by
    refine fn_ok (k := 4 + n) T.F_Ground_bracket_at sc_Ground_bracket_at rfl fun cdv A outer s H E hr hgd => ?_
    refine dss_cons ?_ ?_
    · exact (ds_set (i := 2) sc_Ground_bracket_at.nd rfl (.inl rfl) (de_meth T.n_Ground T.k_Ground T.m_Ground_parts_at (by decide +kernel) (ok_Ground_parts_at T) (hr.mono (by omega)) hgd T.b_Ground_parts_at (de_var 0) (da_cons (de_var 1) da_nil)))
    refine dss_nS ?_
    refine dss_cons ?_ ?_
    · exact (ds_if (dt_isN (de_var 2) de_non) (dss_one (ds_ret (de_ix (de_fld 2 rfl (by decide +kernel) T.n_Ground T.k_Ground T.na_Ground_turn_list (de_var 0)) (de_var 1)))) dss_nil)
    refine dss_nS ?_
    refine dss_one ?_
    exact (ds_ret (de_call (ok_bracketed T) (hr.mono (by omega)) hgd (by rfl) T.g_bracketed T.F_bracketed.kp T.b_bracketed (da_cons (de_meth T.n_Ground T.k_Ground T.m_Ground_bracket_at (by decide +kernel) (ok_Ground_bracket_at T n) (hr.mono (by omega)) hgd T.b_Ground_bracket_at (de_var 0) (da_cons (de_ix (de_var 2) de_int) da_nil)) (da_cons (de_meth T.n_Ground T.k_Ground T.m_Ground_bracket_at (by decide +kernel) (ok_Ground_bracket_at T n) (hr.mono (by omega)) hgd T.b_Ground_bracket_at (de_var 0) (da_cons (de_ix (de_var 2) de_int) da_nil)) da_nil))))
theorem ok__law_number (T : Facts K mg) : FnG P w K mg base 2 T.f__law_number T.fd__law_number p__law_number D__law_number := by
  refine fn_ok T.F__law_number sc__law_number rfl fun cdv A outer s H E hr hgd => ?_
  refine dss_cons ?_ ?_
  · exact (ds_par3 (i := 1) (j := 2) (k := 3) rfl sc__law_number.nd rfl rfl rfl (by decide) (by decide) (by decide) rfl rfl rfl (da_cons (de_call (ok__law_take T) (hr.mono (by decide)) hgd (by rfl) T.g__law_take T.F__law_take.kp T.b__law_take (da_cons (de_var 0) (da_cons de_int da_nil))) (da_cons (de_sub de_int (de_mul de_int (de_call (ok__law_take T) (hr.mono (by decide)) hgd (by rfl) T.g__law_take T.F__law_take.kp T.b__law_take (da_cons (de_var 0) (da_cons de_int da_nil))))) (da_cons de_int da_nil))) (by rfl))
  refine dss_nS ?_
  refine dss_cons ?_ ?_
  · exact (ds_if (dt_lt hr.units0 (de_var 1) de_int) (dss_one (ds_ret (de_mul (de_var 1) (de_var 2)))) dss_nil)
  refine dss_nS ?_
  refine dss_cons ?_ ?_
  · exact (ds_if (dt_lt hr.units0 (de_var 1) de_int) (dss_one (ds_ret (de_mul (de_call (ok__law_take T) (hr.mono (by decide)) hgd (by rfl) T.g__law_take T.F__law_take.kp T.b__law_take (da_cons (de_var 0) (da_cons (de_ix (de_lst (da_cons de_int (da_cons de_int (da_cons (de_pow de_int de_int) da_nil)))) (de_sub (de_var 1) de_int)) da_nil))) (de_var 2)))) dss_nil)
  refine dss_nS ?_
  refine dss_cons ?_ ?_
  · exact (ds_for (vs := [4]) PassesOwn.never rfl (di_range1 (by rfl) T.m_range (da_cons de_int da_nil)) (dg_name (i := 4) sc__law_number.nd rfl (.inl rfl) (by decide))
      (dss_nS (dss_one (ds_set (i := 3) sc__law_number.nd rfl (.inl rfl) (de_add (de_mul (de_var 3) (de_pow de_int de_int)) (de_call (ok__law_take T) (hr.mono (by decide)) hgd (by rfl) T.g__law_take T.F__law_take.kp T.b__law_take (da_cons (de_var 0) (da_cons (de_pow de_int de_int) da_nil))))))))
  refine dss_nS ?_
  refine dss_one ?_
  exact (ds_ret (de_mul (de_mod (de_var 3) (de_sub (de_pow de_int de_int) de_int)) (de_var 2)))
theorem ok__law_drawn_m (T : Facts K mg) : FnG P w K mg base 3 T.f__law_drawn T.fd__law_drawn p__law_drawn D__law_drawn_m := by
  refine fn_ok T.F__law_drawn sc__law_drawn rfl fun cdv A outer s H E hr hgd => ?_
  refine dss_cons ?_ ?_
  · exact (ds_par3 (i := 2) (j := 3) (k := 4) rfl sc__law_drawn.nd rfl rfl rfl (by decide) (by decide) (by decide) rfl rfl rfl (da_cons (de_mulM (de_lst (da_cons de_int da_nil)) (de_len (by rfl) T.m_len (de_var 1))) (da_cons (de_call (ok__law_take T) (hr.mono (by decide)) hgd (by rfl) T.g__law_take T.F__law_take.kp T.b__law_take (da_cons (de_var 0) (da_cons de_int da_nil))) (da_cons (de_eq hr.units (de_call (ok__law_take T) (hr.mono (by decide)) hgd (by rfl) T.g__law_take T.F__law_take.kp T.b__law_take (da_cons (de_var 0) (da_cons de_int da_nil))) de_int) da_nil))) (by rfl))
  refine dss_nS ?_
  refine dss_cons ?_ ?_
  · exact (ds_for (vs := [5]) PassesOwn.never rfl (di_range1 (by rfl) T.m_range (da_cons (de_call (ok__law_take T) (hr.mono (by decide)) hgd (by rfl) T.g__law_take T.F__law_take.kp T.b__law_take (da_cons (de_var 0) (da_cons de_int da_nil))) da_nil)) (dg_name (i := 5) sc__law_drawn.nd rfl (.inl rfl) (by decide))
      (dss_nS (dss_cons (ds_par (i := 6) (j := 7) rfl sc__law_drawn.nd rfl rfl (by decide) rfl rfl (da_cons (de_call (ok__law_take T) (hr.mono (by decide)) hgd (by rfl) T.g__law_take T.F__law_take.kp T.b__law_take (da_cons (de_var 0) (da_cons (de_len (by rfl) T.m_len (de_var 2)) da_nil))) (da_cons (de_add de_int (de_call (ok__law_take T) (hr.mono (by decide)) hgd (by rfl) T.g__law_take T.F__law_take.kp T.b__law_take (da_cons (de_var 0) (da_cons (de_ix (de_lst (da_cons de_int (da_cons de_int (da_cons de_int da_nil)))) (de_call (ok__law_take T) (hr.mono (by decide)) hgd (by rfl) T.g__law_take T.F__law_take.kp T.b__law_take (da_cons (de_var 0) (da_cons de_int da_nil)))) da_nil)))) da_nil)) (by rfl))
      (dss_one (ds_asg (vs := []) (de_mul (de_var 7) (de_sub de_int (de_mul de_int (de_call (ok__law_take T) (hr.mono (by decide)) hgd (by rfl) T.g__law_take T.F__law_take.kp T.b__law_take (da_cons (de_var 0) (da_cons de_int da_nil)))))) (dg_sub set_list kSetL_ok (de_var 2) (de_var 6)))))))
  refine dss_nS ?_
  refine dss_cons ?_ ?_
  · exact (ds_if (dt_lt hr.units0 (de_var 3) de_int) (dss_cons (ds_asg (vs := []) de_int (dg_sub set_list kSetL_ok (de_var 2) de_int))
      (dss_cons (ds_set (i := 8) sc__law_drawn.nd rfl (.inl rfl) (de_sub (de_add de_int (de_var 3)) (de_borS (de_callB (cr_sum rfl) kSum_ok (by rfl) T.m_sum (by decide +kernel) (da_cons (de_lc (own := [("_law_number_here", 7), ("_law_word", 9)]) rfl sc__law_drawn.nd (di_zip (by rfl) T.m_zip (da_cons (de_var 2) (da_cons (de_var 1) da_nil))) (blkOk_by (N := N__law_drawn) (sc := defScope s__law_drawn) (by decide +kernel)) (fun _ _ _ _ _ => (dg_tup rfl (dgs_cons (dg_name (i := 7) sc__law_drawn.nd rfl (.inl rfl) (by decide)) (dgs_cons (dg_name (i := 9) sc__law_drawn.nd rfl (.inl rfl) (by decide)) dgs_nil)))) (fun _ _ _ _ _ => dts_nil) (fun _ _ _ _ _ => (de_nE (de_mul (de_callB call_abs kAbs_ok (by rfl) T.m_abs (by decide +kernel) (da_cons (de_var 7) da_nil)) (de_len (by rfl) T.m_len (de_var 9)))))) da_nil)))))
      (dss_one (ds_asg (vs := []) (de_mul (de_callB (call_max2 rfl) kMax_ok (by rfl) T.m_max (by decide +kernel) (da_cons de_int (da_cons (de_var 8) da_nil))) (de_sub de_int (de_mul de_int (de_call (ok__law_take T) (hr.mono (by decide)) hgd (by rfl) T.g__law_take T.F__law_take.kp T.b__law_take (da_cons (de_var 0) (da_cons de_int da_nil)))))) (dg_sub set_list kSetL_ok (de_var 2) de_int))))) dss_nil)
  refine dss_nS ?_
  refine dss_cons ?_ ?_
  · exact (ds_if (dt_val (de_var 4)) (dss_one (ds_asg (vs := []) (de_call (ok__law_number T) (hr.mono (by decide)) hgd (by rfl) T.g__law_number T.F__law_number.kp T.b__law_number (da_cons (de_var 0) da_nil)) (dg_sub set_list kSetL_ok (de_var 2) (de_call (ok__law_take T) (hr.mono (by decide)) hgd (by rfl) T.g__law_take T.F__law_take.kp T.b__law_take (da_cons (de_var 0) (da_cons (de_len (by rfl) T.m_len (de_var 2)) da_nil)))))) dss_nil)
  refine dss_nS ?_
  refine dss_one ?_
  exact (ds_ret (de_var 2))
theorem ok__law_backed (T : Facts K mg) : FnG P w K mg base 1 T.f__law_backed T.fd__law_backed p__law_backed D__law_backed := by
  refine fn_ok T.F__law_backed sc__law_backed rfl fun cdv A outer s H E hr hgd => ?_
  refine dss_one ?_
  exact (ds_ret (de_callT call_tuple_of kTuple_ok (by rfl) T.m_tuple (by decide +kernel) (da_cons (de_lc (own := [("_law_step", 1)]) rfl sc__law_backed.nd (di_rev (by rfl) T.m_reversed (de_var 0)) (blkOk_by (N := N__law_backed) (sc := defScope s__law_backed) (by decide +kernel)) (fun _ _ _ _ _ => (dg_name (i := 1) sc__law_backed.nd rfl (.inl rfl) (by decide))) (fun _ _ _ _ _ => dts_nil) (fun _ _ _ _ _ => (de_nE (de_neg (de_var 1))))) da_nil)))
theorem ok__law_due (T : Facts K mg) : FnG P w K mg base 2 T.f__law_due T.fd__law_due p__law_due D__law_due := by
  refine fn_ok T.F__law_due sc__law_due rfl fun cdv A outer s H E hr hgd => ?_
  refine dss_cons ?_ ?_
  · exact (ds_if (dt_gt (de_callB (cr_sum rfl) kSum_ok (by rfl) T.m_sum (by decide +kernel) (da_cons (de_lc (own := [("_law_number_here", 3), ("_law_word", 4)]) rfl sc__law_due.nd (di_zipX (by rfl) T.m_zip (da_cons (de_var 0) (da_cons (de_var 1) da_nil))) (blkOk_by (N := N__law_due) (sc := defScope s__law_due) (by decide +kernel)) (fun _ _ _ _ _ => (dg_tup rfl (dgs_cons (dg_name (i := 3) sc__law_due.nd rfl (.inl rfl) (by decide)) (dgs_cons (dg_name (i := 4) sc__law_due.nd rfl (.inl rfl) (by decide)) dgs_nil)))) (fun _ _ _ _ _ => dts_nil) (fun _ _ _ _ _ => (de_nE (de_mul (de_callB call_abs kAbs_ok (by rfl) T.m_abs (by decide +kernel) (da_cons (de_var 3) da_nil)) (de_len (by rfl) T.m_len (de_var 4)))))) da_nil)) de_int) (dss_one (ds_ret de_str)) dss_nil)
  refine dss_nS ?_
  refine dss_cons ?_ ?_
  · exact (ds_set (i := 2) sc__law_due.nd rfl (.inl rfl) (de_tup da_nil))
  refine dss_nS ?_
  refine dss_cons ?_ ?_
  · exact (ds_for (vs := [3, 4]) PassesOwn.never rfl (di_zipX (by rfl) T.m_zip (da_cons (de_var 0) (da_cons (de_var 1) da_nil))) (dg_tup rfl (dgs_cons (dg_name (i := 3) sc__law_due.nd rfl (.inl rfl) (by decide)) (dgs_cons (dg_name (i := 4) sc__law_due.nd rfl (.inl rfl) (by decide)) dgs_nil)))
      (dss_nS (dss_one (ds_set (i := 2) sc__law_due.nd rfl (.inl rfl) (de_add (de_var 2) (de_mul (de_if (dt_gt (de_var 3) de_int) (de_var 4) (de_call (ok__law_backed T) (hr.mono (by decide)) hgd (by rfl) T.g__law_backed T.F__law_backed.kp T.b__law_backed (da_cons (de_var 4) da_nil))) (de_callB call_abs kAbs_ok (by rfl) T.m_abs (by decide +kernel) (da_cons (de_var 3) da_nil))))))))
  refine dss_nS ?_
  refine dss_one ?_
  exact (ds_ret (de_var 2))
theorem ok_joined (T : Facts K mg) : FnG P w K mg base 1 T.f_joined T.fd_joined p_joined D_joined := by
  refine fn_ok T.F_joined sc_joined rfl fun cdv A outer s H E hr hgd => ?_
  refine dss_one ?_
  exact (ds_ret (de_add (de_callT call_tuple_of kTuple_ok (by rfl) T.m_tuple (by decide +kernel) (da_cons (de_var 0) da_nil)) (de_callT call_tuple_of kTuple_ok (by rfl) T.m_tuple (by decide +kernel) (da_cons (de_var 1) da_nil))))
theorem ok_repeated (T : Facts K mg) : FnG P w K mg base 2 T.f_repeated T.fd_repeated p_repeated D_repeated := by
  refine fn_ok T.F_repeated sc_repeated rfl fun cdv A outer s H E hr hgd => ?_
  refine dss_cons ?_ ?_
  · exact (ds_if (dt_eq hr.units (de_len (by rfl) T.m_len (de_var 0)) de_int) (dss_one (ds_ret (de_tup da_nil))) dss_nil)
  refine dss_nS ?_
  refine dss_cons ?_ ?_
  · exact (ds_if (dt_lt hr.units0 (de_var 1) de_int) (dss_one (ds_ret (de_mul (de_call (ok_backed T) (hr.mono (by decide)) hgd (by rfl) T.g_backed T.F_backed.kp T.b_backed (da_cons (de_var 0) da_nil)) (de_neg (de_var 1))))) dss_nil)
  refine dss_nS ?_
  refine dss_one ?_
  exact (ds_ret (de_mul (de_callT call_tuple_of kTuple_ok (by rfl) T.m_tuple (by decide +kernel) (da_cons (de_var 0) da_nil)) (de_var 1)))
theorem ok_spelled (T : Facts K mg) : FnX P w K mg base 13 T.f_spelled T.fd_spelled p_spelled D_spelled := by
  refine fnx_ok T.F_spelled sc_spelled rfl fun cdv A outer s H E hr hgd hp => ?_
  refine dxs_cons ?_ ?_
  · exact (dx_s (ds_setLc (own := [("place", 6)]) rfl sc_spelled.nd (di_range1 (by rfl) T.m_range (da_cons (de_meth0 T.n_Ground T.k_Ground T.m_Ground_places (by decide +kernel) (ok_Ground_places T) (hr.mono (by decide)) hgd T.b_Ground_places (de_var 0)) da_nil)) (blkOk_by (N := N_spelled) (sc := defScope s_spelled) (by decide +kernel)) (fun _ _ _ _ _ => (dg_name (i := 6) sc_spelled.nd rfl (.inl rfl) (by decide))) (fun _ _ _ _ _ => dts_nil) (fun _ _ _ _ _ => (de_nE (de_meth T.n_Ground T.k_Ground T.m_Ground_bracket_at (by decide +kernel) (ok_Ground_bracket_at T 8) (hr.mono (by decide)) hgd T.b_Ground_bracket_at (de_var 0) (da_cons (de_var 6) da_nil)))) (i := 2) rfl rfl (sw_true rfl rfl rfl (by decide +kernel))))
  refine dxs_nS ?_
  refine dxs_cons ?_ ?_
  · exact (dxs_if (dt_gt (de_callB (cr_sum rfl) kSum_ok (by rfl) T.m_sum (by decide +kernel) (da_cons (de_lc (own := [("number", 4), ("bracket", 5)]) rfl sc_spelled.nd (di_zipX (by rfl) T.m_zip (da_cons (de_var 1) (da_cons (de_var 2) da_nil))) (blkOk_by (N := N_spelled) (sc := defScope s_spelled) (by decide +kernel)) (fun _ _ _ _ _ => (dg_tup rfl (dgs_cons (dg_name (i := 4) sc_spelled.nd rfl (.inl rfl) (by decide)) (dgs_cons (dg_name (i := 5) sc_spelled.nd rfl (.inl rfl) (by decide)) dgs_nil)))) (fun _ _ _ _ _ => dts_nil) (fun _ _ _ _ _ => (de_nE (de_mul (de_callB call_abs kAbs_ok (by rfl) T.m_abs (by decide +kernel) (da_cons (de_var 4) da_nil)) (de_len (by rfl) T.m_len (de_var 5)))))) da_nil)) (de_glob (by rfl) T.v_MOST_STEPS)) (dxs_one (dxs_raise 3 rfl T.eg_TooLong T.en_TooLong T.ex_TooLong (by rfl))) (dx_ss dss_nil))
  refine dxs_nS ?_
  refine dxs_cons ?_ ?_
  · exact (dx_s (ds_set (i := 3) sc_spelled.nd rfl (.inl rfl) (de_tup da_nil)))
  refine dxs_nS ?_
  refine dxs_cons ?_ ?_
  · exact (dx_s (ds_for (vs := [4, 5]) hp rfl (di_zipX (by rfl) T.m_zip (da_cons (de_var 1) (da_cons (de_var 2) da_nil))) (dg_tup rfl (dgs_cons (dg_name (i := 4) sc_spelled.nd rfl (.inl rfl) (by decide)) (dgs_cons (dg_name (i := 5) sc_spelled.nd rfl (.inl rfl) (by decide)) dgs_nil)))
      (dss_nS (dss_one (ds_set (i := 3) sc_spelled.nd rfl (.inl rfl) (de_call (ok_joined T) (hr.mono (by decide)) hgd (by rfl) T.g_joined T.F_joined.kp T.b_joined (da_cons (de_var 3) (da_cons (de_call (ok_repeated T) (hr.mono (by decide)) hgd (by rfl) T.g_repeated T.F_repeated.kp T.b_repeated (da_cons (de_var 5) (da_cons (de_var 4) da_nil))) da_nil))))))))
  refine dxs_nS ?_
  refine dxs_one ?_
  exact (dx_s (ds_ret (de_var 3)))
theorem ok__law_told (T : Facts K mg) : FnX P w K mg base 14 T.f__law_told T.fd__law_told p__law_told D__law_told := by
  refine fnx_ok T.F__law_told sc__law_told rfl fun cdv A outer s H E hr hgd hp => ?_
  refine dxs_cons ?_ ?_
  · exact (dx_s (ds_asg (vs := [2, 3]) (de_tup (da_cons de_non (da_cons de_non da_nil))) (dg_tup rfl (dgs_cons (dg_name (i := 2) sc__law_told.nd rfl (.inl rfl) (by decide)) (dgs_cons (dg_name (i := 3) sc__law_told.nd rfl (.inl rfl) (by decide)) dgs_nil)))))
  refine dxs_nS ?_
  refine dxs_cons ?_ ?_
  · exact (dxs_try (i := 4) rfl rfl sc__law_told.nd rfl rfl ⟨by rfl, by decide, .inl T.eg_BracketError⟩ rfl (by exact ⟨⟨_, T.en_TooLong, T.em_TooLong_BracketError⟩, trivial⟩) (fun pn xe hp => (dxs_one (dxs_set (i := 2) sc__law_told.nd rfl (.inl rfl) (dx_call (ok_spelled T) (hr.mono (by decide)) hgd (by rfl) T.g_spelled T.F_spelled.kp T.b_spelled (dxa_cons (dx_e (de_var 0)) (dxa_cons (dx_e (de_var 1)) dxa_nil)))))) (fun a pn => (dss_one (ds_set (i := 3) sc__law_told.nd rfl (.inl rfl) (de_var 4)))))
  refine dxs_nS ?_
  refine dxs_cons ?_ ?_
  · exact (dx_s (ds_if (dt_isN (de_var 3) de_non) (dss_one (ds_ret (de_var 2))) dss_nil))
  refine dxs_nS ?_
  refine dxs_cons ?_ ?_
  · exact (dx_s (ds_set (i := 5) sc__law_told.nd rfl (.inl rfl) (de_isXT (us := [.ref T.E_BadName, .ref T.E_BadRow, .ref T.E_BadText, .ref T.E_NoGround, .ref T.E_NoLetter, .ref T.E_NoName, .ref T.E_NoPlace, .ref T.E_NoPut]) (tab := [(3, false)]) (by rfl) T.m_isinstance (by decide +kernel) (by exact ⟨⟨.inl ⟨_, rfl, T.eg_BadName⟩, by rfl, by decide⟩, ⟨⟨.inl ⟨_, rfl, T.eg_BadRow⟩, by rfl, by decide⟩, ⟨⟨.inl ⟨_, rfl, T.eg_BadText⟩, by rfl, by decide⟩, ⟨⟨.inl ⟨_, rfl, T.eg_NoGround⟩, by rfl, by decide⟩, ⟨⟨.inl ⟨_, rfl, T.eg_NoLetter⟩, by rfl, by decide⟩, ⟨⟨.inl ⟨_, rfl, T.eg_NoName⟩, by rfl, by decide⟩, ⟨⟨.inl ⟨_, rfl, T.eg_NoPlace⟩, by rfl, by decide⟩, ⟨⟨.inl ⟨_, rfl, T.eg_NoPut⟩, by rfl, by decide⟩, trivial⟩⟩⟩⟩⟩⟩⟩⟩) (by simp) (by exact ⟨⟨_, T.en_TooLong, T.ei_TooLong, T.ki_0⟩, trivial⟩) (de_var 3))))
  refine dxs_nS ?_
  refine dxs_cons ?_ ?_
  · exact (dx_s (ds_set (i := 5) sc__law_told.nd rfl (.inl rfl) (de_or (de_var 5) (de_or (de_isXT (us := [.ref T.E_NoRules, .ref T.E_Ring, .ref T.E_TooGreat]) (tab := [(3, false)]) (by rfl) T.m_isinstance (by decide +kernel) (by exact ⟨⟨.inl ⟨_, rfl, T.eg_NoRules⟩, by rfl, by decide⟩, ⟨⟨.inl ⟨_, rfl, T.eg_Ring⟩, by rfl, by decide⟩, ⟨⟨.inl ⟨_, rfl, T.eg_TooGreat⟩, by rfl, by decide⟩, trivial⟩⟩⟩) (by simp) (by exact ⟨⟨_, T.en_TooLong, T.ei_TooLong, T.ki_2⟩, trivial⟩) (de_var 3)) (de_one (de_not (de_isX1 (u := .type "ValueError") (tab := [(3, true)]) (by rfl) T.m_isinstance (by decide +kernel) (by exact ⟨.inr ⟨_, rfl, T.m_ValueError, by decide +kernel, by decide⟩, by rfl, by decide⟩) (by exact ⟨⟨_, T.en_TooLong, T.ei_TooLong, T.ki_1⟩, trivial⟩) (de_var 3))))))))
  refine dxs_nS ?_
  refine dxs_one ?_
  exact (dx_s (ds_ret (de_if (dw_dt (dw_and (dt_val (de_isX1 (u := .ref T.E_TooLong) (tab := [(3, true)]) (by rfl) T.m_isinstance (by decide +kernel) (by exact ⟨.inl ⟨_, rfl, T.eg_TooLong⟩, by rfl, by decide⟩) (by exact ⟨⟨_, T.en_TooLong, T.ei_TooLong, T.ki_3⟩, trivial⟩) (de_var 3))) (dw_and1 (dt_not (dt_val (de_var 5)))))) de_str de_str)))
theorem ok__law_right (T : Facts K mg) : FnG P w K mg base 15 T.f__law_right T.fd__law_right p__law_right D__law_right := by
  refine fn_ok T.F__law_right sc__law_right rfl fun cdv A outer s H E hr hgd => ?_
  refine dss_cons ?_ ?_
  · exact (ds_set (i := 2) sc__law_right.nd rfl (.inr rfl) (de_call (ok__law_ground_of T) (hr.mono (by decide)) hgd (by rfl) T.g__law_ground_of T.F__law_ground_of.kp T.b__law_ground_of (da_cons (de_var 0) (da_cons (de_var 1) da_nil))))
  refine dss_nS ?_
  refine dss_cons ?_ ?_
  · exact (ds_par (i := 3) (j := 4) rfl sc__law_right.nd rfl rfl (by decide) rfl rfl (da_cons (de_meth0 T.n_Ground T.k_Ground T.m_Ground_letters (by decide +kernel) (ok_Ground_letters T) (hr.mono (by decide)) hgd T.b_Ground_letters (de_var 2)) (da_cons (de_meth0 T.n_Ground T.k_Ground T.m_Ground_depth (by decide +kernel) (ok_Ground_depth T) (hr.mono (by decide)) hgd T.b_Ground_depth (de_var 2)) da_nil)) (by rfl))
  refine dss_nS ?_
  refine dss_cons ?_ ?_
  · exact (ds_set (i := 5) sc__law_right.nd rfl (.inr rfl) (de_lc (own := [("_law_place", 11)]) rfl sc__law_right.nd (di_range1 (by rfl) T.m_range (da_cons (de_meth0 T.n_Ground T.k_Ground T.m_Ground_places (by decide +kernel) (ok_Ground_places T) (hr.mono (by decide)) hgd T.b_Ground_places (de_var 2)) da_nil)) (blkOk_by (N := N__law_right) (sc := defScope s__law_right) (by decide +kernel)) (fun _ _ _ _ _ => (dg_name (i := 11) sc__law_right.nd rfl (.inl rfl) (by decide))) (fun _ _ _ _ _ => dts_nil) (fun _ _ _ _ _ => (de_nE (de_meth T.n_Ground T.k_Ground T.m_Ground_bracket_at (by decide +kernel) (ok_Ground_bracket_at T 8) (hr.mono (by decide)) hgd T.b_Ground_bracket_at (de_var 2) (da_cons (de_var 11) da_nil))))))
  refine dss_nS ?_
  refine dss_cons ?_ ?_
  · exact (ds_setLc (own := [("_law_turn", 12)]) rfl sc__law_right.nd (di_range1 (by rfl) T.m_range (da_cons de_int da_nil)) (blkOk_by (N := N__law_right) (sc := defScope s__law_right) (by decide +kernel)) (fun _ _ _ _ _ => (dg_name (i := 12) sc__law_right.nd rfl (.inl rfl) (by decide))) (fun _ _ _ _ _ => dts_nil) (fun _ _ _ _ _ => (de_nE (de_call (ok__law_drawn_m T) (hr.mono (by decide)) hgd (by rfl) T.g__law_drawn T.F__law_drawn.kp T.b__law_drawn (da_cons (de_var 0) (da_cons (de_var 5) da_nil))))) (i := 6) rfl rfl (sw_true rfl rfl rfl (by decide +kernel)))
  refine dss_nS ?_
  refine dss_cons ?_ ?_
  · exact (ds_for (vs := [7]) PassesOwn.never rfl (di_seq (de_tup (da_cons (de_ix (de_var 6) de_int) (da_cons (de_ix (de_var 6) de_int) (da_cons (de_ix (de_var 6) de_int) (da_cons (de_mul (de_lst (da_cons de_int da_nil)) (de_len (by rfl) T.m_len (de_var 5))) da_nil)))))) (dg_name (i := 7) sc__law_right.nd rfl (.inl rfl) (by decide))
      (dss_nS (dss_cons (ds_par (i := 8) (j := 9) rfl sc__law_right.nd rfl rfl (by decide) rfl rfl (da_cons (de_callT call_list_of kListF_ok (by rfl) T.m_list (by decide +kernel) (da_cons (de_var 7) da_nil)) (da_cons (de_borS (de_call (ok__law_due T) (hr.mono (by decide)) hgd (by rfl) T.g__law_due T.F__law_due.kp T.b__law_due (da_cons (de_var 7) (da_cons (de_var 5) da_nil)))) da_nil)) (by rfl))
      (dss_one (ds_if (dt_borS (dw_dt (dw_or (dt_ne hr.units (de_call (ok__law_told T).plain (hr.mono (by decide)) hgd (by rfl) T.g__law_told T.F__law_told.kp T.b__law_told (da_cons (de_var 2) (da_cons (de_var 7) da_nil))) (de_var 9)) (dw_or (dt_ne hr.units (de_call (ok__law_told T).plain (hr.mono (by decide)) hgd (by rfl) T.g__law_told T.F__law_told.kp T.b__law_told (da_cons (de_var 2) (da_cons (de_callT call_tuple_of kTuple_ok (by rfl) T.m_tuple (by decide +kernel) (da_cons (de_var 7) da_nil)) da_nil))) (de_var 9)) (dw_or1 (dt_ne hr.units (de_var 7) (de_var 8))))))) (dss_one (ds_ret de_bl)) dss_nil)))))
  refine dss_nS ?_
  refine dss_cons ?_ ?_
  · exact (ds_par (i := 7) (j := 10) rfl sc__law_right.nd rfl rfl (by decide) rfl rfl (da_cons (de_ix (de_var 6) de_int) (da_cons (de_call (ok__law_take T) (hr.mono (by decide)) hgd (by rfl) T.g__law_take T.F__law_take.kp T.b__law_take (da_cons (de_var 0) (da_cons (de_len (by rfl) T.m_len (de_var 5)) da_nil))) da_nil)) (by rfl))
  refine dss_nS ?_
  refine dss_cons ?_ ?_
  · exact (ds_if (dt_borS (dt_ne hr.units (de_call (ok__law_told T).plain (hr.mono (by decide)) hgd (by rfl) T.g__law_told T.F__law_told.kp T.b__law_told (da_cons (de_var 2) (da_cons (de_var 7) da_nil))) (de_call (ok__law_due T) (hr.mono (by decide)) hgd (by rfl) T.g__law_due T.F__law_due.kp T.b__law_due (da_cons (de_var 7) (da_cons (de_var 5) da_nil))))) (dss_one (ds_ret de_bl)) dss_nil)
  refine dss_nS ?_
  refine dss_cons ?_ ?_
  · exact (ds_asg (vs := []) (de_sub (de_add (de_ix (de_var 7) (de_var 10)) de_int) (de_mul de_int (de_call (ok__law_take T) (hr.mono (by decide)) hgd (by rfl) T.g__law_take T.F__law_take.kp T.b__law_take (da_cons (de_var 0) (da_cons de_int da_nil))))) (dg_sub set_list kSetL_ok (de_var 7) (de_var 10)))
  refine dss_nS ?_
  refine dss_one ?_
  exact (ds_ret (de_borS (de_eq hr.units (de_call (ok__law_told T).plain (hr.mono (by decide)) hgd (by rfl) T.g__law_told T.F__law_told.kp T.b__law_told (da_cons (de_var 2) (da_cons (de_var 7) da_nil))) (de_call (ok__law_due T) (hr.mono (by decide)) hgd (by rfl) T.g__law_due T.F__law_due.kp T.b__law_due (da_cons (de_var 7) (da_cons (de_var 5) da_nil))))))
theorem ok__law_box_m (T : Facts K mg) : FnG P w K mg base 1 T.f__law_box T.fd__law_box p__law_box D__law_box_m := by
  refine fn_ok T.F__law_box sc__law_box rfl fun cdv A outer s H E hr hgd => ?_
  refine dss_cons ?_ ?_
  · exact (ds_set (i := 2) sc__law_box.nd rfl (.inl rfl) (de_if (dt_lt hr.units0 (de_var 1) (de_len (by rfl) T.m_len (de_var 0))) (de_ix (de_var 0) (de_var 1)) de_int))
  refine dss_nS ?_
  refine dss_one ?_
  exact (ds_ret (de_lstM (da_cons (de_mul (de_callB call_abs kAbs_ok (by rfl) T.m_abs (by decide +kernel) (da_cons (de_var 2) da_nil)) (de_callT call_int1 kInt1_ok (by rfl) T.m_int (by decide +kernel) (da_cons (de_ge (de_callB call_abs kAbs_ok (by rfl) T.m_abs (by decide +kernel) (da_cons (de_var 2) da_nil)) (de_pow de_int de_int)) da_nil))) (da_cons (de_mod (de_mul (de_add (de_add (de_mod (de_var 2) de_int) (de_mul de_int (de_var 1))) de_int) de_int) de_int) (da_cons de_int da_nil)))))
theorem ok_law (T : Facts K mg) : FnG P w K mg base 16 T.f_law T.fd_law p_law D_law := by
  refine fn_ok T.F_law sc_law rfl fun cdv A outer s H E hr hgd => ?_
  refine dss_cons ?_ ?_
  · exact (ds_set (i := 1) sc_law.nd rfl (.inr rfl) (de_call (ok__law_folded T) (hr.mono (by decide)) hgd (by rfl) T.g__law_folded T.F__law_folded.kp T.b__law_folded (da_cons (de_var 0) (da_cons de_int da_nil))))
  refine dss_nS ?_
  refine dss_one ?_
  exact (ds_ret (de_callB (cr_all rfl) kAll_ok (by rfl) T.m_all (by decide +kernel) (da_cons (de_lc (own := [("_law_k", 2)]) rfl sc_law.nd (di_range1 (by rfl) T.m_range (da_cons (de_callB (call_max2 rfl) kMax_ok (by rfl) T.m_max (by decide +kernel) (da_cons de_int (da_cons (de_len (by rfl) T.m_len (de_var 1)) da_nil))) da_nil)) (blkOk_by (N := N_law) (sc := defScope s_law) (by decide +kernel)) (fun _ _ _ _ _ => (dg_name (i := 2) sc_law.nd rfl (.inl rfl) (by decide))) (fun _ _ _ _ _ => dts_nil) (fun _ _ _ _ _ => (de_nE (de_call (ok__law_right T) (hr.mono (by decide)) hgd (by rfl) T.g__law_right T.F__law_right.kp T.b__law_right (da_cons (de_call (ok__law_box_m T) (hr.mono (by decide)) hgd (by rfl) T.g__law_box T.F__law_box.kp T.b__law_box (da_cons (de_var 1) (da_cons (de_var 2) da_nil))) (da_cons (de_eq hr.units (de_var 2) de_int) da_nil)))))) da_nil)))
end
theorem all_mk {l : PySem.W.OpenLaw} {w : World} {K : PySem.W.Frag} {h : Heap} {mg : Str → Option Value} {fa f0 f1 f2 f3 f4 f5 f6 f7 f8 f9 f10 f11 f12 f13 f14 f15 f16 f17 f18 f19 f20 f21 f22 f23 f24 f25 f26 f27 C0 E_BracketError E_TooLong E_BadName E_BadRow E_BadText E_NoGround E_NoLetter E_NoName E_NoPlace E_NoPut E_NoRules E_Ring E_TooGreat : Addr} (X : K.In h) (G : h.Ns mainGlobals mg) (hfa : mg "law" = some (.ref fa))
    {t0 t1 t2 t3 : Tok}
    {od0 an0 od1 an1 od2 an2 od3 an3 od4 an4 od5 an5 od6 an6 od7 an7 od8 an8 od9 an9 od10 an10 od11 an11 od12 an12 od13 an13 od14 an14 od15 an15 od16 an16 od17 an17 od18 an18 od19 an19 od20 an20 od21 an21 od22 an22 od23 an23 od24 an24 od25 an25 od26 an26 od27 an27 : Option Addr} {sl0 sl1 sl2 sl3 sl4 sl5 sl6 sl7 sl8 sl9 sl10 sl11 sl12 sl13 sl14 sl15 sl16 sl17 sl18 sl19 sl20 sl21 sl22 sl23 sl24 sl25 sl26 sl27 : Array (Option Value)} {oc0 kV0 dc0 pm0 cd0 ct0 oc1 kV1 dc1 pm1 cd1 ct1 oc2 kV2 dc2 pm2 cd2 ct2 oc3 kV3 dc3 pm3 cd3 ct3 oc4 kV4 dc4 pm4 cd4 ct4 oc5 kV5 dc5 pm5 cd5 ct5 oc6 kV6 dc6 pm6 cd6 ct6 oc7 kV7 dc7 pm7 cd7 ct7 oc8 kV8 dc8 pm8 cd8 ct8 oc9 kV9 dc9 pm9 cd9 ct9 oc10 kV10 dc10 pm10 cd10 ct10 oc11 kV11 dc11 pm11 cd11 ct11 oc12 kV12 dc12 pm12 cd12 ct12 oc13 kV13 dc13 pm13 cd13 ct13 oc14 kV14 dc14 pm14 cd14 ct14 oc15 kV15 dc15 pm15 cd15 ct15 oc16 kV16 dc16 pm16 cd16 ct16 oc17 kV17 dc17 pm17 cd17 ct17 oc18 kV18 dc18 pm18 cd18 ct18 oc19 kV19 dc19 pm19 cd19 ct19 oc20 kV20 dc20 pm20 cd20 ct20 oc21 kV21 dc21 pm21 cd21 ct21 oc22 kV22 dc22 pm22 cd22 ct22 oc23 kV23 dc23 pm23 cd23 ct23 oc24 kV24 dc24 pm24 cd24 ct24 oc25 kV25 dc25 pm25 cd25 ct25 oc26 kV26 dc26 pm26 cd26 ct26 oc27 kV27 dc27 pm27 cd27 ct27 : Value}
    (ca0 : PySem.W.nsIn K mainGlobals "Ground" = some (some (.ref C0)))
    (cp0 : PySem.W.plainGet K C0 Str.empty = true)
    (ch0 : PySem.W.hasDictIn K C0 = true)
    (co0 : PySem.W.plainOver K C0 = true)
    (cs0 : PySem.W.findIn K (.ref C0) "__setattr__" = some (some (.builtin "object.__setattr__")))
    (cm0 : PySem.W.makesIn K C0 = true)
    (ck0 : PySem.W.keepIn K (.ref C0) = true)
    (cn0x0 : PySem.W.findIn K (.ref C0) "letter_count" = some none)
    (cn0x1 : PySem.W.findIn K (.ref C0) "depth_count" = some none)
    (cn0x2 : PySem.W.findIn K (.ref C0) "turn_list" = some none)
    (cn0x3 : PySem.W.findIn K (.ref C0) "place_by_word" = some none)
    (cn0x4 : PySem.W.findIn K (.ref C0) "kept_powers" = some none)
    (xa0 : PySem.W.nsIn K mainGlobals "BracketError" = some (some (.ref E_BracketError)))
    (xa1 : PySem.W.nsIn K mainGlobals "TooLong" = some (some (.ref E_TooLong)))
    (xa2 : PySem.W.nsIn K mainGlobals "BadName" = some (some (.ref E_BadName)))
    (xa3 : PySem.W.nsIn K mainGlobals "BadRow" = some (some (.ref E_BadRow)))
    (xa4 : PySem.W.nsIn K mainGlobals "BadText" = some (some (.ref E_BadText)))
    (xa5 : PySem.W.nsIn K mainGlobals "NoGround" = some (some (.ref E_NoGround)))
    (xa6 : PySem.W.nsIn K mainGlobals "NoLetter" = some (some (.ref E_NoLetter)))
    (xa7 : PySem.W.nsIn K mainGlobals "NoName" = some (some (.ref E_NoName)))
    (xa8 : PySem.W.nsIn K mainGlobals "NoPlace" = some (some (.ref E_NoPlace)))
    (xa9 : PySem.W.nsIn K mainGlobals "NoPut" = some (some (.ref E_NoPut)))
    (xa10 : PySem.W.nsIn K mainGlobals "NoRules" = some (some (.ref E_NoRules)))
    (xa11 : PySem.W.nsIn K mainGlobals "Ring" = some (some (.ref E_Ring)))
    (xa12 : PySem.W.nsIn K mainGlobals "TooGreat" = some (some (.ref E_TooGreat)))
    (xr0 : PySem.W.excIn K E_TooLong [.type "ValueError", .type "Exception", .type "BaseException", .type "object"] "ValueError.__new__" = true)
    (xk0 : PySem.W.keepIn K (.ref E_TooLong) = true)
    (xs0 : PySem.W.subIn K (.ref E_TooLong) (.type "BaseException") = some true)
    (xt0 : PySem.W.typeIn K (.ref E_TooLong) = some (.type "type"))
    (ib0 : PySem.W.findIn K (.ref E_TooLong) "__getattribute__" = some (some (.builtin "BaseException.__getattribute__")))
    (ic0 : PySem.W.findIn K (.ref E_TooLong) "__getattr__" = some none)
    (id0 : PySem.W.subIn K (.ref E_TooLong) (.type "BaseException") = some true)
    (ie0 : PySem.W.findIn K (.ref E_TooLong) "__class__" = some (some (.builtin "object.__class__")))
    (if0 : PySem.W.specialIn K (.builtin "object.__class__") "__get__" = some (some (.builtin "getset_descriptor.__get__")))
    (ig0 : PySem.W.takesIn K (.builtin "object.__class__") = some true)
    (ih0 : PySem.W.mroIn K E_TooLong (.type "object") = some true)
    (xm0 : PySem.W.exmOne K (.ref E_TooLong) (.ref E_BracketError) = some true)
    (xi0 : PySem.W.kitAny K (.ref E_TooLong) [.ref E_BadName, .ref E_BadRow, .ref E_BadText, .ref E_NoGround, .ref E_NoLetter, .ref E_NoName, .ref E_NoPlace, .ref E_NoPut] = some false)
    (xi1 : PySem.W.kitOne K (.ref E_TooLong) (.type "ValueError") = some true)
    (xi2 : PySem.W.kitAny K (.ref E_TooLong) [.ref E_NoRules, .ref E_Ring, .ref E_TooGreat] = some false)
    (xi3 : PySem.W.kitOne K (.ref E_TooLong) (.ref E_TooLong) = some true)
    (a0 : PySem.W.nsIn K mainGlobals "_law_folded" = some (some (.ref f0)))
    (l0 : K.lookup f0 = some ⟨oc0, od0, .func (PySem.W.fnOf "_law_folded" "_law_folded" (defArgs s__law_folded) (defBody s__law_folded) (defScope s__law_folded) .none kV0 dc0 pm0 an0 cd0 ct0), sl0⟩)
    (c0 : PySem.W.codeIn K cd0 "_law_folded" = true)
    (k0 : PySem.W.keepIn K (.ref f0) = true)
    (a1 : PySem.W.nsIn K mainGlobals "_law_take" = some (some (.ref f1)))
    (l1 : K.lookup f1 = some ⟨oc1, od1, .func (PySem.W.fnOf "_law_take" "_law_take" (defArgs s__law_take) (defBody s__law_take) (defScope s__law_take) .none kV1 dc1 pm1 an1 cd1 ct1), sl1⟩)
    (c1 : PySem.W.codeIn K cd1 "_law_take" = true)
    (k1 : PySem.W.keepIn K (.ref f1) = true)
    (a2 : PySem.W.nsIn K mainGlobals "_law_sizes" = some (some (.ref f2)))
    (l2 : K.lookup f2 = some ⟨oc2, od2, .func (PySem.W.fnOf "_law_sizes" "_law_sizes" (defArgs s__law_sizes) (defBody s__law_sizes) (defScope s__law_sizes) .none kV2 dc2 pm2 an2 cd2 ct2), sl2⟩)
    (c2 : PySem.W.codeIn K cd2 "_law_sizes" = true)
    (k2 : PySem.W.keepIn K (.ref f2) = true)
    (a3 : PySem.W.nsIn K mainGlobals "next_turnword" = some (some (.ref f3)))
    (l3 : K.lookup f3 = some ⟨oc3, od3, .func (PySem.W.fnOf "next_turnword" "next_turnword" (defArgs s_next_turnword) (defBody s_next_turnword) (defScope s_next_turnword) .none kV3 dc3 pm3 an3 cd3 ct3), sl3⟩)
    (c3 : PySem.W.codeIn K cd3 "next_turnword" = true)
    (k3 : PySem.W.keepIn K (.ref f3) = true)
    (a4 : PySem.W.nsIn K mainGlobals "turnwords" = some (some (.ref f4)))
    (l4 : K.lookup f4 = some ⟨oc4, od4, .func (PySem.W.fnOf "turnwords" "turnwords" (defArgs s_turnwords) (defBody s_turnwords) (defScope s_turnwords) .none kV4 dc4 pm4 an4 cd4 ct4), sl4⟩)
    (c4 : PySem.W.codeIn K cd4 "turnwords" = true)
    (k4 : PySem.W.keepIn K (.ref f4) = true)
    (a5 : PySem.W.findIn K (.ref C0) "__init__" = some (some (.ref f5)))
    (i5 : PySem.W.isFn K (.ref f5) = true)
    (l5 : K.lookup f5 = some ⟨oc5, od5, .func (PySem.W.fnOf "__init__" "Ground.__init__" (defArgs s_Ground_init) (defBody s_Ground_init) (defScope s_Ground_init) .none kV5 dc5 pm5 an5 cd5 ct5), sl5⟩)
    (c5 : PySem.W.codeIn K cd5 "Ground.__init__" = true)
    (k5 : PySem.W.keepIn K (.ref f5) = true)
    (a6 : PySem.W.nsIn K mainGlobals "_law_ground_of" = some (some (.ref f6)))
    (l6 : K.lookup f6 = some ⟨oc6, od6, .func (PySem.W.fnOf "_law_ground_of" "_law_ground_of" (defArgs s__law_ground_of) (defBody s__law_ground_of) (defScope s__law_ground_of) .none kV6 dc6 pm6 an6 cd6 ct6), sl6⟩)
    (c6 : PySem.W.codeIn K cd6 "_law_ground_of" = true)
    (k6 : PySem.W.keepIn K (.ref f6) = true)
    (a7 : PySem.W.findIn K (.ref C0) "letters" = some (some (.ref f7)))
    (i7 : PySem.W.isFn K (.ref f7) = true)
    (l7 : K.lookup f7 = some ⟨oc7, od7, .func (PySem.W.fnOf "letters" "Ground.letters" (defArgs s_Ground_letters) (defBody s_Ground_letters) (defScope s_Ground_letters) .none kV7 dc7 pm7 an7 cd7 ct7), sl7⟩)
    (c7 : PySem.W.codeIn K cd7 "Ground.letters" = true)
    (k7 : PySem.W.keepIn K (.ref f7) = true)
    (a8 : PySem.W.findIn K (.ref C0) "depth" = some (some (.ref f8)))
    (i8 : PySem.W.isFn K (.ref f8) = true)
    (l8 : K.lookup f8 = some ⟨oc8, od8, .func (PySem.W.fnOf "depth" "Ground.depth" (defArgs s_Ground_depth) (defBody s_Ground_depth) (defScope s_Ground_depth) .none kV8 dc8 pm8 an8 cd8 ct8), sl8⟩)
    (c8 : PySem.W.codeIn K cd8 "Ground.depth" = true)
    (k8 : PySem.W.keepIn K (.ref f8) = true)
    (a9 : PySem.W.findIn K (.ref C0) "places" = some (some (.ref f9)))
    (i9 : PySem.W.isFn K (.ref f9) = true)
    (l9 : K.lookup f9 = some ⟨oc9, od9, .func (PySem.W.fnOf "places" "Ground.places" (defArgs s_Ground_places) (defBody s_Ground_places) (defScope s_Ground_places) .none kV9 dc9 pm9 an9 cd9 ct9), sl9⟩)
    (c9 : PySem.W.codeIn K cd9 "Ground.places" = true)
    (k9 : PySem.W.keepIn K (.ref f9) = true)
    (a10 : PySem.W.nsIn K mainGlobals "turns" = some (some (.ref f10)))
    (l10 : K.lookup f10 = some ⟨oc10, od10, .func (PySem.W.fnOf "turns" "turns" (defArgs s_turns) (defBody s_turns) (defScope s_turns) .none kV10 dc10 pm10 an10 cd10 ct10), sl10⟩)
    (c10 : PySem.W.codeIn K cd10 "turns" = true)
    (k10 : PySem.W.keepIn K (.ref f10) = true)
    (a11 : PySem.W.nsIn K mainGlobals "is_turnword" = some (some (.ref f11)))
    (l11 : K.lookup f11 = some ⟨oc11, od11, .func (PySem.W.fnOf "is_turnword" "is_turnword" (defArgs s_is_turnword) (defBody s_is_turnword) (defScope s_is_turnword) .none kV11 dc11 pm11 an11 cd11 ct11), sl11⟩)
    (c11 : PySem.W.codeIn K cd11 "is_turnword" = true)
    (k11 : PySem.W.keepIn K (.ref f11) = true)
    (a12 : PySem.W.nsIn K mainGlobals "halves" = some (some (.ref f12)))
    (l12 : K.lookup f12 = some ⟨oc12, od12, .func (PySem.W.fnOf "halves" "halves" (defArgs s_halves) (defBody s_halves) (defScope s_halves) .none kV12 dc12 pm12 an12 cd12 ct12), sl12⟩)
    (c12 : PySem.W.codeIn K cd12 "halves" = true)
    (k12 : PySem.W.keepIn K (.ref f12) = true)
    (a13 : PySem.W.findIn K (.ref C0) "parts_at" = some (some (.ref f13)))
    (i13 : PySem.W.isFn K (.ref f13) = true)
    (l13 : K.lookup f13 = some ⟨oc13, od13, .func (PySem.W.fnOf "parts_at" "Ground.parts_at" (defArgs s_Ground_parts_at) (defBody s_Ground_parts_at) (defScope s_Ground_parts_at) .none kV13 dc13 pm13 an13 cd13 ct13), sl13⟩)
    (c13 : PySem.W.codeIn K cd13 "Ground.parts_at" = true)
    (k13 : PySem.W.keepIn K (.ref f13) = true)
    (a14 : PySem.W.nsIn K mainGlobals "backed" = some (some (.ref f14)))
    (l14 : K.lookup f14 = some ⟨oc14, od14, .func (PySem.W.fnOf "backed" "backed" (defArgs s_backed) (defBody s_backed) (defScope s_backed) .none kV14 dc14 pm14 an14 cd14 ct14), sl14⟩)
    (c14 : PySem.W.codeIn K cd14 "backed" = true)
    (k14 : PySem.W.keepIn K (.ref f14) = true)
    (a15 : PySem.W.nsIn K mainGlobals "bracketed" = some (some (.ref f15)))
    (l15 : K.lookup f15 = some ⟨oc15, od15, .func (PySem.W.fnOf "bracketed" "bracketed" (defArgs s_bracketed) (defBody s_bracketed) (defScope s_bracketed) .none kV15 dc15 pm15 an15 cd15 ct15), sl15⟩)
    (c15 : PySem.W.codeIn K cd15 "bracketed" = true)
    (k15 : PySem.W.keepIn K (.ref f15) = true)
    (a16 : PySem.W.findIn K (.ref C0) "bracket_at" = some (some (.ref f16)))
    (i16 : PySem.W.isFn K (.ref f16) = true)
    (l16 : K.lookup f16 = some ⟨oc16, od16, .func (PySem.W.fnOf "bracket_at" "Ground.bracket_at" (defArgs s_Ground_bracket_at) (defBody s_Ground_bracket_at) (defScope s_Ground_bracket_at) .none kV16 dc16 pm16 an16 cd16 ct16), sl16⟩)
    (c16 : PySem.W.codeIn K cd16 "Ground.bracket_at" = true)
    (k16 : PySem.W.keepIn K (.ref f16) = true)
    (a17 : PySem.W.nsIn K mainGlobals "_law_number" = some (some (.ref f17)))
    (l17 : K.lookup f17 = some ⟨oc17, od17, .func (PySem.W.fnOf "_law_number" "_law_number" (defArgs s__law_number) (defBody s__law_number) (defScope s__law_number) .none kV17 dc17 pm17 an17 cd17 ct17), sl17⟩)
    (c17 : PySem.W.codeIn K cd17 "_law_number" = true)
    (k17 : PySem.W.keepIn K (.ref f17) = true)
    (a18 : PySem.W.nsIn K mainGlobals "_law_drawn" = some (some (.ref f18)))
    (l18 : K.lookup f18 = some ⟨oc18, od18, .func (PySem.W.fnOf "_law_drawn" "_law_drawn" (defArgs s__law_drawn) (defBody s__law_drawn) (defScope s__law_drawn) .none kV18 dc18 pm18 an18 cd18 ct18), sl18⟩)
    (c18 : PySem.W.codeIn K cd18 "_law_drawn" = true)
    (k18 : PySem.W.keepIn K (.ref f18) = true)
    (a19 : PySem.W.nsIn K mainGlobals "_law_backed" = some (some (.ref f19)))
    (l19 : K.lookup f19 = some ⟨oc19, od19, .func (PySem.W.fnOf "_law_backed" "_law_backed" (defArgs s__law_backed) (defBody s__law_backed) (defScope s__law_backed) .none kV19 dc19 pm19 an19 cd19 ct19), sl19⟩)
    (c19 : PySem.W.codeIn K cd19 "_law_backed" = true)
    (k19 : PySem.W.keepIn K (.ref f19) = true)
    (a20 : PySem.W.nsIn K mainGlobals "_law_due" = some (some (.ref f20)))
    (l20 : K.lookup f20 = some ⟨oc20, od20, .func (PySem.W.fnOf "_law_due" "_law_due" (defArgs s__law_due) (defBody s__law_due) (defScope s__law_due) .none kV20 dc20 pm20 an20 cd20 ct20), sl20⟩)
    (c20 : PySem.W.codeIn K cd20 "_law_due" = true)
    (k20 : PySem.W.keepIn K (.ref f20) = true)
    (a21 : PySem.W.nsIn K mainGlobals "joined" = some (some (.ref f21)))
    (l21 : K.lookup f21 = some ⟨oc21, od21, .func (PySem.W.fnOf "joined" "joined" (defArgs s_joined) (defBody s_joined) (defScope s_joined) .none kV21 dc21 pm21 an21 cd21 ct21), sl21⟩)
    (c21 : PySem.W.codeIn K cd21 "joined" = true)
    (k21 : PySem.W.keepIn K (.ref f21) = true)
    (a22 : PySem.W.nsIn K mainGlobals "repeated" = some (some (.ref f22)))
    (l22 : K.lookup f22 = some ⟨oc22, od22, .func (PySem.W.fnOf "repeated" "repeated" (defArgs s_repeated) (defBody s_repeated) (defScope s_repeated) .none kV22 dc22 pm22 an22 cd22 ct22), sl22⟩)
    (c22 : PySem.W.codeIn K cd22 "repeated" = true)
    (k22 : PySem.W.keepIn K (.ref f22) = true)
    (a23 : PySem.W.nsIn K mainGlobals "spelled" = some (some (.ref f23)))
    (l23 : K.lookup f23 = some ⟨oc23, od23, .func (PySem.W.fnOf "spelled" "spelled" (defArgs s_spelled) (defBody s_spelled) (defScope s_spelled) .none kV23 dc23 pm23 an23 cd23 ct23), sl23⟩)
    (c23 : PySem.W.codeIn K cd23 "spelled" = true)
    (k23 : PySem.W.keepIn K (.ref f23) = true)
    (a24 : PySem.W.nsIn K mainGlobals "_law_told" = some (some (.ref f24)))
    (l24 : K.lookup f24 = some ⟨oc24, od24, .func (PySem.W.fnOf "_law_told" "_law_told" (defArgs s__law_told) (defBody s__law_told) (defScope s__law_told) .none kV24 dc24 pm24 an24 cd24 ct24), sl24⟩)
    (c24 : PySem.W.codeIn K cd24 "_law_told" = true)
    (k24 : PySem.W.keepIn K (.ref f24) = true)
    (a25 : PySem.W.nsIn K mainGlobals "_law_right" = some (some (.ref f25)))
    (l25 : K.lookup f25 = some ⟨oc25, od25, .func (PySem.W.fnOf "_law_right" "_law_right" (defArgs s__law_right) (defBody s__law_right) (defScope s__law_right) .none kV25 dc25 pm25 an25 cd25 ct25), sl25⟩)
    (c25 : PySem.W.codeIn K cd25 "_law_right" = true)
    (k25 : PySem.W.keepIn K (.ref f25) = true)
    (a26 : PySem.W.nsIn K mainGlobals "_law_box" = some (some (.ref f26)))
    (l26 : K.lookup f26 = some ⟨oc26, od26, .func (PySem.W.fnOf "_law_box" "_law_box" (defArgs s__law_box) (defBody s__law_box) (defScope s__law_box) .none kV26 dc26 pm26 an26 cd26 ct26), sl26⟩)
    (c26 : PySem.W.codeIn K cd26 "_law_box" = true)
    (k26 : PySem.W.keepIn K (.ref f26) = true)
    (a27 : PySem.W.nsIn K mainGlobals "law" = some (some (.ref f27)))
    (l27 : K.lookup f27 = some ⟨oc27, od27, .func (PySem.W.fnOf "law" "law" (defArgs s_law) (defBody s_law) (defScope s_law) .none kV27 dc27 pm27 an27 cd27 ct27), sl27⟩)
    (c27 : PySem.W.codeIn K cd27 "law" = true)
    (k27 : PySem.W.keepIn K (.ref f27) = true)
    (y0 : PySem.W.nsIn K mainGlobals "turnwords_turning" = some (some (.ref f4)))
    (v0 : PySem.W.nsIn K mainGlobals "MOST_BOTH" = some (some (.int 7 t0)))
    (v1 : PySem.W.nsIn K mainGlobals "MOST_DEPTH" = some (some (.int 5 t1)))
    (v2 : PySem.W.nsIn K mainGlobals "MOST_LETTERS" = some (some (.int 4 t2)))
    (v3 : PySem.W.nsIn K mainGlobals "MOST_STEPS" = some (some (.int 600 t3)))
    (z0 : PySem.W.nsIn K mainGlobals "ValueError" = some none)
    (z1 : PySem.W.nsIn K mainGlobals "abs" = some none)
    (z2 : PySem.W.nsIn K mainGlobals "all" = some none)
    (z3 : PySem.W.nsIn K mainGlobals "divmod" = some none)
    (z4 : PySem.W.nsIn K mainGlobals "enumerate" = some none)
    (z5 : PySem.W.nsIn K mainGlobals "int" = some none)
    (z6 : PySem.W.nsIn K mainGlobals "isinstance" = some none)
    (z7 : PySem.W.nsIn K mainGlobals "len" = some none)
    (z8 : PySem.W.nsIn K mainGlobals "list" = some none)
    (z9 : PySem.W.nsIn K mainGlobals "max" = some none)
    (z10 : PySem.W.nsIn K mainGlobals "range" = some none)
    (z11 : PySem.W.nsIn K mainGlobals "reversed" = some none)
    (z12 : PySem.W.nsIn K mainGlobals "sum" = some none)
    (z13 : PySem.W.nsIn K mainGlobals "tuple" = some none)
    (z14 : PySem.W.nsIn K mainGlobals "zip" = some none)
    : ∃ fd : FuncData, (∀ (s : Shared) (v : Value), BindsTo s fd ⟨[v], []⟩ [("_law_script", v)]) ∧ ∀ base : Heap, K.In base → base.Ns mainGlobals mg → FnG l.prog w K mg base 16 fa fd ["_law_script"] D_law := by
  have e := hfa.symm.trans (PySem.W.mg_of X G a27)
  cases e
  have F0 := fun_mk (st := s__law_folded) l0 c0 k0
  have F1 := fun_mk (st := s__law_take) l1 c1 k1
  have F2 := fun_mk (st := s__law_sizes) l2 c2 k2
  have F3 := fun_mk (st := s_next_turnword) l3 c3 k3
  have F4 := fun_mk (st := s_turnwords) l4 c4 k4
  have F5 := fun_mk (st := s_Ground_init) l5 c5 k5
  have F6 := fun_mk (st := s__law_ground_of) l6 c6 k6
  have F7 := fun_mk (st := s_Ground_letters) l7 c7 k7
  have F8 := fun_mk (st := s_Ground_depth) l8 c8 k8
  have F9 := fun_mk (st := s_Ground_places) l9 c9 k9
  have F10 := fun_mk (st := s_turns) l10 c10 k10
  have F11 := fun_mk (st := s_is_turnword) l11 c11 k11
  have F12 := fun_mk (st := s_halves) l12 c12 k12
  have F13 := fun_mk (st := s_Ground_parts_at) l13 c13 k13
  have F14 := fun_mk (st := s_backed) l14 c14 k14
  have F15 := fun_mk (st := s_bracketed) l15 c15 k15
  have F16 := fun_mk (st := s_Ground_bracket_at) l16 c16 k16
  have F17 := fun_mk (st := s__law_number) l17 c17 k17
  have F18 := fun_mk (st := s__law_drawn) l18 c18 k18
  have F19 := fun_mk (st := s__law_backed) l19 c19 k19
  have F20 := fun_mk (st := s__law_due) l20 c20 k20
  have F21 := fun_mk (st := s_joined) l21 c21 k21
  have F22 := fun_mk (st := s_repeated) l22 c22 k22
  have F23 := fun_mk (st := s_spelled) l23 c23 k23
  have F24 := fun_mk (st := s__law_told) l24 c24 k24
  have F25 := fun_mk (st := s__law_right) l25 c25 k25
  have F26 := fun_mk (st := s__law_box) l26 c26 k26
  have F27 := fun_mk (st := s_law) l27 c27 k27
  have b0 := F0.binds (ps := p__law_folded) fun _ _ _ _ _ _ us hl => match us, hl with | [_, _], _ => rfl
  have b1 := F1.binds (ps := p__law_take) fun _ _ _ _ _ _ us hl => match us, hl with | [_, _], _ => rfl
  have b2 := F2.binds (ps := p__law_sizes) fun _ _ _ _ _ _ us hl => match us, hl with | [_], _ => rfl
  have b3 := F3.binds (ps := p_next_turnword) fun _ _ _ _ _ _ us hl => match us, hl with | [_, _, _], _ => rfl
  have b4 := F4.binds (ps := p_turnwords) fun _ _ _ _ _ _ us hl => match us, hl with | [_, _], _ => rfl
  have b5 := F5.binds (ps := p_Ground_init) fun _ _ _ _ _ _ us hl => match us, hl with | [_, _, _], _ => rfl
  have b6 := F6.binds (ps := p__law_ground_of) fun _ _ _ _ _ _ us hl => match us, hl with | [_, _], _ => rfl
  have b7 := F7.binds (ps := p_Ground_letters) fun _ _ _ _ _ _ us hl => match us, hl with | [_], _ => rfl
  have b8 := F8.binds (ps := p_Ground_depth) fun _ _ _ _ _ _ us hl => match us, hl with | [_], _ => rfl
  have b9 := F9.binds (ps := p_Ground_places) fun _ _ _ _ _ _ us hl => match us, hl with | [_], _ => rfl
  have b10 := F10.binds (ps := p_turns) fun _ _ _ _ _ _ us hl => match us, hl with | [_], _ => rfl
  have b11 := F11.binds (ps := p_is_turnword) fun _ _ _ _ _ _ us hl => match us, hl with | [_], _ => rfl
  have b12 := F12.binds (ps := p_halves) fun _ _ _ _ _ _ us hl => match us, hl with | [_], _ => rfl
  have b13 := F13.binds (ps := p_Ground_parts_at) fun _ _ _ _ _ _ us hl => match us, hl with | [_, _], _ => rfl
  have b14 := F14.binds (ps := p_backed) fun _ _ _ _ _ _ us hl => match us, hl with | [_], _ => rfl
  have b15 := F15.binds (ps := p_bracketed) fun _ _ _ _ _ _ us hl => match us, hl with | [_, _], _ => rfl
  have b16 := F16.binds (ps := p_Ground_bracket_at) fun _ _ _ _ _ _ us hl => match us, hl with | [_, _], _ => rfl
  have b17 := F17.binds (ps := p__law_number) fun _ _ _ _ _ _ us hl => match us, hl with | [_], _ => rfl
  have b18 := F18.binds (ps := p__law_drawn) fun _ _ _ _ _ _ us hl => match us, hl with | [_, _], _ => rfl
  have b19 := F19.binds (ps := p__law_backed) fun _ _ _ _ _ _ us hl => match us, hl with | [_], _ => rfl
  have b20 := F20.binds (ps := p__law_due) fun _ _ _ _ _ _ us hl => match us, hl with | [_, _], _ => rfl
  have b21 := F21.binds (ps := p_joined) fun _ _ _ _ _ _ us hl => match us, hl with | [_, _], _ => rfl
  have b22 := F22.binds (ps := p_repeated) fun _ _ _ _ _ _ us hl => match us, hl with | [_, _], _ => rfl
  have b23 := F23.binds (ps := p_spelled) fun _ _ _ _ _ _ us hl => match us, hl with | [_, _], _ => rfl
  have b24 := F24.binds (ps := p__law_told) fun _ _ _ _ _ _ us hl => match us, hl with | [_, _], _ => rfl
  have b25 := F25.binds (ps := p__law_right) fun _ _ _ _ _ _ us hl => match us, hl with | [_, _], _ => rfl
  have b26 := F26.binds (ps := p__law_box) fun _ _ _ _ _ _ us hl => match us, hl with | [_, _], _ => rfl
  have b27 := F27.binds (ps := p_law) fun _ _ _ _ _ _ us hl => match us, hl with | [_], _ => rfl
  let T : Facts K mg := ⟨C0, ca0, ⟨cp0, ch0, co0, cs0⟩, PySem.W.mg_of X G ca0, cn0x0, cn0x1, cn0x2, cn0x3, cn0x4, f0, _, F0, b0, PySem.W.mg_of X G a0, f1, _, F1, b1, PySem.W.mg_of X G a1, f2, _, F2, b2, PySem.W.mg_of X G a2, f3, _, F3, b3, PySem.W.mg_of X G a3, f4, _, F4, b4, PySem.W.mg_of X G a4, f5, _, F5, b5, ⟨cm0, a5, i5, ck0⟩, f6, _, F6, b6, PySem.W.mg_of X G a6, f7, _, F7, b7, ⟨a7, i7, k7⟩, f8, _, F8, b8, ⟨a8, i8, k8⟩, f9, _, F9, b9, ⟨a9, i9, k9⟩, f10, _, F10, b10, PySem.W.mg_of X G a10, f11, _, F11, b11, PySem.W.mg_of X G a11, f12, _, F12, b12, PySem.W.mg_of X G a12, f13, _, F13, b13, ⟨a13, i13, k13⟩, f14, _, F14, b14, PySem.W.mg_of X G a14, f15, _, F15, b15, PySem.W.mg_of X G a15, f16, _, F16, b16, ⟨a16, i16, k16⟩, f17, _, F17, b17, PySem.W.mg_of X G a17, f18, _, F18, b18, PySem.W.mg_of X G a18, f19, _, F19, b19, PySem.W.mg_of X G a19, f20, _, F20, b20, PySem.W.mg_of X G a20, f21, _, F21, b21, PySem.W.mg_of X G a21, f22, _, F22, b22, PySem.W.mg_of X G a22, f23, _, F23, b23, PySem.W.mg_of X G a23, f24, _, F24, b24, PySem.W.mg_of X G a24, f25, _, F25, b25, PySem.W.mg_of X G a25, f26, _, F26, b26, PySem.W.mg_of X G a26, fa, _, F27, b27, PySem.W.mg_of X G a27, E_BracketError, xa0, PySem.W.mg_of X G xa0, E_TooLong, xa1, PySem.W.mg_of X G xa1, E_BadName, xa2, PySem.W.mg_of X G xa2, E_BadRow, xa3, PySem.W.mg_of X G xa3, E_BadText, xa4, PySem.W.mg_of X G xa4, E_NoGround, xa5, PySem.W.mg_of X G xa5, E_NoLetter, xa6, PySem.W.mg_of X G xa6, E_NoName, xa7, PySem.W.mg_of X G xa7, E_NoPlace, xa8, PySem.W.mg_of X G xa8, E_NoPut, xa9, PySem.W.mg_of X G xa9, E_NoRules, xa10, PySem.W.mg_of X G xa10, E_Ring, xa11, PySem.W.mg_of X G xa11, E_TooGreat, xa12, PySem.W.mg_of X G xa12, ⟨xr0, xk0, xs0, xt0⟩, ⟨cls_of_mro ih0, ib0, ic0, id0, ie0, if0, ig0, ih0⟩, xm0, xi0, xi1, xi2, xi3, PySem.W.mg_of X G y0, t0, PySem.W.mg_of X G v0, t1, PySem.W.mg_of X G v1, t2, PySem.W.mg_of X G v2, t3, PySem.W.mg_of X G v3, PySem.W.mg_none_of X G z0, PySem.W.mg_none_of X G z1, PySem.W.mg_none_of X G z2, PySem.W.mg_none_of X G z3, PySem.W.mg_none_of X G z4, PySem.W.mg_none_of X G z5, PySem.W.mg_none_of X G z6, PySem.W.mg_none_of X G z7, PySem.W.mg_none_of X G z8, PySem.W.mg_none_of X G z9, PySem.W.mg_none_of X G z10, PySem.W.mg_none_of X G z11, PySem.W.mg_none_of X G z12, PySem.W.mg_none_of X G z13, PySem.W.mg_none_of X G z14⟩
  exact ⟨_, fun s v => .of_eq rfl, fun base _ _ => ok_law T⟩
end Law

namespace Law
open PySem PySem.Spec PyProof.Rows L2 DL
local macro_rules | `(tactic| walk_at "w") => `(tactic| conv => whnf)
local macro_rules | `(tactic| walk_at "s") => `(tactic| (refine ⟨?_⟩; conv => whnf))
local macro_rules | `(tactic| walk_at "z") => `(tactic| (refine small ?_; simp only [List.length_map, List.length_append, List.length_reverse, List.length_cons, List.length_nil]; omega))
local macro_rules | `(tactic| walk_at "q") => `(tactic| (refine ⟨(okN_tints _).ok, (okN_tints _).ok, ?_⟩; rw [eqD_tints]))
theorem c_box (cells : List Int) (k : Int) (l : LH) (Q : DK) (hk : 0 ≤ k) (hk2 : k < 1000)
    (h : ∀ a l', l a = none → Box l' a 0 → Oth l l' a → Q (.ref a) l') : callD D__law_box_m [.lst (cells.map D.int), .int k] l Q := by
  have key : ∀ c0 c1 : Int, 0 ≤ c0 → 0 ≤ c1 → c1 < 2147483647 → newL (.lst [.int c0, .int c1, .int 0]) l Q := fun c0 c1 h0 h1 h2 a ha => h a _ ha (Box.new h0 h1 h2) Oth.upd
  refine ⟨rfl, ?_⟩
  walk_at "w"
  have rest : ∀ c : Int, T__law_box_m_2 ⟨fun _ l => Q .non l, Q, fun _ _ => False, fun _ _ => False⟩ [some (.lst (cells.map D.int)), some (.int k), some (.int c)] l := by
    intro c
    walk_at "w"
    refine ⟨⟨by decide, by decide, by decide⟩, ?_⟩
    walk_at "w"
    refine ⟨mulR (Int.lt_of_lt_of_le (by decide) (b01 _).1) (Int.lt_of_le_of_lt (b01 _).2 (by decide)), ?_⟩
    walk_at "w"
    refine ⟨by decide, ?_⟩
    walk_at "w"
    refine ⟨mulL (by decide) (by decide), ?_⟩
    walk_at "w"
    refine ⟨mulR (by decide) (by decide), ?_⟩
    walk_at "w"
    refine ⟨by decide, ?_⟩
    walk_at "w"
    refine ⟨by show 3 ≤ sizeLine; decide, ?_⟩
    refine key _ _ ?_ (Int.emod_nonneg _ (by decide)) (Int.emod_lt_of_pos _ (by decide))
    refine Int.mul_nonneg ?_ ?_
    · split <;> omega
    · exact (b01 _).1
  refine ifB_dec (fun hlt => ?_) (fun _ => ?_)
  · obtain ⟨c, hc, _⟩ := atI_ints hk (by simpa using hlt)
    exact ⟨_, hc, ⟨rest c⟩⟩
  · exact ⟨rest 0⟩
theorem c_take {a : Addr} {n : Int} {k : Nat} {l : LH} {Q : DK} (hb : Box l a k) (hn : 0 < n) (hn2 : n < 1073741824) (hk : k < 2 ^ 40)
    (h : ∀ r l', 0 ≤ r → r < n → Box l' a (k + 1) → Oth l l' a → Q (.int r) l') : callD D__law_take [.ref a, .int n] l Q := by
  obtain ⟨o, ho, c0, c1, c2, rfl, h0, h1, h1', h2, h2'⟩ := hb
  refine ⟨rfl, ?_⟩
  walk_at "w"
  refine ⟨_, ho, .int c0, rfl, ?_⟩
  walk_at "w"
  refine ifB_dec (fun hlt => ?_) (fun hlt => ?_)
  · walk_at "w"
    refine ⟨_, ho, .int c0, rfl, ?_⟩
    walk_at "w"
    refine ⟨⟨hn, hn2⟩, ?_⟩
    walk_at "w"
    refine ⟨rfl, ?_⟩
    walk_at "w"
    refine ⟨_, ho, 0, rfl, ?_⟩
    walk_at "w"
    refine h _ _ (Int.emod_nonneg _ (by omega)) (Int.emod_lt_of_pos _ hn) ⟨_, uL_same, c0 / n, c1, c2, rfl, Int.ediv_nonneg h0 (by omega), h1, h1', h2, by omega⟩ Oth.upd
  · walk_at "s"
    refine ⟨_, ho, .int c2, rfl, ?_⟩
    walk_at "w"
    refine ⟨_, ho, 2, rfl, ?_⟩
    generalize hl : uL l a _ = l1
    have ho1 : l1 a = some (.lst [.int c0, .int c1, .int (c2 + 1)]) := by rw [← hl]; exact uL_same
    walk_at "s"
    refine ⟨_, ho1, .int (c2 + 1), rfl, ?_⟩
    walk_at "w"
    refine ⟨_, ho1, .int (c2 + 1), rfl, ?_⟩
    walk_at "w"
    refine ⟨mulL (by omega) (by omega), ?_⟩
    generalize hs : (c2 + 1) * (c2 + 1) = step
    walk_at "w"
    walk_at "s"
    refine ⟨_, ho1, .int c1, rfl, ?_⟩
    walk_at "w"
    refine ⟨_, ho1, .int (c2 + 1), rfl, ?_⟩
    walk_at "w"
    refine ⟨mulL (by decide) (by decide), ?_⟩
    walk_at "w"
    refine ⟨mulL (by omega) (by omega), ?_⟩
    walk_at "w"
    refine ⟨by decide, ?_⟩
    generalize he : (c1 + 39373 * (c2 + 1)) * (69621 + step) % 2147483587 = once
    have e1 : 0 ≤ once := by rw [← he]; exact Int.emod_nonneg _ (by decide)
    have e2 : once < 2147483587 := by rw [← he]; exact Int.emod_lt_of_pos _ (by decide)
    walk_at "w"
    walk_at "s"
    refine ⟨by decide, ?_⟩
    walk_at "w"
    refine ⟨mulL (by omega) (by omega), ?_⟩
    walk_at "w"
    refine ⟨_, ho1, .int (c2 + 1), rfl, ?_⟩
    walk_at "w"
    refine ⟨by decide, ?_⟩
    generalize hf : (once * (once % 30011 + 5) + (c2 + 1)) % 2147483563 = twice
    have f1 : 0 ≤ twice := by rw [← hf]; exact Int.emod_nonneg _ (by decide)
    have f2 : twice < 2147483563 := by rw [← hf]; exact Int.emod_lt_of_pos _ (by decide)
    walk_at "w"
    walk_at "s"
    refine ⟨by decide, ?_⟩
    walk_at "w"
    refine ⟨mulL (by omega) (by omega), ?_⟩
    walk_at "w"
    refine ⟨by decide, ?_⟩
    walk_at "w"
    refine ⟨⟨by decide, by decide⟩, ?_⟩
    walk_at "w"
    refine ⟨hn, ?_⟩
    refine h _ l1 (Int.emod_nonneg _ (by omega)) (Int.emod_lt_of_pos _ hn) ⟨_, ho1, c0, c1, c2 + 1, rfl, h0, h1, h1', by omega, by omega⟩ (by rw [← hl]; exact Oth.upd)
/-- the cells -/
theorem folded_loop (ns : List Int) (n : Int) (hn : 0 < n) (hn2 : n < 1000) (a : Addr) (l0 : LH) (E : DEnds)
    (hE : ∀ (cs : List Int) e3 e4, cs.length = n.toNat → E.nx [some (.scr ns), some (.int n), some (.ref a), e3, e4] (uL l0 a (.lst (cs.map D.int)))) :
    ∀ (xs : List Int) (i : Nat) (cs : List Int) e3 e4, i + xs.length < 1000 → cs.length = n.toNat →
      forL (gTup 2 (gCons (gName 3) (gCons (gName 4) gNil))) (nS B__law_folded_1) (enumD i (xs.map D.int)) E [some (.scr ns), some (.int n), some (.ref a), e3, e4] (uL l0 a (.lst (cs.map D.int)))
  | [], _, cs, e3, e4, _, hc => hE cs e3 e4 hc
  | x :: xs, i, cs, e3, e4, hi, hc => by
    have h0 : 0 ≤ (i : Int) % n := Int.emod_nonneg _ (by omega)
    have h1 : (i : Int) % n < cs.length := by
      have := Int.emod_lt_of_pos (i : Int) hn
      omega
    obtain ⟨c, hc1, _⟩ := atI_ints h0 h1
    refine ⟨rfl, ?_⟩
    walk_at "w"
    walk_at "s"
    refine ⟨hn, ?_⟩
    walk_at "w"
    refine ⟨_, uL_same, _, hc1, ?_⟩
    walk_at "w"
    rw [List.length_cons] at hi
    refine ⟨mulR (by omega) (by omega), ?_⟩
    walk_at "w"
    refine ⟨hn, ?_⟩
    walk_at "w"
    refine ⟨_, uL_same, ((i : Int) % n).toNat, ?_, ?_⟩
    · unfold ixN
      rw [List.length_map, if_pos h0, if_pos h1]
    · rw [uL_uL, ← List.map_set]
      exact folded_loop ns n hn hn2 a l0 E hE xs (i + 1) _ _ _ (by omega) (by rw [List.length_set]; exact hc)
theorem c_folded (ns : List Int) (n : Int) (hn : 0 < n) (hn2 : n < 60) (hl : ns.length ≤ 63) (l : LH) (Q : DK) (h : ∀ cs : List Int, cs.length ≤ 63 → Q (.lst (cs.map D.int)) l) : callD D__law_folded [.scr ns, .int n] l Q := by
  refine ⟨rfl, ?_⟩
  walk_at "w"
  intro a ha
  have fin : ∀ (cs : List Int) e3 e4, cs.length ≤ 63 → T__law_folded_3 ⟨fun _ l => Q .non l, Q, fun _ _ => False, fun _ _ => False⟩ [some (.scr ns), some (.int n), some (.ref a), e3, e4] (uL l a (.lst (cs.map D.int))) := by
    intro cs e3 e4 hc
    refine ⟨_, uL_same, ?_⟩
    have e : dL (uL l a (.lst (cs.map D.int))) a = l := by
      funext b
      unfold dL
      by_cases hb : b = a
      · rw [if_pos hb, hb, ha]
      · rw [if_neg hb, uL_ne hb]
    rw [e]
    exact h cs hc
  rw [cutD_head ns n (by omega)]
  walk_at "w"
  refine ⟨?_⟩
  show forL _ _ (enumD 0 (cutD (ns.map D.int) (some n) (some 63))) _ _ _
  by_cases hs : ns.length ≤ n.toNat
  · have e : cutD (ns.map D.int) (some n) (some 63) = [] := by
      obtain ⟨j, rfl⟩ := Int.eq_ofNat_of_zero_le (show 0 ≤ n by omega)
      have hj : ns.length ≤ j := by simpa using hs
      unfold DL.cutD
      rw [show (some (63 : Int)) = some ((63 : Nat) : Int) from rfl, HT.sIx_nat, HT.sIx_nat, List.length_map, List.drop_of_length_le (by rw [List.length_map]; omega), List.take_nil]
    rw [e]
    exact ⟨fin _ _ _ (by rw [List.length_take]; omega)⟩
  · have e : ∃ xs : List Int, xs.length ≤ 63 ∧ cutD (ns.map D.int) (some n) (some 63) = xs.map D.int := by
      unfold DL.cutD
      rw [List.length_map, ← List.map_drop, ← List.map_take]
      exact ⟨_, by rw [List.length_take, List.length_drop]; omega, rfl⟩
    obtain ⟨xs, hx, e⟩ := e
    rw [e]
    refine folded_loop ns n hn (by omega) a l ⟨nS T__law_folded_3 ⟨fun _ l => Q .non l, Q, fun _ _ => False, fun _ _ => False⟩, Q, fun _ _ => False, fun _ _ => False⟩ (fun cs e3 e4 hc => ⟨fin cs e3 e4 (by omega)⟩) xs 0 _ _ _ (by omega) ?_
    rw [List.length_take]
    omega
/-! turns of plain words -/
def tnL (ws : List Int) : List (List Int) := (List.range ws.length).map fun k => ws.drop k ++ ws.take k
theorem tnL_len (ws : List Int) : (tnL ws).length = ws.length := by unfold tnL; rw [List.length_map, List.length_range]
theorem tnL_mem {ws u : List Int} (h : u ∈ tnL ws) : ∃ k, k < ws.length ∧ u = ws.drop k ++ ws.take k := by
  obtain ⟨k, hk, e⟩ := List.mem_map.mp h
  exact ⟨k, List.mem_range.mp hk, e.symm⟩
theorem turn_len {ws : List Int} (k : Nat) : (ws.drop k ++ ws.take k).length = ws.length := by
  rw [List.length_append, List.length_drop, List.length_take]
  omega
def tupsD (us : List (List Int)) : List D := us.map fun u => D.tup (u.map D.int)
theorem rgD_map {β : Type} (n : Nat) (f : D → β) (g : Nat → β) (h : ∀ k, k < n → f (.int (k : Int)) = g k) : (rgD 0 n).map f = (List.range n).map g := by
  unfold rgD
  rw [List.map_map]
  refine List.map_congr_left fun k hk => ?_
  show f (.int ((0 : Int) + (k : Nat))) = g k
  rw [Int.zero_add]
  exact h k (List.mem_range.mp hk)
def turnD (ws : List Int) (d : D) : D := match d with
  | .int i => .tup ((ws.drop i.toNat ++ ws.take i.toNat).map D.int)
  | d => d
theorem turns_rg (ws : List Int) : (rgD 0 ws.length).map (turnD ws) = tupsD (tnL ws) := by
  rw [rgD_map (g := fun k => D.tup ((ws.drop k ++ ws.take k).map D.int)) ws.length _ fun k _ => rfl]
  unfold tupsD tnL
  rw [List.map_map]
  rfl
theorem rgD_len (lo : Int) (n : Nat) : (rgD lo n).length = n := by unfold rgD; rw [List.length_map, List.length_range]
theorem rgD_mem {n : Nat} {x : D} (h : x ∈ rgD 0 n) : ∃ j : Nat, x = .int (j : Int) ∧ j < n := by
  obtain ⟨j, hj, e⟩ := List.mem_map.mp h
  exact ⟨j, by rw [← e, Int.zero_add], List.mem_range.mp hj⟩
def PlainOf (ws : List Int) (n : Int) : Prop := ∀ w ∈ ws, 1 ≤ w ∧ w ≤ n
theorem PlainOf.append {ws us : List Int} {n : Int} (h : PlainOf ws n) (h' : PlainOf us n) : PlainOf (ws ++ us) n := fun w hw => (List.mem_append.mp hw).elim (h w) (h' w)
theorem PlainOf.take {ws : List Int} {n : Int} (h : PlainOf ws n) (k : Nat) : PlainOf (ws.take k) n := fun w hw => h w (List.mem_of_mem_take hw)
theorem PlainOf.drop {ws : List Int} {n : Int} (h : PlainOf ws n) (k : Nat) : PlainOf (ws.drop k) n := fun w hw => h w (List.mem_of_mem_drop hw)
theorem PlainOf.rep {ws : List Int} {n : Int} (h : PlainOf ws n) (k : Nat) : PlainOf (List.replicate k ws).flatten n := fun w hw => by
  obtain ⟨u, hu, hw⟩ := List.mem_flatten.mp hw
  rw [List.eq_of_mem_replicate hu] at hw
  exact h w hw
theorem PlainOf.le {ws : List Int} {n m : Int} (h : PlainOf ws n) (hm : n ≤ m) : PlainOf ws m := fun w hw => ⟨(h w hw).1, Int.le_trans (h w hw).2 hm⟩
def isTwL (ws : List Int) : Bool := decide (0 < ws.length) && ((tnL ws).drop 1).all fun t => HT.lexLt ws t
theorem rep_len' (m : Nat) (ws : List Int) : (List.replicate m ws).flatten.length = m * ws.length := by
  induction m with
  | zero => simp
  | succ m ih => rw [List.replicate_succ, List.flatten_cons, List.length_append, ih, Nat.succ_mul, Nat.add_comm]
theorem all_tups (ws : List Int) (us : List (List Int)) : ∃ bs : List Bool, ((tupsD us).map fun d => match d with | .tup xs => D.bl (HT.lexLt ws ((intsOf xs).getD [])) | d => d) = bs.map D.bl ∧ bs.all id = us.all fun t => HT.lexLt ws t := by
  refine ⟨us.map fun t => HT.lexLt ws t, ?_, ?_⟩
  · unfold tupsD
    rw [List.map_map, List.map_map]
    refine List.map_congr_left fun t _ => ?_
    show D.bl (HT.lexLt ws ((intsOf (t.map D.int)).getD [])) = _
    rw [intsOf_map]
    rfl
  · rw [List.all_map]
    rfl
def pw (q : List Int) (n : Nat) : List Int := (List.replicate n q).flatten
theorem rep_map' (m : Nat) (ws : List Int) : (List.replicate m (ws.map D.int)).flatten = (pw ws m).map D.int := by unfold pw; rw [List.map_flatten, List.map_replicate]
def selN (p : Nat → Bool) (d : D) : Bool := match d with | .int i => p i.toNat | _ => false
theorem rgD_filter (n lo : Nat) (p : Nat → Bool) : ((rgD (lo : Int) n).filter (selN p)) = (((List.range n).map (lo + ·)).filter p).map fun d => D.int ((d : Nat) : Int) := by
  unfold rgD
  rw [List.filter_map, List.filter_map, List.map_map]
  have e1 : (selN p ∘ fun k : Nat => D.int ((lo : Int) + (k : Nat))) = (p ∘ (lo + ·)) := by
    funext k
    show p ((lo : Int) + (k : Nat)).toNat = p (lo + k)
    congr 1
  rw [e1]
  refine List.map_congr_left fun k _ => ?_
  show D.int ((lo : Int) + (k : Nat)) = D.int ((lo + k : Nat) : Int)
  congr 1
theorem rgD_succ (lo : Int) (n : Nat) : rgD lo (n + 1) = .int lo :: rgD (lo + 1) n := by
  unfold rgD
  rw [List.range_succ_eq_map, List.map_cons, List.map_map]
  congr 1
  · simp
  · refine List.map_congr_left fun k _ => ?_
    show D.int (lo + ((k + 1 : Nat) : Int)) = D.int (lo + 1 + (k : Nat))
    congr 1
    omega
/-! words in order -/
theorem ll_iff (x y : Int) (xs ys : List Int) : x :: xs < y :: ys ↔ x < y ∨ (x = y ∧ xs < ys) := List.cons_lt_cons_iff
theorem ll_nil (y : Int) (ys : List Int) : ([] : List Int) < y :: ys := by simp
theorem ll_not_nil (xs : List Int) : ¬ xs < [] := by simp
theorem ll_irr : ∀ xs : List Int, ¬ xs < xs
  | [], h => ll_not_nil _ h
  | x :: xs, h => by
    rcases (ll_iff _ _ _ _).mp h with h | ⟨_, h⟩
    · omega
    · exact ll_irr xs h
theorem ll_tri : ∀ xs ys : List Int, xs < ys ∨ xs = ys ∨ ys < xs
  | [], [] => .inr (.inl rfl)
  | [], y :: ys => .inl (ll_nil _ _)
  | x :: xs, [] => .inr (.inr (ll_nil _ _))
  | x :: xs, y :: ys => by
    rcases Int.lt_trichotomy x y with h | h | h
    · exact .inl ((ll_iff _ _ _ _).mpr (.inl h))
    · subst h
      rcases ll_tri xs ys with h | h | h
      · exact .inl ((ll_iff _ _ _ _).mpr (.inr ⟨rfl, h⟩))
      · exact .inr (.inl (by rw [h]))
      · exact .inr (.inr ((ll_iff _ _ _ _).mpr (.inr ⟨rfl, h⟩)))
    · exact .inr (.inr ((ll_iff _ _ _ _).mpr (.inl h)))
theorem ll_trans : ∀ {xs ys zs : List Int}, xs < ys → ys < zs → xs < zs
  | _, _, [], _, h => absurd h (ll_not_nil _)
  | _, [], _, h, _ => absurd h (ll_not_nil _)
  | [], _, z :: zs, _, _ => ll_nil _ _
  | x :: xs, y :: ys, z :: zs, h, h' => by
    rcases (ll_iff _ _ _ _).mp h with q | ⟨e, q⟩ <;> rcases (ll_iff _ _ _ _).mp h' with q' | ⟨e', q'⟩
    · exact (ll_iff _ _ _ _).mpr (.inl (by omega))
    · exact (ll_iff _ _ _ _).mpr (.inl (by omega))
    · exact (ll_iff _ _ _ _).mpr (.inl (by omega))
    · exact (ll_iff _ _ _ _).mpr (.inr ⟨e.trans e', ll_trans q q'⟩)
theorem ll_asym {xs ys : List Int} (h : xs < ys) : ¬ ys < xs := fun h' => ll_irr _ (ll_trans h h')
theorem lexLt_iff {xs ys : List Int} : HT.lexLt xs ys = true ↔ xs < ys := by rw [lexLt_dec, decide_eq_true_eq]
theorem ll_pre (p : List Int) {xs ys : List Int} : p ++ xs < p ++ ys ↔ xs < ys := by
  induction p with
  | nil => exact Iff.rfl
  | cons a p ih =>
    rw [List.cons_append, List.cons_append, ll_iff, ih]
    constructor
    · rintro (h | ⟨_, h⟩)
      · omega
      · exact h
    · exact fun h => .inr ⟨rfl, h⟩
theorem ll_self_app (p : List Int) {x : Int} {xs : List Int} : p < p ++ x :: xs := by
  have := (ll_pre p (xs := []) (ys := x :: xs)).mpr (ll_nil _ _)
  rwa [List.append_nil] at this
/-- either differs within the shorter, or the one begins the other -/
theorem ll_split {xs ys : List Int} (h : xs < ys) : (∃ x z, ys = xs ++ x :: z) ∨ ∃ p x y u v, xs = p ++ x :: u ∧ ys = p ++ y :: v ∧ x < y := by
  induction xs generalizing ys with
  | nil =>
    cases ys with
    | nil => exact absurd h (ll_not_nil _)
    | cons y ys => exact .inl ⟨y, ys, rfl⟩
  | cons x xs ih =>
    cases ys with
    | nil => exact absurd h (ll_not_nil _)
    | cons y ys =>
      rcases (ll_iff _ _ _ _).mp h with q | ⟨rfl, q⟩
      · exact .inr ⟨[], x, y, xs, ys, rfl, rfl, q⟩
      · rcases ih q with ⟨a, z, rfl⟩ | ⟨p, a, b, u, v, rfl, rfl, hab⟩
        · exact .inl ⟨a, z, rfl⟩
        · exact .inr ⟨x :: p, a, b, u, v, rfl, rfl, hab⟩
theorem ll_diff {p : List Int} {x y : Int} {u v : List Int} (h : x < y) : p ++ x :: u < p ++ y :: v := (ll_pre p).mpr ((ll_iff _ _ _ _).mpr (.inl h))
/-- of words alike long what stands behind does not matter -/
theorem ll_app {xs ys : List Int} (h : xs < ys) (hl : xs.length = ys.length) (u v : List Int) : xs ++ u < ys ++ v := by
  rcases ll_split h with ⟨x, z, rfl⟩ | ⟨p, x, y, a, b, rfl, rfl, hab⟩
  · rw [List.length_append, List.length_cons] at hl; omega
  · rw [List.append_assoc, List.append_assoc]
    exact ll_diff hab
theorem c_turns (ws : List Int) (l : LH) (Q : DK) (hz : ws.length ≤ 1000) (x : D) (hx : Hd x ws) (h : Q (.lst (tupsD (tnL ws))) l) : callD D_turns [x] l Q := by
  rcases hx with rfl | rfl
  all_goals
    refine ⟨rfl, ?_⟩
    walk_at "w"
    rw [List.length_map]
    refine ⟨⟨by omega, by omega⟩, by rw [rgD_len]; exact small (by omega), ?_⟩
    rw [Int.toNat_natCast]
    refine comp_pure (f := turnD ws) (fun x hx K1 K2 h1 => ?_) (by rw [turns_rg]; exact h)
    obtain ⟨j, rfl, hj⟩ := rgD_mem hx
    refine ifB_true ⟨?_⟩
    walk_at "w"
    rw [cutD_to, cutD_from]
    refine ⟨by refine small ?_; simp only [List.length_take, List.length_drop, List.length_map]; omega, ?_⟩
    rw [← List.map_drop, ← List.map_take, ← List.map_append]
    exact h1
theorem c_is_turnword (ws : List Int) (l : LH) (Q : DK) (hz : ws.length ≤ 1000) (x : D) (hx : Hd x ws) (h : Q (.bl (isTwL ws)) l) : callD D_is_turnword [x] l Q := by
  have hx' := hx
  rcases hx with rfl | rfl
  all_goals
    refine ⟨rfl, ?_⟩
    walk_at "w"
    rw [List.length_map]
    by_cases h0 : (0 : Int) < (ws.length : Nat)
    · rw [decide_eq_true h0]
      walk_at "w"
      refine c_turns ws l _ hz _ hx' ?_
      walk_at "w"
      rw [show (some (1 : Int)) = some ((1 : Nat) : Int) from rfl, cutD_from]
      refine ⟨by refine small ?_; unfold tupsD; rw [List.length_drop, List.length_map, tnL_len]; omega, ?_⟩
      obtain ⟨bs, e1, e2⟩ := all_tups ws ((tnL ws).drop 1)
      refine comp_pure (f := fun d => match d with | .tup xs => D.bl (HT.lexLt ws ((intsOf xs).getD [])) | d => d) (fun d hd K1 K2 h1 => ?_) ⟨bs, ?_, ?_⟩
      · have hd' := List.mem_of_mem_drop hd
        obtain ⟨u, _, rfl⟩ := List.mem_map.mp hd'
        refine ifB_true ⟨?_⟩
        walk_at "w"
        refine ⟨ws, u, rfl, rfl, ?_⟩
        rw [show (match D.tup (u.map D.int) with | .tup xs => D.bl (HT.lexLt ws ((intsOf xs).getD [])) | d => d) = D.bl (HT.lexLt ws ((intsOf (u.map D.int)).getD [])) from rfl, intsOf_map] at h1
        exact h1
      · rw [← e1]
        unfold tupsD
        rw [List.map_drop, List.map_drop, List.map_drop]
      · rw [e2]
        unfold isTwL at h
        rw [decide_eq_true (show 0 < ws.length by omega), Bool.true_and] at h
        exact h
    · rw [decide_eq_false h0]
      unfold isTwL at h
      rw [decide_eq_false (show ¬ 0 < ws.length by omega), Bool.false_and] at h
      exact h
/-! turnwords by their ends -/
theorem ll_ext {xs ys : List Int} (h : xs < ys) (hl : ys.length ≤ xs.length) (u v : List Int) : xs ++ u < ys ++ v := by
  rcases ll_split h with ⟨x, z, rfl⟩ | ⟨p, x, y, a, b, rfl, rfl, hab⟩
  · rw [List.length_append, List.length_cons] at hl; omega
  · rw [List.append_assoc, List.append_assoc]
    exact ll_diff hab
theorem ll_ext0 {xs ys : List Int} (h : xs < ys) (hl : ys.length ≤ xs.length) (u : List Int) : xs ++ u < ys := by
  have := ll_ext h hl u []
  rwa [List.append_nil] at this
theorem ll_pre_le {xs ys : List Int} (h : ∃ z, ys = xs ++ z) : ¬ ys < xs := by
  obtain ⟨z, rfl⟩ := h
  cases z with
  | nil => rw [List.append_nil]; exact ll_irr _
  | cons a z => exact ll_asym (ll_self_app xs)
/-- what is no less, by a word between -/
theorem ll_le_trans {a b c : List Int} (h : ¬ b < a) (h' : ¬ c < b) : ¬ c < a := fun z => by
  rcases ll_tri a b with q | q | q
  · exact h' (ll_trans z q)
  · subst q; exact h' z
  · exact h q
theorem ll_lt_le {a b c : List Int} (h : a < b) (h' : ¬ c < b) : a < c := by
  rcases ll_tri b c with q | q | q
  · exact ll_trans h q
  · subst q; exact h
  · exact absurd q h'
theorem ll_le_lt {a b c : List Int} (h : ¬ b < a) (h' : b < c) : a < c := by
  rcases ll_tri a b with q | q | q
  · exact ll_trans q h'
  · subst q; exact h'
  · exact absurd q h
def Lyn (w : List Int) : Prop := w ≠ [] ∧ ∀ k, 1 ≤ k → k < w.length → w < w.drop k
def Tw (w : List Int) : Prop := w ≠ [] ∧ ∀ k, 1 ≤ k → k < w.length → w < w.drop k ++ w.take k
theorem isTwL_tw (w : List Int) : isTwL w = true ↔ Tw w := by
  unfold isTwL
  rw [Bool.and_eq_true, decide_eq_true_eq, List.all_eq_true]
  have at_ : ∀ j, j < w.length → (tnL w)[j]? = some (w.drop j ++ w.take j) := fun j hj => by
    unfold tnL
    rw [List.getElem?_map, List.getElem?_range hj]
    rfl
  constructor
  · rintro ⟨h0, h⟩
    refine ⟨fun e => by subst e; simp at h0, fun k h1 h2 => lexLt_iff.mp (h _ ?_)⟩
    refine List.mem_of_getElem? (i := k - 1) ?_
    rw [List.getElem?_drop, show 1 + (k - 1) = k by omega]
    exact at_ k h2
  · rintro ⟨h0, h⟩
    refine ⟨List.length_pos_iff.mpr h0, fun t ht => lexLt_iff.mpr ?_⟩
    obtain ⟨i, hi, e⟩ := List.mem_iff_getElem.mp ht
    have e2 : ((tnL w).drop 1)[i]? = some t := by rw [List.getElem?_eq_getElem hi, e]
    rw [List.getElem?_drop] at e2
    have hl : i + 1 < w.length := by
      rw [List.length_drop, tnL_len] at hi
      omega
    rw [show 1 + i = i + 1 by omega, at_ _ hl] at e2
    cases e2
    exact h _ (by omega) hl
theorem tw_lyn {w : List Int} : Tw w ↔ Lyn w := by
  constructor
  · rintro ⟨h0, h⟩
    refine ⟨h0, fun k h1 h2 => ?_⟩
    have ld : (w.drop k).length = w.length - k := List.length_drop
    rcases ll_tri w (w.drop k) with q | q | q
    · exact q
    · have := congrArg List.length q
      omega
    · exfalso
      rcases ll_split q with ⟨x, z, e⟩ | ⟨p, x, y, u, v, e1, e2, hab⟩
      · have hz : (x :: z).length = k := by
          have := congrArg List.length e
          rw [List.length_append] at this
          omega
        have r1 := h k h1 h2
        have e' : w = w.drop k ++ (x :: z) := e
        have r1' : w.drop k ++ (x :: z) < w.drop k ++ w.take k := by
          have := r1
          rw [e'] at this
          have d1 : (w.drop k ++ x :: z).drop k = w.drop k := by rw [← e']
          have d2 : (w.drop k ++ x :: z).take k = w.take k := by rw [← e']
          rwa [d1, d2] at this
        have r1'' := (ll_pre _).mp r1'
        have r2 := h (w.length - k) (by omega) (by omega)
        have d3 : w.drop (w.length - k) = x :: z := by
          have := congrArg (List.drop (w.length - k)) e'
          rwa [List.drop_left' ld] at this
        have d4 : w.take (w.length - k) = w.drop k := by
          have := congrArg (List.take (w.length - k)) e'
          rwa [List.take_left' ld] at this
        rw [d3, d4] at r2
        have r2' : w.take k ++ w.drop k < (x :: z) ++ w.drop k := by rw [List.take_append_drop]; exact r2
        have lt : (w.take k).length = k := by rw [List.length_take]; omega
        rcases ll_tri (w.take k) (x :: z) with q1 | q1 | q1
        · exact ll_asym r1'' q1
        · rw [q1] at r1''; exact ll_irr _ r1''
        · have := ll_app q1 (by rw [lt, hz]) (w.drop k) (w.drop k)
          exact ll_asym this r2'
      · have r1 := h k h1 h2
        have : w.drop k ++ w.take k < w := by
          conv => rhs; rw [e2]
          rw [e1, List.append_assoc]
          exact ll_diff hab
        exact ll_asym this r1
  · rintro ⟨h0, h⟩
    refine ⟨h0, fun k h1 h2 => ?_⟩
    have q := h k h1 h2
    have ld : (w.drop k).length = w.length - k := List.length_drop
    have := ll_ext q (by omega) [] (w.take k)
    rwa [List.append_nil] at this
/-- the least end of a word -/
theorem least_end (w : List Int) : ∀ n, 1 ≤ n → n < w.length → ∃ k, 1 ≤ k ∧ k ≤ n ∧ ∀ j, 1 ≤ j → j ≤ n → j ≠ k → w.drop k < w.drop j
  | 0, h, _ => by omega
  | n + 1, h, h2 => by
    by_cases h0 : n = 0
    · subst h0
      exact ⟨1, Nat.le_refl _, Nat.le_refl _, fun j a b c => absurd (by omega) c⟩
    · obtain ⟨k, k1, k2, hk⟩ := least_end w n (by omega) (by omega)
      rcases ll_tri (w.drop (n + 1)) (w.drop k) with q | q | q
      · refine ⟨n + 1, by omega, Nat.le_refl _, fun j a b c => ?_⟩
        by_cases e : j = k
        · subst e; exact q
        · exact ll_trans q (hk j a (by omega) e)
      · have := congrArg List.length q
        rw [List.length_drop, List.length_drop] at this
        omega
      · refine ⟨k, k1, by omega, fun j a b c => ?_⟩
        by_cases e : j = n + 1
        · subst e; exact q
        · exact hk j a (by omega) c
/-- an end that is less than all longer and shorter ones is a turnword -/
theorem least_end_lyn {w : List Int} {k : Nat} (h1 : 1 ≤ k) (h2 : k < w.length) (h : ∀ j, 1 ≤ j → j < w.length → j ≠ k → w.drop k < w.drop j) : Lyn (w.drop k) := by
  have ld : (w.drop k).length = w.length - k := List.length_drop
  refine ⟨fun e => by rw [e] at ld; simp at ld; omega, fun j a b => ?_⟩
  rw [List.drop_drop]
  exact h (k + j) (by omega) (by omega) (by omega)
/-- the halves of a turnword: the first end that is a turnword is the least end; what is ahead of it is a turnword -/
theorem halves_lyn {w : List Int} (hw : Lyn w) {k : Nat} (h1 : 1 ≤ k) (h2 : k < w.length) (hk : Lyn (w.drop k)) (hmin : ∀ j, 1 ≤ j → j < k → ¬ Lyn (w.drop j)) :
    Lyn (w.take k) ∧ w.take k < w.drop k := by
  obtain ⟨m, m1, m2, hm⟩ := least_end w (w.length - 1) (by omega) (by omega)
  have hm' : ∀ j, 1 ≤ j → j < w.length → j ≠ m → w.drop m < w.drop j := fun j a b c => hm j a (by omega) c
  have lm := least_end_lyn m1 (by omega) hm'
  have e : m = k := by
    rcases Nat.lt_trichotomy m k with q | q | q
    · exact absurd lm (hmin m m1 q)
    · exact q
    · exfalso
      have q1 := hk.2 (m - k) (by omega) (by rw [List.length_drop]; omega)
      rw [List.drop_drop, show k + (m - k) = m by omega] at q1
      exact ll_asym q1 (hm' k h1 h2 (by omega))
  subst e
  have lt : (w.take m).length = m := by rw [List.length_take]; omega
  refine ⟨⟨fun e => by rw [e] at lt; simp at lt; omega, fun j a b => ?_⟩, ?_⟩
  · have hj : j < m := by omega
    have ex : w.drop j = (w.take m).drop j ++ w.drop m := by
      have := congrArg (List.drop j) (List.take_append_drop m w)
      rwa [List.drop_append_of_le_length (by omega), eq_comm] at this
    have q := hw.2 j a (by omega)
    rcases ll_tri (w.take m) ((w.take m).drop j) with z | z | z
    · exact z
    · have := congrArg List.length z
      rw [List.length_drop] at this
      omega
    · exfalso
      rcases ll_split z with ⟨x, u, e⟩ | ⟨p, x, y, u, v, e1, e2, hab⟩
      · have eu : (x :: u).length = j := by
          have := congrArg List.length e
          rw [List.length_append, List.length_drop] at this
          omega
        have e3 : w = (w.take m).drop j ++ ((x :: u) ++ w.drop m) := by
          rw [← List.append_assoc, ← e, List.take_append_drop]
        have e4 : w.drop (m - j) = (x :: u) ++ w.drop m := by
          have := congrArg (List.drop (m - j)) e3
          rwa [List.drop_left' (by rw [List.length_drop, lt])] at this
        rw [ex] at q
        have q2 : (w.take m).drop j ++ ((x :: u) ++ w.drop m) < (w.take m).drop j ++ w.drop m := by rw [← e3]; exact q
        have q3 := (ll_pre _).mp q2
        rw [← e4] at q3
        exact ll_asym q3 (hm' (m - j) (by omega) (by omega) (by omega))
      · have : w.drop j < w := by
          rw [ex, e1]
          conv => rhs; rw [← List.take_append_drop m w, e2]
          rw [List.append_assoc, List.append_assoc]
          exact ll_diff hab
        exact ll_asym this q
  · refine ll_trans ?_ (hw.2 m h1 h2)
    cases e : w.drop m with
    | nil =>
      have := congrArg List.length e
      rw [List.length_drop] at this
      simp at this
      omega
    | cons x z =>
      conv => rhs; rw [← List.take_append_drop m w, e]
      exact ll_self_app _
theorem lyn_one (a : Int) : Lyn [a] := ⟨by simp, fun k h1 h2 => by simp at h2; omega⟩
theorem isTwL_lyn (w : List Int) : isTwL w = true ↔ Lyn w := (isTwL_tw w).trans tw_lyn
theorem c_halves {w : List Int} (hw : Lyn w) (h2 : 2 ≤ w.length) (hz : w.length ≤ 60) {x : D} (hx : Hd x w) {l : LH} {Q : DK}
    (h : ∀ k, 1 ≤ k → k < w.length → Lyn (w.take k) → Lyn (w.drop k) → w.take k < w.drop k → (∀ j, 1 ≤ j → j < k → ¬ Lyn (w.drop j)) → Q (.tup [wordD (w.take k), wordD (w.drop k)]) l) : callD D_halves [x] l Q := by
  have fin : ∀ k, 1 ≤ k → k < w.length → Lyn (w.drop k) → (∀ j, 1 ≤ j → j < k → ¬ Lyn (w.drop j)) → Q (.tup [wordD (w.take k), wordD (w.drop k)]) l := fun k a b c d => by
    obtain ⟨p, q⟩ := halves_lyn hw a b c d
    exact h k a b p c q d
  rcases hx with rfl | rfl
  all_goals
    refine ⟨rfl, ?_⟩
    walk_at "w"
    walk_at "s"
    first
      | refine ⟨fun m env l' => l' = l ∧ ∃ s : Nat, env = [some (.tup (w.map D.int)), some (.int s)] ∧ 1 ≤ s ∧ s < w.length ∧ m = w.length - 1 - s ∧ ∀ j, 1 ≤ j → j < s → ¬ Lyn (w.drop j), ⟨w.length - 2, rfl, 1, rfl, Nat.le_refl _, by omega, by omega, fun j a b => by omega⟩, ?_⟩
      | refine ⟨fun m env l' => l' = l ∧ ∃ s : Nat, env = [some (.lst (w.map D.int)), some (.int s)] ∧ 1 ≤ s ∧ s < w.length ∧ m = w.length - 1 - s ∧ ∀ j, 1 ≤ j → j < s → ¬ Lyn (w.drop j), ⟨w.length - 2, rfl, 1, rfl, Nat.le_refl _, by omega, by omega, fun j a b => by omega⟩, ?_⟩
    rintro m env l' ⟨rfl, s, rfl, s1, s2, rfl, hs⟩
    have tailk : (∀ j, 1 ≤ j → j < s → ¬ Lyn (w.drop j)) → Lyn (w.drop s) → Q (.tup [wordD (w.take s), wordD (w.drop s)]) l' := fun a b => fin s s1 s2 b a
    walk_at "w"
    rw [List.length_map]
    refine ifB_dec (fun hlt => ?_) (fun hge => ?_)
    · walk_at "w"
      rw [cutD_from, ← List.map_drop]
      refine c_is_turnword (w.drop s) l' _ (by rw [List.length_drop]; omega) _ (by first | exact Hd.t _ | exact Hd.l _) ?_
      cases hb : isTwL (w.drop s) with
      | false =>
        refine ifB_true ⟨?_⟩
        walk_at "w"
        refine ⟨w.length - 1 - (s + 1), by omega, rfl, s + 1, ?_, by omega, by omega, rfl, fun j a b => ?_⟩
        · rfl
        · by_cases e : j = s
          · subst e
            intro q
            rw [(isTwL_lyn _).mpr q] at hb
            cases hb
          · exact hs j a (by omega)
      | true =>
        refine ifB_false ⟨?_⟩
        walk_at "w"
        rw [cutD_from, cutD_to, ← List.map_drop, ← List.map_take]
        refine ⟨by show 2 ≤ sizeLine; decide, ?_⟩
        exact tailk hs ((isTwL_lyn _).mp hb)
    · refine ifB_false ⟨?_⟩
      walk_at "w"
      rw [cutD_from, cutD_to, ← List.map_drop, ← List.map_take]
      refine ⟨by show 2 ≤ sizeLine; decide, ?_⟩
      refine tailk hs ?_
      obtain ⟨a, ha⟩ : ∃ a, w.drop s = [a] := by
        have hl : (w.drop s).length = 1 := by rw [List.length_drop]; omega
        exact List.length_eq_one_iff.mp hl
      rw [ha]
      exact lyn_one a
/-! the turnwords, one behind the other -/
def dropMaxR (letters : Int) : List Int → List Int
  | [] => []
  | x :: r => if x = letters then dropMaxR letters r else x :: r
def nextL (letters : Int) (size : Nat) (w : List Int) : List Int := match dropMaxR letters ((pw w size).take size).reverse with
  | [] => []
  | x :: r => r.reverse ++ [x + 1]
theorem dropMaxR_len (letters : Int) : ∀ r : List Int, (dropMaxR letters r).length ≤ r.length
  | [] => Nat.le_refl _
  | x :: r => by
    have := dropMaxR_len letters r
    unfold dropMaxR
    split <;> simp only [List.length_cons] <;> omega
theorem nextL_len (letters : Int) (size : Nat) (w : List Int) : (nextL letters size w).length ≤ size := by
  have h := dropMaxR_len letters ((pw w size).take size).reverse
  have h2 : ((pw w size).take size).reverse.length ≤ size := by rw [List.length_reverse, List.length_take]; omega
  unfold nextL
  split
  · exact Nat.zero_le _
  · rename_i x r e
    rw [e, List.length_cons] at h
    rw [List.length_append, List.length_reverse, List.length_singleton]
    omega
theorem cutD_init (xs : List D) (x : D) : DL.cutD (xs ++ [x]) none (some (-1)) = xs := by
  unfold DL.cutD
  have e : HT.sIx (xs ++ [x]).length (xs ++ [x]).length (some (-1)) = xs.length := by
    show (if (-1 : Int) < 0 then ((-1 : Int) + ((xs ++ [x]).length : Int)).toNat else min (-1 : Int).toNat (xs ++ [x]).length) = _
    rw [if_pos (by decide), List.length_append, List.length_singleton]
    omega
  rw [e, HT.sIx_none, List.drop_zero, Nat.sub_zero, List.take_left' rfl]
theorem c_next {letters : Int} {size : Nat} {w : List Int} (hw : w.length ≤ 100) (hs : size ≤ 100) {l : LH} {Q : DK} (h : Q (.tup ((nextL letters size w).map D.int)) l) : callD D_next_turnword [.tup (w.map D.int), .int letters, .int size] l Q := by
  refine ⟨rfl, ?_⟩
  walk_at "w"
  have hm : w.length * size ≤ 100 * 100 := Nat.mul_le_mul hw hs
  refine ⟨⟨by omega, by omega, ?_⟩, ?_⟩
  · rw [List.length_map, Int.toNat_natCast]
    exact small (by omega)
  rw [Int.toNat_natCast, rep_map']
  walk_at "w"
  rw [cutD_to, ← List.map_take]
  walk_at "s"
  have main : ∀ r : List Int, dropMaxR letters r = dropMaxR letters ((pw w size).take size).reverse → (∀ x r', r = x :: r' → x ≠ letters) → T_next_turnword_3 (E0 Q) [some (.tup (w.map D.int)), some (.int letters), some (.int size), some (.tup (r.reverse.map D.int))] l := by
    intro r hr hx
    walk_at "w"
    rw [List.length_map, List.length_reverse]
    refine ⟨(okN_int _).ok, (okN_int _).ok, ?_⟩
    rw [eqD_int]
    cases r with
    | nil =>
      refine ifB_true ?_
      walk_at "w"
      refine ⟨Nat.zero_le _, ?_⟩
      unfold nextL at h
      rw [← hr] at h
      exact h
    | cons x r =>
      refine ifB_by (fun e => absurd (of_decide_eq_true e) (by simp; omega)) (fun _ => ?_)
      walk_at "w"
      walk_at "s"
      have e1 : (x :: r).reverse.map D.int = r.reverse.map D.int ++ [.int x] := by rw [List.reverse_cons, List.map_append]; rfl
      rw [e1, cutD_init]
      refine ⟨_, atI_last _ _, ?_⟩
      walk_at "w"
      refine ⟨by show 1 ≤ sizeLine; decide, ?_⟩
      walk_at "w"
      refine ⟨?_, ?_⟩
      · have := dropMaxR_len letters ((pw w size).take size).reverse
        rw [← hr] at this
        have e2 : dropMaxR letters (x :: r) = x :: r := by unfold dropMaxR; rw [if_neg (hx x r rfl)]
        rw [e2, List.length_cons, List.length_reverse, List.length_take] at this
        refine small ?_
        rw [List.length_map, List.length_reverse, List.length_singleton]
        omega
      · have e2 : dropMaxR letters (x :: r) = x :: r := by unfold dropMaxR; rw [if_neg (hx x r rfl)]
        unfold nextL at h
        rw [← hr, e2] at h
        replace h : Q (.tup ((r.reverse ++ [x + 1]).map D.int)) l := h
        rw [List.map_append] at h
        exact h
  refine ⟨fun m env l' => l' = l ∧ ∃ r : List Int, env = [some (.tup (w.map D.int)), some (.int letters), some (.int size), some (.tup (r.reverse.map D.int))] ∧ m = r.length ∧ dropMaxR letters r = dropMaxR letters ((pw w size).take size).reverse, ⟨_, rfl, ((pw w size).take size).reverse, by rw [List.reverse_reverse]; rfl, rfl, rfl⟩, ?_⟩
  rintro m env l' ⟨rfl, r, rfl, rfl, hr⟩
  walk_at "w"
  rw [List.length_map, List.length_reverse]
  cases r with
  | nil =>
    refine ifB_false ?_
    walk_at "w"
    refine ifB_false ?_
    exact ⟨main [] hr fun x r' e => by cases e⟩
  | cons x r =>
    refine ifB_dec (fun _ => ?_) (fun hn => absurd hn (by simp))
    walk_at "w"
    have e1 : (x :: r).reverse.map D.int = r.reverse.map D.int ++ [.int x] := by rw [List.reverse_cons, List.map_append]; rfl
    refine ⟨_, by rw [e1]; exact atI_last _ _, ?_⟩
    refine ⟨(okN_int _).ok, (okN_int _).ok, ?_⟩
    rw [eqD_int]
    refine ifB_dec (fun e => ?_) (fun e => ?_)
    · refine ⟨?_⟩
      walk_at "w"
      rw [e1, cutD_init]
      refine ⟨r.length, Nat.lt_succ_self _, rfl, r, rfl, rfl, ?_⟩
      rw [← hr]
      conv => rhs; unfold dropMaxR
      rw [if_pos e]
    · exact ⟨main (x :: r) hr fun y r' q => by cases q; exact e⟩
/-- turnwords, by so many steps at most -/
def twR (letters : Int) (size : Nat) : Nat → List Int → List (List Int) → Option (List (List Int))
  | 0, _, _ => none
  | n + 1, w, acc => match w with
    | [] => some acc
    | x :: r => twR letters size n (nextL letters size (x :: r)) (if (x :: r).length = size then acc ++ [x :: r] else acc)
theorem tw_while {letters : Int} {size : Nat} (hs : size ≤ 100) {b : Addr} {E : DEnds} {l0 : LH} {ws : List (List Int)} {n : Nat} (hn : twR letters size n [1] [] = some ws) (hn2 : n ≤ 10000) (s1 : 1 ≤ size)
    (hE : E.nx [some (.int letters), some (.int size), some (.ref b), some (.tup [])] (uL l0 b (.lst (ws.map wordD)))) :
    sWhile (dTV (dGt (dCall kLen (aCons (dVar 3) aNil)) (dC (.int 0)))) (nS B_turnwords_1) E [some (.int letters), some (.int size), some (.ref b), some (.tup [.int 1])] (uL l0 b (.lst [])) := by
  refine ⟨fun m env l => m ≤ n ∧ ∃ w acc, w.length ≤ 100 ∧ acc.length + m ≤ n ∧ env = [some (.int letters), some (.int size), some (.ref b), some (.tup (w.map D.int))] ∧ l = uL l0 b (.lst (acc.map wordD)) ∧ twR letters size m w acc = some ws, ⟨n, Nat.le_refl _, [1], [], by decide, by simp, rfl, rfl, hn⟩, ?_⟩
  rintro m env l ⟨hm, w, acc, hw, hacc, rfl, rfl, he⟩
  walk_at "w"
  cases m with
  | zero => cases he
  | succ m =>
    cases w with
    | nil =>
      refine ifB_false ?_
      rw [twR] at he
      cases he
      exact hE
    | cons x r =>
      refine ifB_dec (fun _ => ?_) (fun hn => absurd hn (by simp))
      refine ⟨?_⟩
      walk_at "w"
      rw [List.length_map]
      refine ⟨(okN_int _).ok, (okN_int _).ok, ?_⟩
      rw [eqD_int]
      rw [twR] at he
      have nx := nextL_len letters size (x :: r)
      refine ifB_dec (fun e => ?_) (fun e => ?_)
      · walk_at "w"
        refine ⟨_, uL_same, _, uL_same, Nat.lt_of_le_of_lt (show _ ≤ 10000 by rw [List.length_map]; omega) (by decide), ?_⟩
        rw [uL_uL]
        walk_at "w"
        refine c_next hw hs ?_
        walk_at "w"
        rw [if_pos (by omega)] at he
        refine ⟨m, Nat.lt_succ_self _, by omega, _, acc ++ [x :: r], by omega, by rw [List.length_append, List.length_singleton]; omega, rfl, ?_, he⟩
        rw [List.map_append]
        rfl
      · walk_at "w"
        refine c_next hw hs ?_
        walk_at "w"
        rw [if_neg (by omega)] at he
        exact ⟨m, Nat.lt_succ_self _, by omega, _, acc, by omega, by omega, rfl, rfl, he⟩
/-! all words, all turnwords of a ground -/
theorem c_turnwords {letters : Int} {size : Nat} (hs : size ≤ 100) (s1 : 1 ≤ size) {ws : List (List Int)} {n : Nat} (hn : twR letters size n [1] [] = some ws) (hn2 : n ≤ 10000) {l : LH} {Q : DK} (h : Q (.lst (ws.map wordD)) l) : callD D_turnwords [.int letters, .int size] l Q := by
  refine ⟨rfl, ?_⟩
  walk_at "w"
  refine ⟨Nat.zero_le _, fun b nb => ?_⟩
  walk_at "w"
  walk_at "s"
  refine ⟨by show 1 ≤ sizeLine; decide, ⟨?_⟩⟩
  refine (show sWhile (dTV (dGt (dCall kLen (aCons (dVar 3) aNil)) (dC (.int 0)))) (nS B_turnwords_1) ⟨nS T_turnwords_4 (E0 Q), Q, fun _ _ => False, fun _ _ => False⟩ [some (.int letters), some (.int size), some (.ref b), some (.tup [.int 1])] (uL l b (.lst [])) from tw_while hs hn hn2 s1 ⟨?_⟩)
  walk_at "w"
  refine ⟨_, uL_same, ?_⟩
  rw [dL_uL' nb]
  exact h
/-- all words of so many letters -/
def expandL (letters : Nat) (ws : List (List Int)) : List (List Int) := (ws.map fun w => (List.range letters).map fun k => w ++ [((1 + k : Nat) : Int)]).flatten
def allL (letters : Nat) : Nat → List (List Int)
  | 0 => [[]]
  | n + 1 => expandL letters (allL letters n)
def dueL (letters size : Nat) : List (List Int) := (allL letters size).filter isTwL
theorem allL_word (a : Nat) : ∀ n, ∀ w ∈ allL a n, w.length = n
  | 0, w, h => by
    rw [allL, List.mem_singleton] at h
    subst h; rfl
  | n + 1, w, h => by
    rw [allL] at h
    unfold expandL at h
    obtain ⟨ws, hws, hw⟩ := List.mem_flatten.mp h
    obtain ⟨u, hu, rfl⟩ := List.mem_map.mp hws
    obtain ⟨k, _, rfl⟩ := List.mem_map.mp hw
    rw [List.length_append, List.length_singleton, allL_word a n u hu]
theorem allL_plain (a : Nat) : ∀ n, ∀ w ∈ allL a n, PlainOf w a
  | 0, w, h => by
    rw [allL, List.mem_singleton] at h
    subst h
    exact fun x hx => by cases hx
  | n + 1, w, h => by
    rw [allL] at h
    unfold expandL at h
    obtain ⟨ws, hws, hw⟩ := List.mem_flatten.mp h
    obtain ⟨u, hu, rfl⟩ := List.mem_map.mp hws
    obtain ⟨k, hk, rfl⟩ := List.mem_map.mp hw
    have hk := List.mem_range.mp hk
    refine (allL_plain a n u hu).append fun x hx => ?_
    rw [List.mem_singleton] at hx
    subst hx
    omega
theorem allL_len (a : Nat) : ∀ n, (allL a n).length = a ^ n
  | 0 => rfl
  | n + 1 => by
    rw [allL]
    unfold expandL
    rw [List.length_flatten, List.map_map]
    have e : ((fun x : List (List Int) => x.length) ∘ fun w => (List.range a).map fun k => w ++ [((1 + k : Nat) : Int)]) = fun _ => a := by
      funext w
      simp
    rw [show (List.length ∘ fun w => (List.range a).map fun k => w ++ [((1 + k : Nat) : Int)]) = fun _ => a from e, List.map_const', List.sum_replicate_nat, allL_len a n, Nat.pow_succ]
/-- by sizes from m on, so many -/
def wordsF (a : Nat) : Nat → Nat → List (List Int)
  | _, 0 => []
  | m, n + 1 => allL a m ++ wordsF a (m + 1) n
def wordsG (a d : Nat) : List (List Int) := wordsF a 0 (d + 1)
def turnsF (a : Nat) : Nat → Nat → List (List Int)
  | _, 0 => []
  | m, n + 1 => dueL a m ++ turnsF a (m + 1) n
def turnsG (a d : Nat) : List (List Int) := turnsF a 1 d
def gds : List (Nat × Nat) := [(1, 1), (1, 2), (1, 3), (1, 4), (1, 5), (2, 1), (2, 2), (2, 3), (2, 4), (2, 5), (3, 1), (3, 2), (3, 3), (3, 4), (4, 1), (4, 2), (4, 3)]
def OkG (a d : Nat) : Prop := (a, d) ∈ gds
theorem OkG.num {a d : Nat} (h : OkG a d) : 1 ≤ a ∧ a ≤ 4 ∧ 1 ≤ d ∧ d ≤ 5 ∧ a + d ≤ 7 :=
  (by decide : ∀ p ∈ gds, 1 ≤ p.1 ∧ p.1 ≤ 4 ∧ 1 ≤ p.2 ∧ p.2 ≤ 5 ∧ p.1 + p.2 ≤ 7) (a, d) h
theorem gds_all {p : Nat × Nat → Bool} (h : gds.all p = true) {a d : Nat} (g : OkG a d) : p (a, d) = true := List.all_eq_true.mp h _ g
theorem fineT_all : (gds.all fun p => (List.range p.2).all fun s => decide (twR (p.1 : Int) (s + 1) 3000 [1] [] = some (dueL p.1 (s + 1)))) = true := by decide +kernel
theorem twR_due {a d s : Nat} (g : OkG a d) (s1 : 1 ≤ s) (s2 : s ≤ d) : twR (a : Int) s 3000 [1] [] = some (dueL a s) := by
  have h := gds_all fineT_all g
  have h := of_decide_eq_true (List.all_eq_true.mp h (s - 1) (List.mem_range.mpr (by show s - 1 < d; omega)))
  rw [show s - 1 + 1 = s by omega] at h
  exact h
theorem turnsG_fine : (gds.all fun p => decide (turnsG p.1 p.2).Nodup && decide ((turnsG p.1 p.2).length ≤ 100) && decide ((wordsG p.1 p.2).length ≤ 200)) = true := by decide +kernel
theorem turnsG_nd {a d : Nat} (g : OkG a d) : (turnsG a d).Nodup := by
  have h := gds_all turnsG_fine g
  rw [Bool.and_eq_true, Bool.and_eq_true] at h
  exact of_decide_eq_true h.1.1
theorem turnsG_len {a d : Nat} (g : OkG a d) : (turnsG a d).length ≤ 100 := by
  have h := gds_all turnsG_fine g
  rw [Bool.and_eq_true, Bool.and_eq_true] at h
  exact of_decide_eq_true h.1.2
theorem wordsG_len {a d : Nat} (g : OkG a d) : (wordsG a d).length ≤ 200 := by
  have h := gds_all turnsG_fine g
  rw [Bool.and_eq_true] at h
  exact of_decide_eq_true h.2
theorem wordsF_mem {a : Nat} {w : List Int} : ∀ {n m : Nat}, w ∈ wordsF a m n → m ≤ w.length ∧ w.length < m + n ∧ w ∈ allL a w.length
  | 0, m, h => by cases h
  | n + 1, m, h => by
    rw [wordsF, List.mem_append] at h
    rcases h with h | h
    · have e := allL_word a m w h
      exact ⟨by omega, by omega, by rw [e]; exact h⟩
    · obtain ⟨h1, h2, h3⟩ := wordsF_mem h
      exact ⟨by omega, by omega, h3⟩
theorem turnsF_mem {a : Nat} {w : List Int} : ∀ {n m : Nat}, w ∈ turnsF a m n → m ≤ w.length ∧ w.length < m + n ∧ w ∈ dueL a w.length
  | 0, m, h => by cases h
  | n + 1, m, h => by
    rw [turnsF, List.mem_append] at h
    rcases h with h | h
    · have e := allL_word a m w (List.mem_filter.mp h).1
      exact ⟨by omega, by omega, by rw [e]; exact h⟩
    · obtain ⟨h1, h2, h3⟩ := turnsF_mem h
      exact ⟨by omega, by omega, h3⟩
theorem dueL_len_le {a s : Nat} : (dueL a s).length ≤ a ^ s := by
  unfold dueL
  refine Nat.le_trans (List.length_filter_le _ _) ?_
  rw [allL_len]
  exact Nat.le_refl _
/-! a Ground -/
structure GndAt (l : LH) (g b c : Addr) (a d : Nat) (ck : List Key) (cd : List D) : Prop where
  g : l g = some (.ins cl_Ground [.int a, .int d, .lst ((turnsG a d).map wordD), .ref b, .ref c])
  b : l b = some (.dT ((turnsG a d).map wkey) ((List.range (turnsG a d).length).map fun (i : Nat) => D.int (i : Int)))
  c : l c = some (.dK ck cd)
theorem fzList0 : ∀ {ds : List D} {l : LH} {k : List D → LH → Prop}, k ds l → fzList (fzN 0) ds l k
  | [], _, _, h => h
  | d :: ds, l, k, h => fzList0 (ds := ds) (k := fun ds' l2 => k (d :: ds') l2) h
theorem init_loop1 {a d : Nat} (gd : OkG a d) {g b : Addr} {e5 e4 : Option D} {E : DEnds} (hgb : g ≠ b) : ∀ (n m : Nat) {l : LH} {acc : List (List Int)} {e3 : Option D}, m + n ≤ d + 1 → 1 ≤ m → l g = some (.ins cl_Ground [.int a, .int d, .ref b]) → l b = some (.lst (acc.map wordD)) → acc.length + n * 1024 ≤ 100000 →
    (∀ l' e3, l' = uL l b (.lst ((acc ++ turnsF a m n).map wordD)) → E.nx [some (.ref g), some (.int a), some (.int d), e3, e4, e5] l') →
    forL (gName 3) (nS B_Ground_init_1) (rgD (m : Int) n) E [some (.ref g), some (.int a), some (.int d), e3, e4, e5] l
  | 0, m, l, acc, e3, _, _, hg, hb, _, h => by
    refine h l e3 ?_
    funext x
    by_cases hx : x = b
    · subst hx; rw [uL_same, hb, turnsF, List.append_nil]
    · rw [uL_ne hx]
  | n + 1, m, l, acc, e3, hz, hm, hg, hb, hl, h => by
    rw [rgD_succ]
    refine ⟨?_⟩
    walk_at "w"
    refine ⟨_, hg, rfl, ?_⟩
    walk_at "w"
    refine ⟨_, hb, ?_⟩
    walk_at "w"
    refine c_turnwords (size := m) (by have := gd.num; omega) hm (twR_due gd hm (by omega)) (by decide) ?_
    have dl := dueL_len_le (a := a) (s := m)
    have dl2 : a ^ m ≤ 1024 := Nat.le_trans (Nat.pow_le_pow_left gd.num.2.1 m) (Nat.pow_le_pow_right (by decide) (show m ≤ 5 by have := gd.num; omega))
    walk_at "w"
    refine ⟨_, hb, by refine small ?_; rw [List.length_map, List.length_map]; omega, ?_⟩
    rw [← List.map_append]
    refine init_loop1 gd hgb n (m + 1) (acc := acc ++ dueL a m) (by omega) (by omega) (by rw [uL_ne hgb]; exact hg) uL_same (by rw [List.length_append]; omega) fun l' e3 e => ?_
    refine h l' e3 ?_
    rw [e, uL_uL, turnsF, List.append_assoc]
theorem putKs_new {ks : List (List Key)} {q : List Key} (h : q ∉ ks) : putKs ks q = ks ++ [q] := by unfold putKs; rw [if_neg h]
theorem putDs_new {ks : List (List Key)} {ds : List D} {q : List Key} {x : D} (h : q ∉ ks) : putDs ks ds q x = ds ++ [x] := by unfold putDs; rw [if_neg h]
theorem wkey_mem {w : List Int} {ws : List (List Int)} : wkey w ∈ ws.map wkey ↔ w ∈ ws := by
  rw [List.mem_map]
  constructor
  · rintro ⟨u, hu, e⟩
    rw [← wkey_inj.mp e]
    exact hu
  · exact fun h => ⟨w, h, rfl⟩
theorem init_loop2 {g p : Addr} {x y z : D} {e1 e2 e3 : Option D} {E : DEnds} (hgp : g ≠ p) : ∀ (ws : List (List Int)) {done : List (List Int)} {l : LH} {e4 e5 : Option D}, (done ++ ws).Nodup → (done ++ ws).length ≤ 1000 → l g = some (.ins cl_Ground [x, y, z, .ref p]) →
    l p = some (.dT (done.map wkey) ((List.range done.length).map fun (i : Nat) => D.int (i : Int))) →
    (∀ l' e4 e5, l' = uL l p (.dT ((done ++ ws).map wkey) ((List.range (done ++ ws).length).map fun (i : Nat) => D.int (i : Int))) → E.nx [some (.ref g), e1, e2, e3, e4, e5] l') →
    forL (gTup 2 (gCons (gName 4) (gCons (gName 5) gNil))) (nS B_Ground_init_2) (enumD done.length (ws.map wordD)) E [some (.ref g), e1, e2, e3, e4, e5] l
  | [], done, l, e4, e5, _, _, hg, hp, h => by
    refine h l e4 e5 ?_
    rw [List.append_nil]
    funext b
    by_cases hb : b = p
    · subst hb; rw [uL_same, hp]
    · rw [uL_ne hb]
  | w :: ws, done, l, e4, e5, nd, hz, hg, hp, h => by
    refine ⟨rfl, ?_⟩
    walk_at "w"
    walk_at "s"
    refine ⟨_, hg, rfl, ?_⟩
    walk_at "w"
    have hw : w ∉ done := by
      rw [List.nodup_append] at nd
      exact fun q => nd.2.2 w q w List.mem_cons_self rfl
    have hw' : wkey w ∉ done.map wkey := fun q => hw (wkey_mem.mp q)
    rw [List.length_append, List.length_cons] at hz
    refine ⟨_, hp, _, keyT_word w, Nat.lt_of_le_of_lt (show _ ≤ 10000 by rw [List.length_map]; omega) (by decide), ?_⟩
    rw [putKs_new hw', putDs_new hw']
    have e1 : (done.map wkey) ++ [wkey w] = (done ++ [w]).map wkey := by rw [List.map_append]; rfl
    have e2 : ((List.range done.length).map fun (i : Nat) => D.int (i : Int)) ++ [D.int (done.length : Nat)] = (List.range (done ++ [w]).length).map fun (i : Nat) => D.int (i : Int) := by
      rw [List.length_append, List.length_singleton, List.range_succ, List.map_append]
      rfl
    rw [e1, e2]
    have el : done.length + 1 = (done ++ [w]).length := by rw [List.length_append]; rfl
    rw [el]
    refine init_loop2 hgp ws (x := x) (y := y) (z := z) (by rw [List.append_assoc]; exact nd) (by rw [List.append_assoc, List.length_append]; rw [List.singleton_append, List.length_cons]; omega) (by rw [uL_ne hgp]; exact hg) uL_same fun l' e4 e5 e => ?_
    refine h l' e4 e5 ?_
    rw [e, uL_uL, List.append_assoc]
    rfl
theorem c_Ground_init {a d : Nat} (gd : OkG a d) {g : Addr} {l : LH} {Q : DK} (ng : l g = none) (h : ∀ b c l', GndAt l' g b c a d [] [] → Sub l l' → l' b ≠ none → Q .non l') : callD D_Ground_init [.ref g, .int a, .int d] (uL l g (.ins cl_Ground [])) Q := by
  obtain ⟨a1, a4, d1, d5, ad⟩ := gd.num
  refine ⟨rfl, ?_⟩
  walk_at "w"
  rw [decide_eq_true (show (1 : Int) ≤ (a : Nat) by omega)]
  walk_at "w"
  rw [decide_eq_true (show ((a : Nat) : Int) ≤ 4 by omega)]
  refine ifB_false ?_
  walk_at "w"
  rw [decide_eq_true (show (1 : Int) ≤ (d : Nat) by omega)]
  walk_at "w"
  rw [decide_eq_true (show ((d : Nat) : Int) ≤ 5 by omega)]
  refine ifB_false ?_
  walk_at "w"
  rw [decide_eq_false (show ¬ (7 : Int) < (a : Nat) + (d : Nat) by omega)]
  refine ifB_false ?_
  walk_at "w"
  walk_at "s"
  refine ⟨_, uL_same, rfl, ?_⟩
  walk_at "w"
  rw [uL_uL]
  walk_at "s"
  refine ⟨_, uL_same, rfl, ?_⟩
  walk_at "w"
  rw [uL_uL]
  walk_at "s"
  refine ⟨Nat.zero_le _, fun b nb => ?_⟩
  have hgb : g ≠ b := fun e => by subst e; rw [uL_same] at nb; cases nb
  have nb' : l b = none := by rw [uL_ne (Ne.symm hgb)] at nb; exact nb
  walk_at "w"
  refine ⟨_, (uL_ne hgb).trans uL_same, rfl, ?_⟩
  walk_at "w"
  walk_at "s"
  refine ⟨⟨by decide, by decide, by omega, by omega⟩, ?_⟩
  rw [show (((d : Nat) : Int) + 1 - 1).toNat = d by omega]
  refine init_loop1 gd hgb d 1 (acc := []) (by omega) (by omega) uL_same (by rw [uL_ne (Ne.symm hgb)]; exact uL_same) (by simp; omega) fun l1 e3 el1 => ⟨?_⟩
  have g1 : l1 g = some (.ins cl_Ground [.int a, .int d, .ref b]) := by rw [el1, uL_ne hgb]; exact uL_same
  have b1 : l1 b = some (.lst ((turnsG a d).map wordD)) := by rw [el1, uL_same]; rfl
  have o1 : ∀ x, x ≠ g → x ≠ b → l1 x = l x := fun x hg hb => by
    rw [el1, uL_ne hb, uL_ne hg, uL_ne hb, uL_ne hg]
  clear el1
  walk_at "w"
  intro p np
  have hgp : g ≠ p := fun e => by subst e; rw [g1] at np; cases np
  have hbp : b ≠ p := fun e => by subst e; rw [b1] at np; cases np
  have np' : l p = none := by rw [o1 p (Ne.symm hgp) (Ne.symm hbp)] at np; exact np
  walk_at "w"
  refine ⟨_, (uL_ne hgp).trans g1, rfl, ?_⟩
  walk_at "w"
  walk_at "s"
  refine ⟨_, uL_same, rfl, ?_⟩
  walk_at "w"
  refine ⟨_, (uL_ne (Ne.symm hgb)).trans ((uL_ne hbp).trans b1), ?_⟩
  refine fzList0 ?_
  walk_at "w"
  generalize hl2 : dL (uL (uL l1 p (.dT [] [])) g (.ins cl_Ground [.int a, .int d, .ref b, .ref p])) b = l2
  have g2 : l2 g = some (.ins cl_Ground [.int a, .int d, .ref b, .ref p]) := by
    rw [← hl2]; unfold dL; rw [if_neg hgb]; exact uL_same
  have p2 : l2 p = some (.dT [] []) := by
    rw [← hl2]; unfold dL; rw [if_neg (Ne.symm hbp), uL_ne (Ne.symm hgp)]; exact uL_same
  have o2 : ∀ x, x ≠ g → x ≠ b → x ≠ p → l2 x = l x := fun x h1 h2 h3 => by
    rw [← hl2]; unfold dL; rw [if_neg h2, uL_ne h1, uL_ne h3, o1 x h1 h2]
  refine ⟨g2, ?_⟩
  refine init_loop2 hgp (turnsG a d) (done := []) (turnsG_nd gd) (by have := turnsG_len gd; rw [List.nil_append]; omega) uL_same (by rw [uL_ne (Ne.symm hgp)]; exact p2) fun l3 e4 e5 el3 => ⟨?_⟩
  have g3 : l3 g = some (.ins cl_Ground [.int a, .int d, .lst ((turnsG a d).map wordD), .ref p]) := by rw [el3, uL_ne hgp]; exact uL_same
  have p3 : l3 p = some (.dT ((turnsG a d).map wkey) ((List.range (turnsG a d).length).map fun (i : Nat) => D.int (i : Int))) := by rw [el3, uL_same]; rfl
  have o3 : ∀ x, x ≠ g → x ≠ b → x ≠ p → l3 x = l x := fun x h1 h2 h3 => by rw [el3, uL_ne h3, uL_ne h1, o2 x h1 h2 h3]
  clear el3
  walk_at "w"
  intro c nc
  have hgc : g ≠ c := fun e => by subst e; rw [g3] at nc; cases nc
  have hpc : p ≠ c := fun e => by subst e; rw [p3] at nc; cases nc
  walk_at "w"
  refine ⟨_, (uL_ne hgc).trans g3, rfl, ?_⟩
  refine h p c _ ⟨uL_same, by rw [uL_ne (Ne.symm hgp), uL_ne hpc]; exact p3, by rw [uL_ne (Ne.symm hgc)]; exact uL_same⟩ (fun x o ho => ?_) (by rw [uL_ne (Ne.symm hgp), uL_ne hpc, p3]; exact fun z => by cases z)
  have x1 : x ≠ g := fun e => by subst e; rw [ng] at ho; cases ho
  have x2 : x ≠ b := fun e => by subst e; rw [nb'] at ho; cases ho
  have x3 : x ≠ p := fun e => by subst e; rw [np'] at ho; cases ho
  have x4 : x ≠ c := fun e => by subst e; rw [o3 x x1 x2 x3, ho] at nc; cases nc
  rw [uL_ne x1, uL_ne x4, o3 x x1 x2 x3]
  exact ho
theorem c_sizes {b : Addr} {k : Nat} {l : LH} {Q : DK} (hb : Box l b k) (hk : k < 2 ^ 30) (h : ∀ a d l', OkG a d → Box l' b (k + 4) → Oth l l' b → Q (.tup [.int (a : Nat), .int (d : Nat)]) l') : callD D__law_sizes [.ref b] l Q := by
  have gd : ∀ {a d : Nat}, (a, d) ∈ gds → OkG a d := fun h => h
  refine ⟨rfl, ?_⟩
  walk_at "w"
  refine c_take hb (by decide) (by decide) (by omega) fun x l1 x0 x1 hb1 o1 => ?_
  refine ⟨(okN_int _).ok, (okN_int _).ok, ?_⟩
  refine ifB_by (fun _ => ?_) (fun _ => ?_)
  · walk_at "w"
    refine c_take hb1 (by decide) (by decide) (by omega) fun t l2 t0 t1 hb2 o2 => ?_
    have cs : t = 0 ∨ t = 1 ∨ t = 2 := by omega
    rcases cs with rfl | rfl | rfl
    · exact ⟨_, rfl, h 2 5 l2 (gd (by decide)) (hb2.le (by omega)) (o1.trans o2)⟩
    · exact ⟨_, rfl, h 3 4 l2 (gd (by decide)) (hb2.le (by omega)) (o1.trans o2)⟩
    · exact ⟨_, rfl, h 4 3 l2 (gd (by decide)) (hb2.le (by omega)) (o1.trans o2)⟩
  walk_at "w"
  walk_at "s"
  walk_at "s"
  refine c_take hb1 (by decide) (by decide) (by omega) fun y l2 y0 y1 hb2 o2 => ?_
  refine ⟨(okN_int _).ok, (okN_int _).ok, ?_⟩
  refine ifB_by (fun _ => ⟨?_⟩) (fun _ => ⟨?_⟩)
  · walk_at "w"
    refine c_take hb2 (by decide) (by decide) (by omega) fun t l3 t0 t1 hb3 o3 => ?_
    have t1 : t < 8 := t1
    have O := (o1.trans o2).trans o3
    have cs : t = 0 ∨ t = 1 ∨ t = 2 ∨ t = 3 ∨ t = 4 ∨ t = 5 ∨ t = 6 ∨ t = 7 := by omega
    rcases cs with rfl | rfl | rfl | rfl | rfl | rfl | rfl | rfl
    · exact ⟨_, rfl, h 1 1 l3 (gd (by decide)) (hb3.le (by omega)) O⟩
    · exact ⟨_, rfl, h 1 2 l3 (gd (by decide)) (hb3.le (by omega)) O⟩
    · exact ⟨_, rfl, h 1 3 l3 (gd (by decide)) (hb3.le (by omega)) O⟩
    · exact ⟨_, rfl, h 1 4 l3 (gd (by decide)) (hb3.le (by omega)) O⟩
    · exact ⟨_, rfl, h 1 5 l3 (gd (by decide)) (hb3.le (by omega)) O⟩
    · exact ⟨_, rfl, h 2 1 l3 (gd (by decide)) (hb3.le (by omega)) O⟩
    · exact ⟨_, rfl, h 3 1 l3 (gd (by decide)) (hb3.le (by omega)) O⟩
    · exact ⟨_, rfl, h 4 1 l3 (gd (by decide)) (hb3.le (by omega)) O⟩
  · walk_at "w"
    refine c_take hb2 (by decide) (by decide) (by omega) fun t l3 t0 t1 hb3 o3 => ?_
    have t1 : t < 6 := t1
    have O := (o1.trans o2).trans o3
    have cs : t = 0 ∨ t = 1 ∨ t = 2 ∨ t = 3 ∨ t = 4 ∨ t = 5 := by omega
    rcases cs with rfl | rfl | rfl | rfl | rfl | rfl
    · exact ⟨_, rfl, h 2 2 l3 (gd (by decide)) (hb3.le (by omega)) O⟩
    · exact ⟨_, rfl, h 2 3 l3 (gd (by decide)) (hb3.le (by omega)) O⟩
    · exact ⟨_, rfl, h 2 4 l3 (gd (by decide)) (hb3.le (by omega)) O⟩
    · exact ⟨_, rfl, h 3 2 l3 (gd (by decide)) (hb3.le (by omega)) O⟩
    · exact ⟨_, rfl, h 3 3 l3 (gd (by decide)) (hb3.le (by omega)) O⟩
    · exact ⟨_, rfl, h 4 2 l3 (gd (by decide)) (hb3.le (by omega)) O⟩
theorem c_backed (ws : List Int) (l : LH) (Q : DK) (hz : ws.length ≤ 100000) (h : Q (.tup ((ws.reverse.map fun i => -i).map D.int)) l) (x : D) (hx : x = .tup (ws.map D.int) ∨ x = .lst (ws.map D.int)) : callD D_backed [x] l Q := by
  have key : compL (gName 1) tYes (nE C_backed_1) [1] (ws.map D.int).reverse [some x, none] l fun rs l2 => Q (.tup rs) l2 := by
    refine comp_pure (f := fun d => match d with | .int i => .int (-i) | d => d) (fun d hd K1 K2 h => ?_) ?_
    · rw [← List.map_reverse] at hd
      obtain ⟨i, _, rfl⟩ := List.mem_map.mp hd
      exact ifB_true ⟨h⟩
    · rw [← List.map_reverse, List.map_map]
      rw [List.map_map] at h
      exact h
  have hz' : (ws.map D.int).reverse.length ≤ sizeLine := by
    rw [List.length_reverse, List.length_map]
    exact small hz
  rcases hx with rfl | rfl
  · exact ⟨rfl, hz', key⟩
  · exact ⟨rfl, hz', key⟩
/-- backed, by lists -/
def rb (ws : List Int) : List Int := ws.reverse.map fun i => -i
theorem rb_len (ws : List Int) : (rb ws).length = ws.length := by unfold rb; rw [List.length_map, List.length_reverse]
def brk (ws us : List Int) : List Int := rb ws ++ rb us ++ ws ++ us
theorem brk_len (ws us : List Int) : (brk ws us).length = 2 * (ws.length + us.length) := by
  unfold brk
  rw [List.length_append, List.length_append, List.length_append, rb_len, rb_len]
  omega
theorem c_bracketed (ws us : List Int) (l : LH) (Q : DK) (hz : ws.length + us.length ≤ 10000) (h : Q (.tup ((brk ws us).map D.int)) l) (x y : D) (hx : Hd x ws) (hy : Hd y us) : callD D_bracketed [x, y] l Q := by
  have h' : Q (.tup ((rb ws).map D.int ++ (rb us).map D.int ++ ws.map D.int ++ us.map D.int)) l := by
    rw [← List.map_append, ← List.map_append, ← List.map_append]
    exact h
  have e1 := rb_len ws
  have e2 := rb_len us
  refine ⟨rfl, ?_⟩
  walk_at "w"
  refine c_backed ws l _ (by omega) ?_ x hx
  walk_at "w"
  refine c_backed us l _ (by omega) ?_ y hy
  walk_at "w"
  refine ⟨by walk_at "z", ?_⟩
  refine hd_tuple hx ?_
  walk_at "w"
  refine ⟨by walk_at "z", ?_⟩
  refine hd_tuple hy ?_
  walk_at "w"
  exact ⟨by walk_at "z", h'⟩
/-! places of a ground's turnwords -/
theorem getA_at : ∀ {T : List (List Int)} {ds : List D} {u : List Int} {i : Nat}, T.Nodup → T[i]? = some u → getA (T.map wkey) ds (wkey u) = ds[i]?
  | [], _, _, _, _, h => by simp at h
  | w :: T, [], u, i, _, _ => by
    rw [List.map_cons]
    unfold getA
    simp
  | w :: T, d :: ds, u, i, nd, h => by
    rw [List.map_cons, getA]
    rw [List.nodup_cons] at nd
    cases i with
    | zero =>
      have e : w = u := by simpa using h
      rw [e, if_pos rfl]
      rfl
    | succ i =>
      have h' : T[i]? = some u := by simpa using h
      have hu : u ∈ T := List.mem_of_getElem? h'
      rw [if_neg fun e => nd.1 (by rw [wkey_inj.mp e]; exact hu), getA_at nd.2 h']
      rfl
theorem getA_out : ∀ {T : List (List Int)} {ds : List D} {u : List Int}, u ∉ T → getA (T.map wkey) ds (wkey u) = none
  | [], _, _, _ => by rw [List.map_nil]; unfold getA; rfl
  | w :: T, [], u, _ => by rw [List.map_cons]; unfold getA; rfl
  | w :: T, d :: ds, u, h => by
    rw [List.map_cons, getA, if_neg fun e => h (by rw [wkey_inj.mp e]; exact List.mem_cons_self)]
    exact getA_out fun q => h (List.mem_cons_of_mem _ q)
def posW : List (List Int) → List Int → Nat
  | [], _ => 0
  | t :: T, u => if t = u then 0 else posW T u + 1
theorem posW_at : ∀ {T : List (List Int)} {u : List Int}, u ∈ T → T[posW T u]? = some u
  | t :: T, u, h => by
    rw [posW]
    by_cases e : t = u
    · rw [if_pos e, e]; rfl
    · rw [if_neg e]
      rcases List.mem_cons.mp h with q | q
      · exact absurd q.symm e
      · exact posW_at q
theorem posW_eq : ∀ {T : List (List Int)} {u : List Int} {i : Nat}, T.Nodup → T[i]? = some u → posW T u = i
  | [], _, _, _, h => by simp at h
  | t :: T, u, 0, _, h => by
    have e : t = u := by simpa using h
    rw [posW, if_pos e]
  | t :: T, u, i + 1, nd, h => by
    rw [List.nodup_cons] at nd
    have h' : T[i]? = some u := by simpa using h
    rw [posW, if_neg fun e => nd.1 (by rw [e]; exact List.mem_of_getElem? h'), posW_eq nd.2 h']
theorem pos_ds {n i : Nat} (h : i < n) : ((List.range n).map fun (i : Nat) => D.int (i : Int))[i]? = some (.int (i : Int)) := by
  rw [List.getElem?_map, List.getElem?_range h]
  rfl
theorem turnsG_lyn {a d : Nat} {w : List Int} (h : w ∈ turnsG a d) : Lyn w ∧ 1 ≤ w.length ∧ w.length ≤ d ∧ PlainOf w a := by
  obtain ⟨h1, h2, h3⟩ := turnsF_mem h
  have h3 := List.mem_filter.mp h3
  exact ⟨(isTwL_lyn w).mp h3.2, h1, by omega, allL_plain a _ w h3.1⟩
theorem first_range : ∀ (n lo : Nat) {p : Nat → Bool} {k : Nat}, lo ≤ k → k < lo + n → p k = true → (∀ j, lo ≤ j → j < k → p j = false) → ((List.range' lo n).filter p)[0]? = some k
  | 0, lo, p, k, h1, h2, _, _ => by omega
  | n + 1, lo, p, k, h1, h2, hk, hj => by
    rw [List.range'_succ]
    by_cases e : lo = k
    · subst e
      rw [List.filter_cons_of_pos hk]
      rfl
    · rw [List.filter_cons_of_neg (by rw [hj lo (Nat.le_refl _) (by omega)]; exact Bool.false_ne_true)]
      exact first_range n (lo + 1) (by omega) (by omega) hk fun j a b => hj j (by omega) b
def cutsL (w : List Int) : List Nat := (List.range' 1 (w.length - 1)).filter fun k => isTwL (w.drop k)
def cutN (w : List Int) : Nat := (cutsL w)[0]?.getD 0
theorem cutN_at {w : List Int} {k : Nat} (k1 : 1 ≤ k) (k2 : k < w.length) (hk : Lyn (w.drop k)) (hj : ∀ j, 1 ≤ j → j < k → ¬ Lyn (w.drop j)) : (cutsL w)[0]? = some k := by
  refine first_range _ 1 k1 (by omega) ((isTwL_lyn _).mpr hk) fun j a b => ?_
  cases e : isTwL (w.drop j) with
  | false => rfl
  | true => exact absurd ((isTwL_lyn _).mp e) (hj j a b)
theorem cutN_eq {w : List Int} {k : Nat} (h : (cutsL w)[0]? = some k) : cutN w = k := by unfold cutN; rw [h]; rfl
def partD (T : List (List Int)) (w : List Int) : D := if w.length = 1 then .non else .tup [.int (posW T (w.take (cutN w)) : Nat), .int (posW T (w.drop (cutN w)) : Nat)]
def brT : Nat → List Int → List Int
  | 0, w => w
  | n + 1, w => if w.length = 1 then w else brk (brT n (w.take (cutN w))) (brT n (w.drop (cutN w)))
abbrev brG (w : List Int) : List Int := brT 8 w
theorem parts_all : (gds.all fun p => (turnsG p.1 p.2).all fun w => (List.range 9).all (fun n => decide ((brT n w).length ≤ 1000)) &&
    (decide (w.length = 1) || (decide (1 ≤ cutN w) && decide (cutN w < w.length) && (cutsL w)[0]? == some (cutN w) && decide (w.take (cutN w) ∈ turnsG p.1 p.2) && decide (w.drop (cutN w) ∈ turnsG p.1 p.2) &&
      decide (posW (turnsG p.1 p.2) (w.take (cutN w)) < posW (turnsG p.1 p.2) w) && decide (posW (turnsG p.1 p.2) (w.drop (cutN w)) < posW (turnsG p.1 p.2) w) && decide (brG w = brk (brG (w.take (cutN w))) (brG (w.drop (cutN w))))))) = true := by decide +kernel
structure PartOk (a d : Nat) (w : List Int) : Prop where
  c1 : 1 ≤ cutN w
  c2 : cutN w < w.length
  c3 : (cutsL w)[0]? = some (cutN w)
  m1 : w.take (cutN w) ∈ turnsG a d
  m2 : w.drop (cutN w) ∈ turnsG a d
  p1 : posW (turnsG a d) (w.take (cutN w)) < posW (turnsG a d) w
  p2 : posW (turnsG a d) (w.drop (cutN w)) < posW (turnsG a d) w
  br : brG w = brk (brG (w.take (cutN w))) (brG (w.drop (cutN w)))
theorem brT_len {a d : Nat} (gd : OkG a d) {w : List Int} (hw : w ∈ turnsG a d) {n : Nat} (hn : n ≤ 8) : (brT n w).length ≤ 1000 := by
  have h := List.all_eq_true.mp (gds_all parts_all gd) w hw
  rw [Bool.and_eq_true] at h
  exact of_decide_eq_true (List.all_eq_true.mp h.1 n (List.mem_range.mpr (by omega)))
theorem part_ok {a d : Nat} (gd : OkG a d) {w : List Int} (hw : w ∈ turnsG a d) (h1 : w.length ≠ 1) : PartOk a d w := by
  have h := List.all_eq_true.mp (gds_all parts_all gd) w hw
  rw [Bool.and_eq_true, decide_eq_false h1, Bool.false_or] at h
  have h := h.2
  simp only [Bool.and_eq_true, decide_eq_true_eq, beq_iff_eq] at h
  obtain ⟨⟨⟨⟨⟨⟨⟨a1, a2⟩, a3⟩, a4⟩, a5⟩, a6⟩, a7⟩, a8⟩ := h
  exact ⟨a1, a2, a3, a4, a5, a6, a7, a8⟩
theorem c_Ground_parts_at {a d : Nat} (gd : OkG a d) {g b c : Addr} {ck : List Key} {cd : List D} {l : LH} {Q : DK} (G : GndAt l g b c a d ck cd) {i : Nat} {w : List Int} (hi : (turnsG a d)[i]? = some w) (h : Q (partD (turnsG a d) w) l) :
    callD D_Ground_parts_at [.ref g, .int i] l Q := by
  have nd := turnsG_nd gd
  have tl := turnsG_len gd
  have hw : w ∈ turnsG a d := List.mem_of_getElem? hi
  obtain ⟨ly, w1, w2, wp⟩ := turnsG_lyn hw
  have d5 := gd.num
  have hi' : ((turnsG a d).map wordD)[i]? = some (wordD w) := by rw [List.getElem?_map, hi]; rfl
  refine ⟨rfl, ?_⟩
  walk_at "w"
  refine ⟨_, G.g, rfl, ?_⟩
  walk_at "w"
  refine ⟨_, atI_nat hi', ?_⟩
  walk_at "w"
  walk_at "s"
  refine ⟨(okN_int _).ok, (okN_int _).ok, ?_⟩
  rw [List.length_map, eqD_int]
  by_cases e1 : w.length = 1
  · have e : partD (turnsG a d) w = .non := by unfold partD; rw [if_pos e1]
    rw [decide_eq_true (show ((w.length : Nat) : Int) = 1 by omega)]
    refine ifB_true ?_
    walk_at "w"
    rw [← e]
    exact h
  have P := part_ok gd hw e1
  have e : partD (turnsG a d) w = .tup [.int (posW (turnsG a d) (w.take (cutN w)) : Nat), .int (posW (turnsG a d) (w.drop (cutN w)) : Nat)] := by unfold partD; rw [if_neg e1]
  rw [e] at h
  have pd : ∀ {u : List Int}, u ∈ turnsG a d → getA ((turnsG a d).map wkey) ((List.range (turnsG a d).length).map fun (i : Nat) => D.int (i : Int)) (wkey u) = some (.int (posW (turnsG a d) u : Nat)) := fun {u} hu => by
    rw [getA_at nd (posW_at hu), pos_ds (List.getElem?_eq_some_iff.mp (posW_at hu)).1]
  rw [decide_eq_false (by omega)]
  refine ifB_false ?_
  walk_at "w"
  walk_at "s"
  refine c_halves ly (by omega) (by omega) (Hd.t w) fun k k1 k2 l1 l2 lt hmin => ?_
  have ek := cutN_eq (cutN_at k1 k2 l2 hmin)
  subst ek
  refine ⟨rfl, ?_⟩
  walk_at "w"
  walk_at "s"
  refine ⟨_, G.g, rfl, ?_⟩
  refine ⟨_, G.b, _, keyT_word _, ?_⟩
  rw [pd P.m1]
  walk_at "w"
  refine ⟨_, G.g, rfl, ?_⟩
  refine ⟨_, G.b, _, keyT_word _, ?_⟩
  rw [pd P.m2]
  walk_at "w"
  exact ⟨two_ok, h⟩
theorem c_Ground_bracket_at {a d : Nat} (gd : OkG a d) {g b c : Addr} {ck : List Key} {cd : List D} {l : LH} (G : GndAt l g b c a d ck cd) : ∀ (n : Nat) {i : Nat} {w : List Int} {Q : DK}, n ≤ 8 → (turnsG a d)[i]? = some w → w.length ≤ n → Q (wordD (brT n w)) l →
    callD (D_Ground_bracket_at n) [.ref g, .int i] l Q
  | 0, i, w, Q, _, hi, hn, _ => by
    have := (turnsG_lyn (List.mem_of_getElem? hi)).2.1
    omega
  | n + 1, i, w, Q, n8, hi, hn, h => by
    have hw : w ∈ turnsG a d := List.mem_of_getElem? hi
    have hi' : ((turnsG a d).map wordD)[i]? = some (wordD w) := by rw [List.getElem?_map, hi]; rfl
    refine ⟨rfl, ?_⟩
    walk_at "w"
    refine ⟨_, G.g, rfl, ?_⟩
    walk_at "w"
    refine c_Ground_parts_at gd G hi ?_
    rw [brT] at h
    by_cases e1 : w.length = 1
    · have e : partD (turnsG a d) w = .non := by unfold partD; rw [if_pos e1]
      rw [if_pos e1] at h
      rw [e]
      walk_at "w"
      walk_at "s"
      refine ifB_true ?_
      walk_at "w"
      refine ⟨_, G.g, rfl, ?_⟩
      walk_at "w"
      exact ⟨_, atI_nat hi', h⟩
    have P := part_ok gd hw e1
    have e : partD (turnsG a d) w = .tup [.int (posW (turnsG a d) (w.take (cutN w)) : Nat), .int (posW (turnsG a d) (w.drop (cutN w)) : Nat)] := by unfold partD; rw [if_neg e1]
    rw [if_neg e1] at h
    rw [e]
    have c1 := P.c1
    have c2 := P.c2
    walk_at "w"
    walk_at "s"
    refine ifB_false ?_
    walk_at "w"
    walk_at "s"
    refine ⟨_, G.g, rfl, ?_⟩
    walk_at "w"
    refine ⟨_, rfl, ?_⟩
    walk_at "w"
    refine c_Ground_bracket_at gd G n (by omega) (posW_at P.m1) (by rw [List.length_take]; omega) ?_
    walk_at "w"
    refine ⟨_, G.g, rfl, ?_⟩
    walk_at "w"
    refine ⟨_, rfl, ?_⟩
    walk_at "w"
    refine c_Ground_bracket_at gd G n (by omega) (posW_at P.m2) (by rw [List.length_drop]; omega) ?_
    walk_at "w"
    have q1 := brT_len gd P.m1 (n := n) (by omega)
    have q2 := brT_len gd P.m2 (n := n) (by omega)
    exact c_bracketed _ _ l Q (by omega) h _ _ (Hd.t _) (Hd.t _)
theorem c_joined (ws us : List Int) (l : LH) (Q : DK) (hz : ws.length + us.length ≤ 100000) (h : Q (.tup ((ws ++ us).map D.int)) l) (x y : D) (hx : x = .tup (ws.map D.int) ∨ x = .lst (ws.map D.int)) (hy : y = .tup (us.map D.int) ∨ y = .lst (us.map D.int)) : callD D_joined [x, y] l Q := by
  have hz' : (ws.map D.int).length + (us.map D.int).length ≤ sizeLine := by
    rw [List.length_map, List.length_map]
    exact small hz
  have h' : Q (.tup (ws.map D.int ++ us.map D.int)) l := by
    rw [← List.map_append]
    exact h
  rcases hx with rfl | rfl <;> rcases hy with rfl | rfl <;> exact ⟨rfl, hz', h'⟩
def repL (ws : List Int) (n : Int) : List Int := if n < 0 then (List.replicate (-n).toNat (rb ws)).flatten else (List.replicate n.toNat ws).flatten
theorem rep_len (m : Nat) (ws : List Int) : (List.replicate m ws).flatten.length = m * ws.length := by
  induction m with
  | zero => simp
  | succ m ih => rw [List.replicate_succ, List.flatten_cons, List.length_append, ih, Nat.succ_mul, Nat.add_comm]
theorem repL_len (ws : List Int) (n : Int) : (repL ws n).length = n.natAbs * ws.length := by
  unfold repL
  split
  · rw [rep_len, rb_len]
    congr 1
    omega
  · rw [rep_len]
    congr 1
    omega
theorem repL_nil (n : Int) : repL [] n = [] := List.eq_nil_of_length_eq_zero (by rw [repL_len]; simp)
theorem rep_map (m : Nat) (ws : List Int) : (List.replicate m (ws.map D.int)).flatten = ((List.replicate m ws).flatten).map D.int := by rw [List.map_flatten, List.map_replicate]
theorem c_repeated (ws : List Int) (n : Int) (l : LH) (Q : DK) (hz : n.natAbs * ws.length ≤ 100000) (hw : ws.length ≤ 100000) (hn : n.natAbs < 2 ^ 60) (x : D) (hx : Hd x ws) (h : Q (.tup ((repL ws n).map D.int)) l) : callD D_repeated [x, .int n] l Q := by
  have hx' := hx
  rcases hx with rfl | rfl
  all_goals
    refine ⟨rfl, ?_⟩
    walk_at "w"
    rw [List.length_map]
    refine ⟨(okN_int _).ok, (okN_int _).ok, ?_⟩
    rw [eqD_int]
    refine ifB_dec (fun e => ?_) (fun e => ?_)
    · walk_at "w"
      refine ⟨Nat.zero_le _, ?_⟩
      have : ws = [] := List.eq_nil_of_length_eq_zero (by omega)
      rw [this, repL_nil] at h
      exact h
    · walk_at "w"
      walk_at "s"
      refine ifB_dec (fun hneg => ?_) (fun hneg => ?_)
      · walk_at "w"
        refine c_backed ws l _ hw ?_ _ hx'
        walk_at "w"
        refine ⟨⟨by omega, by omega, ?_⟩, ?_⟩
        · rw [List.length_map, List.length_map, List.length_reverse]
          refine small ?_
          have : (-n).toNat = n.natAbs := by omega
          rw [this, Nat.mul_comm]
          exact hz
        · rw [rep_map]
          unfold repL at h
          rw [if_pos hneg] at h
          exact h
      · walk_at "w"
        walk_at "s"
        refine ⟨⟨by omega, by omega, ?_⟩, ?_⟩
        · rw [List.length_map]
          refine small ?_
          have : n.toNat = n.natAbs := by omega
          rw [this, Nat.mul_comm]
          exact hz
        · rw [rep_map]
          unfold repL at h
          rw [if_neg hneg] at h
          exact h
/-! a number -/
theorem sg_abs {x s : Int} (h0 : 0 ≤ s) (h1 : s < 2) : (x * (1 - 2 * s)).natAbs = x.natAbs := by
  have : s = 0 ∨ s = 1 := by omega
  rcases this with rfl | rfl
  · simp
  · rw [Int.natAbs_mul]; simp
theorem number_loop {a : Addr} {e1 e2 : Option D} {E : DEnds} : ∀ (n : Nat) {lo : Int} {k : Nat} {l : LH} {f : Int} {e4 : Option D}, Box l a k → k + n < 2 ^ 39 →
    (∀ f l' e4, Box l' a (k + n) → Oth l l' a → E.nx [some (.ref a), e1, e2, some (.int f), e4] l') →
    forL (gName 4) (nS B__law_number_1) (rgD lo n) E [some (.ref a), e1, e2, some (.int f), e4] l
  | 0, lo, k, l, f, e4, hb, _, h => h _ _ _ hb Oth.refl
  | n + 1, lo, k, l, f, e4, hb, hk, h => by
    rw [rgD_succ]
    refine ⟨?_⟩
    walk_at "w"
    refine ⟨⟨by decide, by decide, by decide⟩, ?_⟩
    walk_at "w"
    refine ⟨mulR (by decide) (by decide), ?_⟩
    walk_at "w"
    refine ⟨⟨by decide, by decide, by decide⟩, ?_⟩
    walk_at "w"
    refine c_take hb (by decide) (by decide) (by omega) fun r l1 r0 r1 hb1 o1 => ?_
    refine number_loop n hb1 (by omega) fun f l2 e4 hb2 o2 => ?_
    exact h f l2 e4 (by rw [show k + (n + 1) = k + 1 + n by omega]; exact hb2) (o1.trans o2)
theorem c_number {a : Addr} {k : Nat} {l : LH} {Q : DK} (hb : Box l a k) (hk : k < 2 ^ 38) (h : ∀ (n : Int) l', n.natAbs < 10 ^ 60 → Box l' a (k + 10) → Oth l l' a → Q (.int n) l') : callD D__law_number [.ref a] l Q := by
  refine ⟨rfl, ?_⟩
  walk_at "w"
  refine c_take hb (by decide) (by decide) (by omega) fun way l1 w0 w1 hb1 o1 => ?_
  walk_at "w"
  refine c_take hb1 (by decide) (by decide) (by omega) fun s l2 s0 s1 hb2 o2 => ?_
  walk_at "w"
  refine ⟨mulL (by decide) (by decide), ?_⟩
  have O := o1.trans o2
  have sm1 : -(2 ^ 64) < 1 - 2 * s := by omega
  have sm2 : 1 - 2 * s < 2 ^ 64 := by omega
  walk_at "w"
  walk_at "s"
  refine ifB_dec (fun hw => ?_) (fun hw => ?_)
  · walk_at "w"
    refine ⟨mulR sm1 sm2, h _ _ ?_ (hb2.le (by omega)) O⟩
    rw [sg_abs s0 s1]
    omega
  walk_at "w"
  walk_at "s"
  refine ifB_dec (fun hw2 => ?_) (fun hw2 => ?_)
  · walk_at "w"
    refine ⟨⟨by decide, by decide, by decide⟩, ?_⟩
    walk_at "w"
    refine ⟨by show 3 ≤ sizeLine; decide, ?_⟩
    have cs : way = 2 ∨ way = 3 ∨ way = 4 := by omega
    rcases cs with rfl | rfl | rfl
    all_goals
      refine ⟨_, rfl, ?_⟩
      refine c_take hb2 (by decide) (by decide) (by omega) fun t l3 t0 t1 hb3 o3 => ?_
      walk_at "w"
      refine ⟨mulR sm1 sm2, h _ _ ?_ (hb3.le (by omega)) (O.trans o3)⟩
      rw [sg_abs s0 s1]
      have t1 : t < 1000000 := Int.lt_of_lt_of_le t1 (by decide)
      omega
  walk_at "w"
  walk_at "s"
  refine ⟨⟨by decide, by decide⟩, ?_⟩
  refine number_loop 7 hb2 (by omega) fun f l3 e4 hb3 o3 => ⟨?_⟩
  walk_at "w"
  refine ⟨⟨by decide, by decide, by decide⟩, ?_⟩
  walk_at "w"
  refine ⟨by decide, ?_⟩
  walk_at "w"
  refine ⟨mulR sm1 sm2, h _ _ ?_ (hb3.le (by omega)) (O.trans o3)⟩
  have e1 : (10 : Int) ^ (60 : Int).toNat - 9 = 10 ^ 60 - 9 := by decide
  rw [sg_abs s0 s1, e1]
  have a1 : 0 ≤ f % (10 ^ 60 - 9) := Int.emod_nonneg _ (by decide)
  have a2 : f % (10 ^ 60 - 9) < 10 ^ 60 - 9 := Int.emod_lt_of_pos _ (by decide)
  omega
theorem Box.of_same {l l' : LH} {b : Addr} {k : Nat} (h : l' b = l b) : Box l b k → Box l' b k
  | ⟨o, e, q⟩ => ⟨o, h.trans e, q⟩
theorem GndAt.oth {l l' : LH} {g b c x : Addr} {a d : Nat} {ck : List Key} {cd : List D} (G : GndAt l g b c a d ck cd) (o : Oth l l' x) {ds : List D} (hx : l x = some (.lst ds)) : GndAt l' g b c a d ck cd :=
  ⟨(o g fun e => by have := G.g; rw [e, hx] at this; cases this).trans G.g, (o b fun e => by have := G.b; rw [e, hx] at this; cases this).trans G.b, (o c fun e => by have := G.c; rw [e, hx] at this; cases this).trans G.c⟩
theorem Box.lst {l : LH} {b : Addr} {k : Nat} : Box l b k → ∃ ds, l b = some (.lst ds)
  | ⟨_, e, _, _, _, q, _⟩ => ⟨_, e.trans (congrArg some q)⟩
theorem closed_all : (gds.all fun p => decide (p.1 + p.2 < 7) || decide ((p.1, p.2 - 2) ∈ gds)) = true := by decide +kernel
/-- what stood stands, but for the box -/
def Kp (x : Addr) (l l' : LH) : Prop := ∀ y o, y ≠ x → l y = some o → l' y = some o
theorem Kp.gnd {x : Addr} {l l' : LH} (k : Kp x l l') {g b c : Addr} {a d : Nat} {ck : List Key} {cd : List D} (G : GndAt l g b c a d ck cd) {ds : List D} (hx : l x = some (.lst ds)) : GndAt l' g b c a d ck cd :=
  ⟨k g _ (fun e => by have := G.g; rw [e, hx] at this; cases this) G.g, k b _ (fun e => by have := G.b; rw [e, hx] at this; cases this) G.b, k c _ (fun e => by have := G.c; rw [e, hx] at this; cases this) G.c⟩
theorem Kp.trans {x : Addr} {l l' l2 : LH} (k : Kp x l l') (k2 : Kp x l' l2) : Kp x l l2 := fun y o n e => k2 y o n (k y o n e)
theorem c_ground_of {x : Addr} {k : Nat} {f : Bool} {l : LH} {Q : DK} (hb : Box l x k) (hk : k < 2 ^ 30) (h : ∀ a d g b c l', OkG a d → GndAt l' g b c a d [] [] → Box l' x (k + 4) → Kp x l l' → Q (.ref g) l') : callD D__law_ground_of [.ref x, .bl f] l Q := by
  refine ⟨rfl, ?_⟩
  walk_at "w"
  refine c_sizes hb hk fun a d l1 gd hb1 o1 => ?_
  refine ⟨rfl, ?_⟩
  walk_at "w"
  walk_at "s"
  have fin : ∀ (d' : Nat), OkG a d' → ∀ g, l1 g = none → callD D_Ground_init [.ref g, .int a, .int d'] (uL l1 g (.ins cl_Ground [])) fun v l2 => v = .non ∧ Q (.ref g) l2 := fun d' gd' g ng => c_Ground_init gd' ng fun b c l2 G sub _ => ⟨rfl, by
    have hb2 := Box.sub sub hb1
    exact h a d' g b c l2 gd' G hb2 fun y o ne e => sub _ _ ((o1 y ne).trans e)⟩
  have gn := gd.num
  have cl := gds_all closed_all gd
  rw [Bool.or_eq_true] at cl
  refine ifB_by (fun _ => ?_) fun _ => ?_
  · refine ifB_true ?_
    walk_at "w"
    exact fun g ng => fin d gd g ng
  · walk_at "w"
    refine ifB_dec (fun e => ?_) fun e => ?_
    · walk_at "w"
      exact fun g ng => fin d gd g ng
    · walk_at "w"
      rw [show ((d : Nat) : Int) - 2 = ((d - 2 : Nat) : Int) by omega]
      refine fun g ng => fin (d - 2) ?_ g ng
      rcases cl with z | z
      · have := of_decide_eq_true z
        have : a + d < 7 := this
        omega
      · have y : (a, d - 2) ∈ gds := of_decide_eq_true z
        exact y

end Law

namespace Law
open PySem PySem.Spec PyProof.Rows L2 DL
local macro_rules | `(tactic| walk_at "w") => `(tactic| conv => whnf)
local macro_rules | `(tactic| walk_at "s") => `(tactic| (refine ⟨?_⟩; conv => whnf))
local macro_rules | `(tactic| walk_at "z") => `(tactic| (refine small ?_; simp only [List.length_map, List.length_append, List.length_reverse, List.length_cons, List.length_nil]; omega))
local macro_rules | `(tactic| walk_at "q") => `(tactic| (refine ⟨(okN_tints _).ok, (okN_tints _).ok, ?_⟩; rw [eqD_tints]))
/-! powers of brackets, one behind the other -/
theorem simp_ints (ns : List Int) : (ns.map D.int).all simpD = true := by
  rw [List.all_map]
  exact List.all_eq_true.mpr fun _ _ => rfl
def rowWd : List (List Int) → List Int → List Int
  | t :: ts, n :: ns => repL (brG t) n ++ rowWd ts ns
  | _, _ => []
def wsum : List (List Int) → List Int → Nat
  | t :: ts, n :: ns => n.natAbs * (brG t).length + wsum ts ns
  | _, _ => 0
theorem rowWd_len : ∀ (ts : List (List Int)) (ns : List Int), (rowWd ts ns).length = wsum ts ns
  | [], _ => rfl
  | t :: ts, [] => rfl
  | t :: ts, n :: ns => by
    show (repL (brG t) n ++ rowWd ts ns).length = _
    rw [List.length_append, repL_len, rowWd_len ts ns]
    rfl
def stepsZ (p : Int × List Int) : Int := ((p.1.natAbs * (brG p.2).length : Nat) : Int)
theorem zip_words (ts : List (List Int)) (ns : List Int) : zipD (ns.map D.int) (ts.map fun t => wordD (brG t)) = (ns.zip ts).map fun p => D.tup [.int p.1, wordD (brG p.2)] := by
  induction ns generalizing ts with
  | nil => rfl
  | cons n ns ih =>
    cases ts with
    | nil => rfl
    | cons t ts =>
      show D.tup [.int n, wordD (brG t)] :: zipD (ns.map D.int) (ts.map fun t => wordD (brG t)) = _
      rw [ih ts]
      rfl
theorem spell_sum : ∀ (ts : List (List Int)) (ns : List Int), ((ns.zip ts).map stepsZ).sum = (wsum ts ns : Nat)
  | [], ns => by rw [List.zip_nil_right]; cases ns <;> rfl
  | t :: ts, [] => rfl
  | t :: ts, n :: ns => by
    rw [List.zip_cons_cons, List.map_cons, List.sum_cons, spell_sum ts ns]
    show ((n.natAbs * (brG t).length : Nat) : Int) + _ = ((n.natAbs * (brG t).length + wsum ts ns : Nat) : Int)
    omega
theorem br_all : (gds.all fun p => (turnsG p.1 p.2).all fun w => decide (1 ≤ (brG w).length)) = true := by decide +kernel
theorem br_pos {a d : Nat} (gd : OkG a d) {t : List Int} (ht : t ∈ turnsG a d) : 1 ≤ (brG t).length := of_decide_eq_true (List.all_eq_true.mp (gds_all br_all gd) t ht)
theorem br_len {a d : Nat} (gd : OkG a d) {t : List Int} (ht : t ∈ turnsG a d) : (brG t).length ≤ 1000 := brT_len gd ht (by decide)
theorem comp_by {α : Type} {u v : α → D} {g : DTG} {tt : DTT} {te : DTE} {vs : List Nat} {env : DSt} {l : LH} : ∀ (zs : List α) {Q : List D → LH → Prop}, (∀ z ∈ zs, ∀ (K1 : DK) (K2 : LH → Prop), K1 (v z) l → wipeK vs env fun env0 => g (u z) env0 l fun env1 l2 => tt env1 l2 fun c l3 => ifB c (te env1 l3 K1) (K2 l3)) → Q (zs.map v) l → compL g tt te vs (zs.map u) env l Q
  | [], _, _, h => h
  | z :: zs, Q, hs, h => hs z List.mem_cons_self _ _ (comp_by zs (fun y hy => hs y (List.mem_cons_of_mem _ hy)) h)
theorem turnsG_some {a d : Nat} (gd : OkG a d) : 0 < (turnsG a d).length := by
  have h := List.all_eq_true.mp (show gds.all (fun p => decide (0 < (turnsG p.1 p.2).length)) = true by decide +kernel) _ gd
  exact of_decide_eq_true h
/-- the brackets, told one by one -/
def brD (a d : Nat) : List D := (turnsG a d).map fun t => wordD (brG t)
theorem brackets_comp {a d : Nat} (gd : OkG a d) {g b c : Addr} {ck : List Key} {cd : List D} {l : LH} (GA : GndAt l g b c a d ck cd) {te : DTE} {vs : List Nat} {gg : DTG} {env : DSt} {Q : List D → LH → Prop} (hs : ∀ (i : Nat) (K1 : DK) (K2 : LH → Prop), callD (D_Ground_bracket_at 8) [.ref g, .int i] l K1 → wipeK vs env fun env0 => gg (.int i) env0 l fun env1 l2 => tYes env1 l2 fun c l3 => ifB c (te env1 l3 K1) (K2 l3)) (h : Q (brD a d) l) :
    compL gg tYes te vs (rgD 0 (turnsG a d).length) env l Q := by
  have e : rgD 0 (turnsG a d).length = (List.range (turnsG a d).length).map fun i : Nat => D.int (i : Int) := by
    unfold rgD
    refine List.map_congr_left fun i _ => ?_
    rw [Int.zero_add]
  have e2 : brD a d = (List.range (turnsG a d).length).map fun i : Nat => wordD (brG ((turnsG a d).getD i [])) := by
    unfold brD
    refine List.ext_getElem? fun i => ?_
    rw [List.getElem?_map, List.getElem?_map]
    by_cases hi : i < (turnsG a d).length
    · rw [List.getElem?_range hi, List.getElem?_eq_getElem hi]
      simp [hi]
    · rw [List.getElem?_eq_none (by omega), List.getElem?_eq_none (by rw [List.length_range]; omega)]
      rfl
  rw [e]
  rw [e2] at h
  refine comp_by _ (fun i hi K1 K2 k1 => ?_) h
  have hi := List.mem_range.mp hi
  have ht : (turnsG a d)[i]? = some ((turnsG a d).getD i []) := by simp [hi]
  have hw := List.mem_of_getElem? ht
  have d5 := gd.num
  have := (turnsG_lyn hw).2.2.1
  exact hs i K1 K2 (c_Ground_bracket_at gd GA 8 (Nat.le_refl _) ht (by omega) k1)
theorem c_places {a d : Nat} {g b c : Addr} {ck : List Key} {cd : List D} {l : LH} (GA : GndAt l g b c a d ck cd) {Q : DK} (h : Q (.int ((turnsG a d).length : Nat)) l) : callD D_Ground_places [.ref g] l Q := by
  refine ⟨rfl, ?_⟩
  walk_at "w"
  refine ⟨_, GA.g, rfl, ?_⟩
  walk_at "w"
  rw [List.length_map]
  exact h
theorem spell_loop {e0 e1 e2 e6 : Option D} {E : DEnds} {l : LH} : ∀ (ts : List (List Int)) (ns : List Int) {w : List Int} {e4 e5 : Option D}, (∀ t ∈ ts, (brG t).length ≤ 1000 ∧ 1 ≤ (brG t).length) → w.length + wsum ts ns ≤ 600 →
    (∀ e4 e5, E.nx [e0, e1, e2, some (.tup ((w ++ rowWd ts ns).map D.int)), e4, e5, e6] l) →
    forL (gTup 2 (gCons (gName 4) (gCons (gName 5) gNil))) (nS B_spelled_1) (zipD (ns.map D.int) (ts.map fun t => wordD (brG t))) E [e0, e1, e2, some (.tup (w.map D.int)), e4, e5, e6] l
  | [], [], w, e4, e5, _, _, h => by
    have h := h e4 e5
    rw [show rowWd [] [] = [] from rfl, List.append_nil] at h
    exact h
  | [], n :: ns, w, e4, e5, _, _, h => by
    have h := h e4 e5
    rw [show rowWd [] (n :: ns) = [] from rfl, List.append_nil] at h
    exact h
  | t :: ts, [], w, e4, e5, _, _, h => by
    have h := h e4 e5
    rw [show rowWd (t :: ts) [] = [] from rfl, List.append_nil] at h
    exact h
  | t :: ts, n :: ns, w, e4, e5, ht, hz, h => by
    obtain ⟨t1, t2⟩ := ht t List.mem_cons_self
    have hz : w.length + (n.natAbs * (brG t).length + wsum ts ns) ≤ 600 := hz
    have nb : n.natAbs ≤ n.natAbs * (brG t).length := Nat.le_mul_of_pos_right _ t2
    refine ⟨rfl, ?_⟩
    refine ⟨?_⟩
    walk_at "w"
    refine c_repeated (brG t) n l _ (by omega) (by omega) (by omega) _ (Hd.t _) ?_
    have rl : (repL (brG t) n).length = n.natAbs * (brG t).length := repL_len _ _
    walk_at "w"
    refine c_joined w (repL (brG t) n) l _ (by omega) ?_ _ _ (.inl rfl) (.inl rfl)
    refine spell_loop ts ns (w := w ++ repL (brG t) n) (fun x hx => ht x (List.mem_cons_of_mem _ hx)) (by rw [List.length_append]; omega) fun e4 e5 => ?_
    have h := h e4 e5
    rw [show rowWd (t :: ts) (n :: ns) = repL (brG t) n ++ rowWd ts ns from rfl, ← List.append_assoc] at h
    exact h
theorem abs_is (n : Int) : (if n < 0 then -n else n) = ((n.natAbs : Nat) : Int) := by split <;> omega
theorem c_spelled {a d : Nat} (gd : OkG a d) {g b c : Addr} {ck : List Key} {cd : List D} {l : LH} (GA : GndAt l g b c a d ck cd) {ns : List Int} {wd : D → LH → Prop} {Q : DK} {x : D} (hx : Hd x ns)
    (h1 : ¬ 600 < wsum (turnsG a d) ns → Q (.tup ((rowWd (turnsG a d) ns).map D.int)) l) (h2 : 600 < wsum (turnsG a d) ns → wd (.exc 3) l) : callD (D_spelled wd) [.ref g, x] l Q := by
  have lT := turnsG_len gd
  have hb : ∀ t ∈ turnsG a d, (brG t).length ≤ 1000 ∧ 1 ≤ (brG t).length := fun t ht => ⟨br_len gd ht, br_pos gd ht⟩
  refine ⟨rfl, ?_⟩
  walk_at "w"
  refine ⟨_, GA.g, rfl, ?_⟩
  refine c_places GA ?_
  walk_at "w"
  rw [Int.toNat_natCast]
  refine ⟨⟨by omega, by omega⟩, by rw [rgD_len]; exact small (by omega), ?_⟩
  refine brackets_comp gd GA (fun i K1 K2 k1 => ?_) ?_
  · refine ifB_true ⟨?_⟩
    walk_at "w"
    exact ⟨_, GA.g, rfl, k1⟩
  walk_at "w"
  walk_at "s"
  rcases hx with rfl | rfl
  all_goals
    walk_at "w"
    unfold brD
    rw [zip_words]
    refine ⟨by refine small ?_; rw [List.length_map, List.length_zip]; omega, ?_⟩
    refine comp_by (v := fun p => D.int (stepsZ p)) (ns.zip (turnsG a d)) (fun p hp K1 K2 k1 => ?_) ?_
    · have := (hb p.2 (List.of_mem_zip hp).2).1
      refine ⟨rfl, ?_⟩
      refine ifB_true ⟨?_⟩
      walk_at "w"
      rw [List.length_map, abs_is]
      refine ⟨mulR (by omega) (by omega), ?_⟩
      unfold stepsZ at k1
      rw [Int.natCast_mul] at k1
      exact k1
    walk_at "w"
    refine ⟨(ns.zip (turnsG a d)).map stepsZ, by rw [List.map_map]; rfl, ?_⟩
    rw [spell_sum]
    walk_at "w"
    refine ifB_dec (fun hg => ?_) fun hg => ?_
    · exact h2 (by omega)
    walk_at "w"
    walk_at "s"
    refine ⟨Nat.zero_le _, ?_⟩
    walk_at "w"
    walk_at "s"
    refine spell_loop (turnsG a d) ns (w := []) hb (by rw [List.length_nil]; omega) fun e4 e5 => ⟨?_⟩
    rw [List.nil_append]
    exact h1 (by omega)

end Law

namespace Law
open PySem PySem.Spec PyProof.Rows L2 DL
local macro_rules | `(tactic| walk_at "w") => `(tactic| conv => whnf)
local macro_rules | `(tactic| walk_at "s") => `(tactic| (refine ⟨?_⟩; conv => whnf))
local macro_rules | `(tactic| walk_at "z") => `(tactic| (refine small ?_; simp only [List.length_map, List.length_append, List.length_reverse, List.length_cons, List.length_nil]; omega))
local macro_rules | `(tactic| walk_at "q") => `(tactic| (refine ⟨(okN_tints _).ok, (okN_tints _).ok, ?_⟩; rw [eqD_tints]))
theorem c_lbacked (ws : List Int) (l : LH) (Q : DK) (hz : ws.length ≤ 100000) (h : Q (.tup ((ws.reverse.map fun i => -i).map D.int)) l) (x : D) (hx : x = .tup (ws.map D.int) ∨ x = .lst (ws.map D.int)) : callD D__law_backed [x] l Q := by
  have key : compL (gName 1) tYes (nE C__law_backed_1) [1] (ws.map D.int).reverse [some x, none] l fun rs l2 => Q (.tup rs) l2 := by
    refine comp_pure (f := fun d => match d with | .int i => .int (-i) | d => d) (fun d hd K1 K2 h => ?_) ?_
    · rw [← List.map_reverse] at hd
      obtain ⟨i, _, rfl⟩ := List.mem_map.mp hd
      exact ifB_true ⟨h⟩
    · rw [← List.map_reverse, List.map_map]
      rw [List.map_map] at h
      exact h
  have hz' : (ws.map D.int).reverse.length ≤ sizeLine := by
    rw [List.length_reverse, List.length_map]
    exact small hz
  rcases hx with rfl | rfl
  · exact ⟨rfl, hz', key⟩
  · exact ⟨rfl, hz', key⟩
/-! what the law itself has for the word, and what is told -/
def dueD (a d : Nat) (ns : List Int) : D := if 600 < wsum (turnsG a d) ns then .str "long" else .tup ((rowWd (turnsG a d) ns).map D.int)
theorem okN_due (a d : Nat) (ns : List Int) : okN 1 (dueD a d ns) := by
  unfold dueD
  split
  · exact (okN_str (by decide +kernel)).mono (Nat.zero_le _)
  · exact okN_tints _
theorem dueD_tupI (a d : Nat) (ns : List Int) : tupI (dueD a d ns) = true := by
  unfold dueD
  split
  · rfl
  · show ((rowWd (turnsG a d) ns).map D.int).all simpD = true
    rw [List.all_map]
    exact List.all_eq_true.mpr fun _ _ => rfl
theorem due_eq {w : List Int} {n : Int} : (List.replicate n.natAbs ((if 0 < n then w else rb w).map D.int)).flatten = (repL w n).map D.int := by
  rw [rep_map]
  unfold repL
  rcases (show n < 0 ∨ n = 0 ∨ 0 < n by omega) with h | h | h
  · rw [if_neg (by omega), if_pos h, show n.natAbs = (-n).toNat by omega]
  · subst h
    rfl
  · rw [if_pos h, if_neg (by omega), show n.natAbs = n.toNat by omega]
theorem due_loop {e0 e1 : Option D} {E : DEnds} {l : LH} : ∀ (ts : List (List Int)) (ns : List Int) {w : List Int} {e3 e4 : Option D}, (∀ t ∈ ts, (brG t).length ≤ 1000 ∧ 1 ≤ (brG t).length) → w.length + wsum ts ns ≤ 600 →
    (∀ e3 e4, E.nx [e0, e1, some (.tup ((w ++ rowWd ts ns).map D.int)), e3, e4] l) →
    forL (gTup 2 (gCons (gName 3) (gCons (gName 4) gNil))) (nS B__law_due_1) (zipD (ns.map D.int) (ts.map fun t => wordD (brG t))) E [e0, e1, some (.tup (w.map D.int)), e3, e4] l
  | [], [], w, e3, e4, _, _, h => by
    have h := h e3 e4
    rw [show rowWd [] [] = [] from rfl, List.append_nil] at h
    exact h
  | [], n :: ns, w, e3, e4, _, _, h => by
    have h := h e3 e4
    rw [show rowWd [] (n :: ns) = [] from rfl, List.append_nil] at h
    exact h
  | t :: ts, [], w, e3, e4, _, _, h => by
    have h := h e3 e4
    rw [show rowWd (t :: ts) [] = [] from rfl, List.append_nil] at h
    exact h
  | t :: ts, n :: ns, w, e3, e4, ht, hz, h => by
    obtain ⟨t1, t2⟩ := ht t List.mem_cons_self
    have hz : w.length + (n.natAbs * (brG t).length + wsum ts ns) ≤ 600 := hz
    have nb : n.natAbs ≤ n.natAbs * (brG t).length := Nat.le_mul_of_pos_right _ t2
    have rl : (repL (brG t) n).length = n.natAbs * (brG t).length := repL_len _ _
    have go : ∀ e3 e4, forL (gTup 2 (gCons (gName 3) (gCons (gName 4) gNil))) (nS B__law_due_1) (zipD (ns.map D.int) (ts.map fun t => wordD (brG t))) E [e0, e1, some (.tup (w.map D.int ++ (repL (brG t) n).map D.int)), e3, e4] l := fun e3 e4 => by
      rw [← List.map_append]
      refine due_loop ts ns (w := w ++ repL (brG t) n) (fun x hx => ht x (List.mem_cons_of_mem _ hx)) (by rw [List.length_append]; omega) fun e3 e4 => ?_
      have h := h e3 e4
      rw [show rowWd (t :: ts) (n :: ns) = repL (brG t) n ++ rowWd ts ns from rfl, ← List.append_assoc] at h
      exact h
    have sz : (w.map D.int).length + ((repL (brG t) n).map D.int).length ≤ sizeLine := by
      rw [List.length_map, List.length_map]
      exact small (by omega)
    refine ⟨rfl, ?_⟩
    refine ⟨?_⟩
    walk_at "w"
    have e2 := due_eq (w := brG t) (n := n)
    refine ifB_dec (fun hp => ?_) (fun hp => ?_)
    · rw [if_pos (show 0 < n from hp)] at e2
      walk_at "w"
      rw [abs_is]
      refine ⟨⟨by omega, by omega, by rw [List.length_map]; refine small ?_; rw [Int.toNat_natCast, Nat.mul_comm]; omega⟩, ?_⟩
      rw [Int.toNat_natCast, e2]
      exact ⟨sz, go _ _⟩
    · rw [if_neg (show ¬ 0 < n from hp)] at e2
      walk_at "w"
      refine c_lbacked (brG t) l _ (by omega) ?_ _ (Hd.t _)
      walk_at "w"
      rw [abs_is]
      refine ⟨⟨by omega, by omega, by rw [List.length_map, List.length_map, List.length_reverse]; refine small ?_; rw [Int.toNat_natCast, Nat.mul_comm]; omega⟩, ?_⟩
      rw [Int.toNat_natCast]
      unfold rb at e2
      rw [e2]
      exact ⟨sz, go _ _⟩
theorem c_due {a d : Nat} (gd : OkG a d) {l : LH} {ns : List Int} {Q : DK} {x : D} (hx : Hd x ns) (h : Q (dueD a d ns) l) : callD D__law_due [x, .lst (brD a d)] l Q := by
  have lT := turnsG_len gd
  have hb : ∀ t ∈ turnsG a d, (brG t).length ≤ 1000 ∧ 1 ≤ (brG t).length := fun t ht => ⟨br_len gd ht, br_pos gd ht⟩
  unfold dueD at h
  refine ⟨rfl, ?_⟩
  rcases hx with rfl | rfl
  all_goals
    walk_at "w"
    unfold brD
    rw [zip_words]
    refine ⟨by refine small ?_; rw [List.length_map, List.length_zip]; omega, ?_⟩
    refine comp_by (v := fun p => D.int (stepsZ p)) (ns.zip (turnsG a d)) (fun p hp K1 K2 k1 => ?_) ?_
    · have := (hb p.2 (List.of_mem_zip hp).2).1
      refine ⟨rfl, ?_⟩
      refine ifB_true ⟨?_⟩
      walk_at "w"
      rw [List.length_map, abs_is]
      refine ⟨mulR (by omega) (by omega), ?_⟩
      unfold stepsZ at k1
      rw [Int.natCast_mul] at k1
      exact k1
    walk_at "w"
    refine ⟨(ns.zip (turnsG a d)).map stepsZ, by rw [List.map_map]; rfl, ?_⟩
    rw [spell_sum]
    walk_at "w"
    refine ifB_dec (fun hg => ?_) fun hg => ?_
    · rw [if_pos (by omega)] at h
      exact h
    rw [if_neg (by omega)] at h
    walk_at "w"
    walk_at "s"
    refine ⟨Nat.zero_le _, ?_⟩
    walk_at "w"
    walk_at "s"
    refine due_loop (turnsG a d) ns (w := []) hb (by rw [List.length_nil]; omega) fun e4 e5 => ⟨?_⟩
    rw [List.nil_append]
    exact h
theorem c_told {a d : Nat} (gd : OkG a d) {g b c : Addr} {ck : List Key} {cd : List D} {l : LH} (GA : GndAt l g b c a d ck cd) {ns : List Int} {Q : DK} {x : D} (hx : Hd x ns) (h : Q (dueD a d ns) l) : callD (D__law_told fun _ _ => False) [.ref g, x] l Q := by
  unfold dueD at h
  refine ⟨rfl, ?_⟩
  walk_at "w"
  refine ⟨by show 2 ≤ sizeLine; decide, ?_⟩
  walk_at "w"
  refine ⟨rfl, ?_⟩
  walk_at "w"
  walk_at "s"
  refine c_spelled gd GA hx (fun hg => ?_) (fun hg => ?_)
  · rw [if_neg hg] at h
    walk_at "w"
    walk_at "s"
    refine ifB_true ?_
    exact h
  · rw [if_pos hg] at h
    walk_at "w"
    walk_at "s"
    refine ifB_false ?_
    walk_at "w"
    walk_at "s"
    walk_at "w"
    walk_at "s"
    walk_at "w"
    walk_at "s"
    refine ifB_true ?_
    walk_at "w"
    refine ifB_true ?_
    exact h

end Law

namespace Law
open PySem PySem.Spec PyProof.Rows L2 DL
local macro_rules | `(tactic| walk_at "w") => `(tactic| conv => whnf)
local macro_rules | `(tactic| walk_at "s") => `(tactic| (refine ⟨?_⟩; conv => whnf))
local macro_rules | `(tactic| walk_at "z") => `(tactic| (refine small ?_; simp only [List.length_map, List.length_append, List.length_reverse, List.length_cons, List.length_nil]; omega))
local macro_rules | `(tactic| walk_at "q") => `(tactic| (refine ⟨(okN_tints _).ok, (okN_tints _).ok, ?_⟩; rw [eqD_tints]))
/-! a drawn row -/
theorem drawn25_loop {a d : Nat} (gd : OkG a d) {x q : Addr} (xq : q ≠ x) {e1 e3 e4 e8 e9 : Option D} {E : DEnds} : ∀ (n : Nat) {lo : Int} {k : Nat} {ns : List Int} {l : LH} {e5 e6 e7 : Option D}, Box l x k → k + 4 * n < 2 ^ 30 → ns.length = (turnsG a d).length → l q = some (.lst (ns.map D.int)) →
    (∀ (ns : List Int) l' e5 e6 e7, ns.length = (turnsG a d).length → Box l' x (k + 4 * n) → l' q = some (.lst (ns.map D.int)) → (∀ y, y ≠ x → y ≠ q → l' y = l y) → E.nx [some (.ref x), e1, some (.ref q), e3, e4, e5, e6, e7, e8, e9] l') →
    forL (gName 5) (nS B__law_drawn_m_1) (rgD lo n) E [some (.ref x), e1, some (.ref q), e3, e4, e5, e6, e7, e8, e9] l
  | 0, lo, k, ns, l, e5, e6, e7, hb, _, hl, hq, h => h ns l _ _ _ hl hb hq fun y _ _ => rfl
  | n + 1, lo, k, ns, l, e5, e6, e7, hb, hk, hl, hq, h => by
    have sT := turnsG_some gd
    have lT := turnsG_len gd
    rw [rgD_succ]
    refine ⟨?_⟩
    walk_at "w"
    refine ⟨_, hq, ?_⟩
    walk_at "w"
    rw [List.length_map]
    refine c_take hb (by omega) (by omega) (by omega) fun i l1 i0 i1 hb1 o1 => ?_
    obtain ⟨j, rfl⟩ := Int.eq_ofNat_of_zero_le i0
    have hj : j < ns.length := by omega
    walk_at "w"
    refine ⟨three_ok, ?_⟩
    walk_at "w"
    refine c_take hb1 (by decide) (by decide) (by omega) fun s l2 s0 s1 hb2 o2 => ?_
    have hq2 : l2 q = some (.lst (ns.map D.int)) := (o2 q xq).trans ((o1 q xq).trans hq)
    rcases (show s = 0 ∨ s = 1 ∨ s = 2 by omega) with rfl | rfl | rfl
    all_goals
      refine ⟨_, rfl, ?_⟩
      refine c_take hb2 (by decide) (by decide) (by omega) fun r l3 r0 r1 hb3 o3 => ?_
      have hq3 : l3 q = some (.lst (ns.map D.int)) := (o3 q xq).trans hq2
      walk_at "w"
      refine c_take hb3 (by decide) (by decide) (by omega) fun t l4 t0 t1 hb4 o4 => ?_
      have hq4 : l4 q = some (.lst (ns.map D.int)) := (o4 q xq).trans hq3
      walk_at "w"
      refine ⟨mulL (by decide) (by decide), ?_⟩
      walk_at "w"
      refine ⟨mulR (by omega) (by omega), ?_⟩
      refine ⟨_, hq4, j, by rw [List.length_map]; unfold ixN; rw [if_pos (by omega)]; simpa using hj, ?_⟩
      rw [show (ns.map D.int).set j (.int ((1 + r) * (1 - 2 * t))) = (ns.set j ((1 + r) * (1 - 2 * t))).map D.int by rw [List.map_set]]
      have hb5 : Box (uL l4 q (.lst ((ns.set j ((1 + r) * (1 - 2 * t))).map D.int))) x (k + 1 + 1 + 1 + 1) := Box.of_same (uL_ne (Ne.symm xq)) hb4
      refine drawn25_loop gd xq n (k := k + 4) (ns := ns.set j ((1 + r) * (1 - 2 * t))) hb5 (by omega) (by rw [List.length_set, hl]) uL_same fun ns' l' e5 e6 e7 c1 c2 c3 c4 => h ns' l' e5 e6 e7 c1 (by rw [show k + 4 * (n + 1) = k + 4 + 4 * n by omega]; exact c2) c3 fun y y1 y2 => ?_
      exact ((c4 y y1 y2).trans (uL_ne y2)).trans ((o4 y y1).trans ((o3 y y1).trans ((o2 y y1).trans (o1 y y1))))
theorem drawn25_end {a d : Nat} (gd : OkG a d) {x q : Addr} (xq : q ≠ x) {k : Nat} {l : LH} {e1 e3 e5 e6 e7 e8 e9 : Option D} {gr : Bool} {E : DEnds} {ns : List Int} (hb : Box l x k) (hk : k < 2 ^ 30) (hl : ns.length = (turnsG a d).length) (hq : l q = some (.lst (ns.map D.int)))
    (h : ∀ (ns : List Int) l', ns.length = (turnsG a d).length → Box l' x (k + 20) → l' q = some (.lst (ns.map D.int)) → (∀ y, y ≠ x → y ≠ q → l' y = l y) → E.rt (.ref q) l') :
    T__law_drawn_m_4 E [some (.ref x), e1, some (.ref q), e3, some (.bl gr), e5, e6, e7, e8, e9] l := by
  have sT := turnsG_some gd
  have lT := turnsG_len gd
  walk_at "w"
  cases gr with
  | false =>
    refine ifB_false ?_
    walk_at "w"
    walk_at "s"
    exact h ns l hl (hb.le (by omega)) hq fun y _ _ => rfl
  | true =>
    refine ifB_true ?_
    walk_at "w"
    refine c_number hb (by omega) fun n l1 _ hb1 o1 => ?_
    walk_at "w"
    have hq1 : l1 q = some (.lst (ns.map D.int)) := (o1 q xq).trans hq
    refine ⟨_, hq1, ?_⟩
    walk_at "w"
    rw [List.length_map]
    refine c_take hb1 (by omega) (by omega) (by omega) fun i l2 i0 i1 hb2 o2 => ?_
    obtain ⟨j, rfl⟩ := Int.eq_ofNat_of_zero_le i0
    have hj : j < ns.length := by omega
    have hq2 : l2 q = some (.lst (ns.map D.int)) := (o2 q xq).trans hq1
    walk_at "w"
    refine ⟨_, hq2, j, by rw [List.length_map]; unfold ixN; rw [if_pos (by omega)]; simpa using hj, ?_⟩
    rw [show (ns.map D.int).set j (.int n) = (ns.set j n).map D.int by rw [List.map_set]]
    walk_at "w"
    walk_at "s"
    refine h (ns.set j n) _ (by rw [List.length_set, hl]) ?_ uL_same fun y y1 y2 => ?_
    · exact Box.of_same (uL_ne (Ne.symm xq)) (hb2.le (by omega))
    · exact (uL_ne y2).trans ((o2 y y1).trans (o1 y y1))
theorem c_drawn25 {a d : Nat} (gd : OkG a d) {x : Addr} {k : Nat} {l : LH} {Q : DK} (hb : Box l x k) (hk : k < 2 ^ 20) (h : ∀ (q : Addr) (ns : List Int) l', l q = none → ns.length = (turnsG a d).length → l' q = some (.lst (ns.map D.int)) → Box l' x (k + 100) → (∀ y, y ≠ x → y ≠ q → l' y = l y) → Q (.ref q) l') : callD D__law_drawn_m [.ref x, .lst (brD a d)] l Q := by
  have sT := turnsG_some gd
  have lT := turnsG_len gd
  have ls : (brD a d).length = (turnsG a d).length := by unfold brD; rw [List.length_map]
  refine ⟨rfl, ?_⟩
  walk_at "w"
  refine ⟨show 1 ≤ sizeLine by decide, ?_⟩
  walk_at "w"
  rw [ls, Int.toNat_natCast]
  refine ⟨⟨by omega, by omega, small (by rw [List.length_singleton]; omega)⟩, ?_⟩
  intro q nq
  obtain ⟨ds, hbx⟩ := Box.lst hb
  have qx : q ≠ x := fun e => by rw [e, hbx] at nq; cases nq
  have e0 : (List.replicate (turnsG a d).length [D.int 0]).flatten = (List.replicate (turnsG a d).length (0 : Int)).map D.int := by rw [List.map_replicate]; simp
  rw [e0]
  have hb2 : Box (uL l q (.lst ((List.replicate (turnsG a d).length (0 : Int)).map D.int))) x k := Box.of_same (uL_ne (Ne.symm qx)) hb
  walk_at "w"
  refine c_take hb2 (by decide) (by decide) (by omega) fun ex l2 ex0 ex1 hb3 o3 => ?_
  walk_at "w"
  refine c_take hb3 (by decide) (by decide) (by omega) fun gr l3 gr0 gr1 hb4 o4 => ?_
  walk_at "w"
  refine ⟨(okN_int _).ok, (okN_int _).ok, ?_⟩
  rw [eqD_int]
  generalize decide (gr = 0) = grb
  walk_at "w"
  walk_at "s"
  refine c_take hb4 (by decide) (by decide) (by omega) fun t l4 t0 t1 hb5 o5 => ?_
  walk_at "w"
  refine ⟨⟨by omega, by omega⟩, ?_⟩
  refine drawn25_loop gd qx t.toNat hb5 (by omega) (List.length_replicate ..) ((o5 q qx).trans ((o4 q qx).trans ((o3 q qx).trans uL_same))) fun ns l5 e5 e6 e7 c1 c2 c3 c4 => ?_
  have O : ∀ y, y ≠ x → y ≠ q → l5 y = l y := fun y y1 y2 => (c4 y y1 y2).trans ((o5 y y1).trans ((o4 y y1).trans ((o3 y y1).trans (uL_ne y2))))
  have tb : k + 1 + 1 + 1 + 4 * t.toNat ≤ k + 19 := by omega
  walk_at "w"
  walk_at "s"
  have fin : ∀ (ns : List Int) l6 e8, ns.length = (turnsG a d).length → l6 q = some (.lst (ns.map D.int)) → Box l6 x (k + 40) → (∀ y, y ≠ x → y ≠ q → l6 y = l5 y) → nS T__law_drawn_m_4 ⟨fun _ l => Q .non l, Q, fun _ _ => False, fun _ _ => False⟩ [some (.ref x), some (.lst (brD a d)), some (.ref q), some (.int ex), some (.bl grb), e5, e6, e7, e8, none] l6 := fun ns l6 e8 f1 f2 f3 f4 =>
    ⟨drawn25_end gd qx f3 (by omega) f1 f2 fun ns l7 g1 g2 g3 g4 => h q ns l7 nq g1 g3 (g2.le (by omega)) fun y y1 y2 => (g4 y y1 y2).trans ((f4 y y1 y2).trans (O y y1 y2))⟩
  refine ifB_dec (fun he => ?_) fun he => ?_
  · walk_at "w"
    have h0 : 0 < ns.length := by omega
    refine ⟨_, c3, 0, by rw [List.length_map]; unfold ixN; rw [if_pos (by omega)]; simpa using List.ne_nil_of_length_pos h0, ?_⟩
    rw [show (ns.map D.int).set 0 (.int 0) = (ns.set 0 0).map D.int by rw [List.map_set]]
    walk_at "w"
    refine ⟨fun y => false, fun y e => (nomatch e), _, uL_same, rfl, simp_ints _, ?_⟩
    walk_at "w"
    unfold brD
    rw [zip_words]
    refine ⟨by refine small ?_; rw [List.length_map, List.length_zip, List.length_set]; omega, ?_⟩
    refine comp_by (v := fun p => D.int (stepsZ p)) ((ns.set 0 0).zip (turnsG a d)) (fun p hp K1 K2 k1 => ?_) ?_
    · have := br_len gd (List.of_mem_zip hp).2
      refine ⟨rfl, ?_⟩
      refine ifB_true ⟨?_⟩
      walk_at "w"
      rw [List.length_map, abs_is]
      refine ⟨mulR (by omega) (by omega), ?_⟩
      unfold stepsZ at k1
      rw [Int.natCast_mul] at k1
      exact k1
    walk_at "w"
    refine ⟨((ns.set 0 0).zip (turnsG a d)).map stepsZ, by rw [List.map_map]; rfl, ?_⟩
    rw [spell_sum]
    refine ⟨fun y e => (nomatch e), rfl, ?_⟩
    walk_at "w"
    have c2' : Box (uL l5 q (.lst ((ns.set 0 0).map D.int))) x (k + 19) := Box.of_same (uL_ne (Ne.symm qx)) (c2.le tb)
    refine c_take c2' (by decide) (by decide) (by omega) fun s l6 s0 s1 hb6 o6 => ?_
    walk_at "w"
    refine ⟨mulL (by decide) (by decide), ?_⟩
    walk_at "w"
    refine ⟨mulR (by omega) (by omega), ?_⟩
    have hq6 : l6 q = some (.lst ((ns.set 0 0).map D.int)) := (o6 q qx).trans uL_same
    refine ⟨_, hq6, 0, by rw [List.length_map, List.length_set]; unfold ixN; rw [if_pos (by omega)]; simpa using List.ne_nil_of_length_pos h0, ?_⟩
    rw [← List.map_set]
    refine fin _ _ _ (by rw [List.length_set, List.length_set, c1]) uL_same (Box.of_same (uL_ne (Ne.symm qx)) (hb6.le (by omega))) fun y y1 y2 => (uL_ne y2).trans ((o6 y y1).trans (uL_ne y2))
  · walk_at "w"
    exact fin _ _ _ c1 c3 (c2.le (by omega)) fun y _ _ => rfl

end Law

namespace Law
open PySem PySem.Spec PyProof.Rows L2 DL
local macro_rules | `(tactic| walk_at "w") => `(tactic| conv => whnf)
local macro_rules | `(tactic| walk_at "s") => `(tactic| (refine ⟨?_⟩; conv => whnf))
local macro_rules | `(tactic| walk_at "z") => `(tactic| (refine small ?_; simp only [List.length_map, List.length_append, List.length_reverse, List.length_cons, List.length_nil]; omega))
local macro_rules | `(tactic| walk_at "q") => `(tactic| (refine ⟨(okN_tints _).ok, (okN_tints _).ok, ?_⟩; rw [eqD_tints]))
/-! told and due are alike -/
/-- what may be read of the ground -/
def rdS (g b c : Addr) : Addr → Bool := fun y => decide (y = g) || decide (y = b) || decide (y = c)
theorem rdS_g {g b c : Addr} : rdS g b c g = true := by unfold rdS; simp
theorem rdS_b {g b c : Addr} : rdS g b c b = true := by unfold rdS; simp
theorem rdS_c {g b c : Addr} : rdS g b c c = true := by unfold rdS; simp
theorem rdS_cases {g b c y : Addr} (h : rdS g b c y = true) : y = g ∨ y = b ∨ y = c := by
  unfold rdS at h
  simpa [or_assoc] using h
theorem rdS_not {g b c y : Addr} (h1 : y ≠ g) (h2 : y ≠ b) (h3 : y ≠ c) : rdS g b c y = false := by
  unfold rdS
  simp [h1, h2, h3]
theorem lyn_words {a d : Nat} (gd : OkG a d) : tupV (.lst ((turnsG a d).map wordD)) = true := by
  have sT := turnsG_some gd
  show (((turnsG a d).map wordD).all tupI && ((turnsG a d).map wordD).any fun d => !simpD d) = true
  rw [Bool.and_eq_true]
  constructor
  · rw [List.all_map]
    exact List.all_eq_true.mpr fun w _ => simp_ints w
  · cases h : turnsG a d with
    | nil => rw [h] at sT; cases sT
    | cons w ws => rfl
theorem GndAt.bor {a d : Nat} (gd : OkG a d) {l : LH} {g b c : Addr} (G : GndAt l g b c a d [] []) : BorOk l (rdS g b c) := fun y hy => by
  have gf : ∀ y' z' : Addr, ([D.int (a : Nat), .int (d : Nat), .lst ((turnsG a d).map wordD), .ref y', .ref z'].all tupV) = true := fun y' z' => by
    rw [List.all_cons, List.all_cons, List.all_cons, lyn_words gd]
    rfl
  rcases rdS_cases hy with rfl | rfl | rfl
  · exact ⟨_, G.g, gf _ _⟩
  · refine ⟨_, G.b, ?_⟩
    show (((List.range (turnsG a d).length).map fun (i : Nat) => D.int (i : Int)).all tupV) = true
    rw [List.all_map]
    exact List.all_eq_true.mpr fun _ _ => rfl
  · exact ⟨_, G.c, rfl⟩
theorem GndAt.st {a d : Nat} {l : LH} {g b c : Addr} (G : GndAt l g b c a d [] []) : GndAt (stL l (rdS g b c)) g b c a d [] [] :=
  ⟨(stL_in rdS_g).trans G.g, (stL_in rdS_b).trans G.b, (stL_in rdS_c).trans G.c⟩
theorem GndAt.apart {a d : Nat} {l : LH} {g b c q : Addr} (G : GndAt l g b c a d [] []) {ds : List D} (hq : l q = some (.lst ds)) : rdS g b c q = false :=
  rdS_not (fun e => by have := G.g; rw [← e, hq] at this; cases this) (fun e => by have := G.b; rw [← e, hq] at this; cases this) fun e => by have := G.c; rw [← e, hq] at this; cases this
/-- a row as it stands: a list that may be written, or one that stays -/
def RowS (l : LH) (x : D) (ns : List Int) : Prop := (∃ q, x = .ref q ∧ l q = some (.lst (ns.map D.int))) ∨ x = .lst (ns.map D.int)
theorem kept_row {l : LH} {x : D} {ns : List Int} (hx : RowS l x ns) {Q : DK} (h : Q (.lst (ns.map D.int)) l) : kListF [x] l Q := by
  rcases hx with ⟨q, rfl, hq⟩ | rfl
  · exact ⟨_, hq, h⟩
  · exact h
theorem told_due {l : LH} {g : Addr} {ns : List Int} {z : D} {e0 e1 e3 e4 e5 e6 e10 e11 e12 : Option D} (cs : (∃ s, z = .str s) ∨ ∃ xs, z = .tup xs) (od : okN 1 z) (ct : ∀ {x : D} {Q : DK}, Hd x ns → Q z l → callD (D__law_told fun _ _ => False) [.ref g, x] l Q) {R : Bool → LH → Prop} (r : R false l) :
    (tOr (dTV (dNe (dDef (D__law_told fun _ _ => False) (aCons (dVar 2) (aCons (dVar 7) aNil))) (dVar 9))) (tOr (dTV (dNe (dDef (D__law_told fun _ _ => False) (aCons (dVar 2) (aCons (dCall kTuple (aCons (dVar 7) aNil)) aNil))) (dVar 9))) (dTV (dNe (dVar 7) (dVar 8))))) [e0, e1, some (.ref g), e3, e4, e5, e6, some (.lst (ns.map D.int)), some (.lst (ns.map D.int)), some z, e10, e11, e12] l R := by
  have ol : okN 1 (.lst (ns.map D.int)) := okN_lints ns
  rcases cs with ⟨s, rfl⟩ | ⟨xs, rfl⟩
  all_goals
    walk_at "w"
    refine ct (.inr rfl) ?_
    walk_at "w"
    refine ⟨od.ok, od.ok, ?_⟩
    rw [eqD_refl od]
    refine ifB_false ?_
    walk_at "w"
    refine ct (.inl rfl) ?_
    walk_at "w"
    refine ⟨od.ok, od.ok, ?_⟩
    rw [eqD_refl od]
    refine ifB_false ?_
    walk_at "w"
    refine ⟨ol.ok, ol.ok, ?_⟩
    rw [eqD_refl ol]
    exact r
theorem due_cs (a d : Nat) (ns : List Int) : (∃ s, dueD a d ns = .str s) ∨ ∃ xs, dueD a d ns = .tup xs := by
  unfold dueD
  split
  · exact .inl ⟨_, rfl⟩
  · exact .inr ⟨_, rfl⟩
theorem right_body {a d : Nat} (gd : OkG a d) {l : LH} {g b c : Addr} (G : GndAt l g b c a d [] []) {x : D} {ns : List Int} (hx : RowS l x ns) {e0 e1 e3 e4 e6 e8 e9 e10 e11 e12 : Option D} {E : DEnds}
    (h : ∀ e8 e9, E.nx [e0, e1, some (.ref g), e3, e4, some (.lst (brD a d)), e6, some x, e8, e9, e10, e11, e12] l) :
    nS B__law_right_1 E [e0, e1, some (.ref g), e3, e4, some (.lst (brD a d)), e6, some x, e8, e9, e10, e11, e12] l := by
  have od := okN_due a d ns
  refine ⟨?_⟩
  rcases hx with ⟨q, rfl, hq⟩ | rfl
  · have ap := G.apart hq
    walk_at "w"
    refine ⟨_, hq, ?_⟩
    walk_at "w"
    refine ⟨rdS g b c, G.bor gd, _, hq, ap, simp_ints ns, ?_⟩
    walk_at "w"
    refine c_due gd (.inr rfl) ?_
    refine ⟨fun y hy => stL_in hy, dueD_tupI a d ns, ?_⟩
    walk_at "w"
    refine ⟨rdS g b c, G.bor gd, _, hq, ap, simp_ints ns, ?_⟩
    refine (show ∀ run : DSt → Unit → Prop, run [e0, e1, some (.ref g), e3, e4, some (.lst (brD a d)), e6, some (.lst (ns.map D.int)), some (.lst (ns.map D.int)), some (dueD a d ns), e10, e11, e12] () → borS l (rdS g b c) run () [] ([e0, e1, some (.ref g), e3, e4, some (.lst (brD a d)), e6, some (.ref q), some (.lst (ns.map D.int)), some (dueD a d ns), e10, e11, e12].set 7 (some (.lst (ns.map D.int)))) from fun _ h => h) _ ?_
    refine told_due (due_cs a d ns) od (fun hx hq => c_told gd G.st hx hq) ?_
    refine ⟨fun y hy => stL_in hy, ?_⟩
    exact ifB_false (h _ _)
  · walk_at "w"
    refine ⟨rdS g b c, G.bor gd, ?_⟩
    walk_at "w"
    refine c_due gd (.inr rfl) ?_
    refine ⟨fun y hy => stL_in hy, dueD_tupI a d ns, ?_⟩
    walk_at "w"
    refine ⟨rdS g b c, G.bor gd, ?_⟩
    refine (show ∀ run : DSt → Unit → Prop, run [e0, e1, some (.ref g), e3, e4, some (.lst (brD a d)), e6, some (.lst (ns.map D.int)), some (.lst (ns.map D.int)), some (dueD a d ns), e10, e11, e12] () → borS l (rdS g b c) run () [7] [e0, e1, some (.ref g), e3, e4, some (.lst (brD a d)), e6, some (.lst (ns.map D.int)), some (.lst (ns.map D.int)), some (dueD a d ns), e10, e11, e12] from fun _ h => h) _ ?_
    refine told_due (due_cs a d ns) od (fun hx hq => c_told gd G.st hx hq) ?_
    refine ⟨fun y hy => stL_in hy, ?_⟩
    exact ifB_false (h _ _)
theorem told_ne {l : LH} {g b c : Addr} {a d : Nat} (gd : OkG a d) (G : GndAt l g b c a d [] []) {ns : List Int} {e0 e1 e3 e4 e6 e8 e9 e10 e11 e12 : Option D} {R : Bool → LH → Prop} (r : R false l) :
    (dTV (dNe (dDef (D__law_told fun _ _ => False) (aCons (dVar 2) (aCons (dVar 7) aNil))) (dDef D__law_due (aCons (dVar 7) (aCons (dVar 5) aNil))))) [e0, e1, some (.ref g), e3, e4, some (.lst (brD a d)), e6, some (.lst (ns.map D.int)), e8, e9, e10, e11, e12] l R := by
  have od := okN_due a d ns
  have cs := due_cs a d ns
  have ct : ∀ {Q : DK}, Q (dueD a d ns) l → callD (D__law_told fun _ _ => False) [.ref g, .lst (ns.map D.int)] l Q := fun h => c_told gd G (.inr rfl) h
  have cd : ∀ {Q : DK}, Q (dueD a d ns) l → callD D__law_due [.lst (ns.map D.int), .lst (brD a d)] l Q := fun h => c_due gd (.inr rfl) h
  generalize dueD a d ns = z at od cs ct cd
  rcases cs with ⟨s, rfl⟩ | ⟨xs, rfl⟩
  all_goals
    walk_at "w"
    refine ct ?_
    walk_at "w"
    refine cd ?_
    refine ⟨od.ok, od.ok, ?_⟩
    rw [eqD_refl od]
    exact r
theorem told_eq {l : LH} {g b c : Addr} {a d : Nat} (gd : OkG a d) (G : GndAt l g b c a d [] []) {ns : List Int} {e0 e1 e3 e4 e6 e8 e9 e10 e11 e12 : Option D} {R : D → LH → Prop} (r : R (.bl true) l) :
    (dEq (dDef (D__law_told fun _ _ => False) (aCons (dVar 2) (aCons (dVar 7) aNil))) (dDef D__law_due (aCons (dVar 7) (aCons (dVar 5) aNil)))) [e0, e1, some (.ref g), e3, e4, some (.lst (brD a d)), e6, some (.lst (ns.map D.int)), e8, e9, e10, e11, e12] l R := by
  have od := okN_due a d ns
  have cs := due_cs a d ns
  have ct : ∀ {Q : DK}, Q (dueD a d ns) l → callD (D__law_told fun _ _ => False) [.ref g, .lst (ns.map D.int)] l Q := fun h => c_told gd G (.inr rfl) h
  have cd : ∀ {Q : DK}, Q (dueD a d ns) l → callD D__law_due [.lst (ns.map D.int), .lst (brD a d)] l Q := fun h => c_due gd (.inr rfl) h
  generalize dueD a d ns = z at od cs ct cd
  rcases cs with ⟨s, rfl⟩ | ⟨xs, rfl⟩
  all_goals
    walk_at "w"
    refine ct ?_
    walk_at "w"
    refine cd ?_
    refine ⟨od.ok, od.ok, ?_⟩
    rw [eqD_refl od]
    exact r
theorem c_letters {g : Addr} {a d : Int} {r : List D} {l : LH} {Q : DK} (hg : l g = some (.ins cl_Ground (.int a :: .int d :: r))) (h : Q (.int a) l) : callD D_Ground_letters [.ref g] l Q := by
  refine ⟨rfl, ?_⟩
  walk_at "w"
  exact ⟨_, hg, rfl, h⟩
theorem c_depth {g : Addr} {a d : Int} {r : List D} {l : LH} {Q : DK} (hg : l g = some (.ins cl_Ground (.int a :: .int d :: r))) (h : Q (.int d) l) : callD D_Ground_depth [.ref g] l Q := by
  refine ⟨rfl, ?_⟩
  walk_at "w"
  exact ⟨_, hg, rfl, h⟩
theorem c_right {x : Addr} {k : Nat} {f : Bool} {l : LH} {Q : DK} (hb : Box l x k) (hk : k < 2 ^ 10) (h : ∀ l', Q (.bl true) l') : callD D__law_right [.ref x, .bl f] l Q := by
  refine ⟨rfl, ?_⟩
  walk_at "w"
  refine c_ground_of hb (by omega) fun a d g b c l1 gd G hb1 k1 => ?_
  have lT := turnsG_len gd
  have sT := turnsG_some gd
  have lb : (brD a d).length = (turnsG a d).length := by unfold brD; rw [List.length_map]
  walk_at "w"
  walk_at "s"
  refine ⟨_, G.g, rfl, ?_⟩
  refine c_letters G.g ?_
  walk_at "w"
  refine ⟨_, G.g, rfl, ?_⟩
  refine c_depth G.g ?_
  walk_at "w"
  walk_at "s"
  refine ⟨_, G.g, rfl, ?_⟩
  refine c_places G ?_
  walk_at "w"
  rw [Int.toNat_natCast]
  refine ⟨⟨by omega, by omega⟩, by rw [rgD_len]; exact small (by omega), ?_⟩
  refine brackets_comp gd G (fun i K1 K2 k1 => ?_) ?_
  · refine ifB_true ⟨?_⟩
    walk_at "w"
    exact ⟨_, G.g, rfl, k1⟩
  walk_at "w"
  walk_at "s"
  refine ⟨⟨by decide, by decide⟩, by show 2 ≤ sizeLine; decide, ?_⟩
  walk_at "w"
  refine ifB_true ?_
  walk_at "w"
  walk_at "s"
  refine c_drawn25 gd hb1 (by omega) fun q ns l2 nq n1 hq2 hb2 o2 => ?_
  walk_at "w"
  refine ifB_true ?_
  walk_at "w"
  walk_at "s"
  refine c_drawn25 gd hb2 (by omega) fun q' ms l3 nq' m1 hq3 hb3 o3 => ?_
  obtain ⟨ds1, hx1⟩ := Box.lst hb1
  obtain ⟨ds2, hx2⟩ := Box.lst hb2
  obtain ⟨ds3, hx3⟩ := Box.lst hb3
  have qx : q ≠ x := fun e => by rw [e, hx1] at nq; cases nq
  have qx' : q' ≠ x := fun e => by rw [e, hx2] at nq'; cases nq'
  have k2 : Kp x l1 l2 := fun y o ne e => (o2 y ne (fun z => by rw [z, nq] at e; cases e)).trans e
  have k3 : Kp x l2 l3 := fun y o ne e => (o3 y ne (fun z => by rw [z, nq'] at e; cases e)).trans e
  have G3 := k3.gnd (k2.gnd G hx1) hx2
  have hq : l3 q = some (.lst (ns.map D.int)) := k3 q _ qx hq2
  walk_at "w"
  walk_at "s"
  refine ⟨_, rfl, ?_⟩
  walk_at "w"
  refine ⟨_, rfl, ?_⟩
  walk_at "w"
  refine ⟨_, rfl, ?_⟩
  walk_at "w"
  refine ⟨by show 1 ≤ sizeLine; decide, ?_⟩
  walk_at "w"
  rw [lb, Int.toNat_natCast]
  refine ⟨⟨by omega, by omega, small (by rw [List.length_singleton]; omega)⟩, ?_⟩
  have e0 : (List.replicate (turnsG a d).length [D.int 0]).flatten = (List.replicate (turnsG a d).length (0 : Int)).map D.int := by rw [List.map_replicate]; simp
  rw [e0]
  walk_at "w"
  refine ⟨by show 4 ≤ sizeLine; decide, ?_⟩
  walk_at "w"
  refine right_body gd G3 (.inl ⟨q, rfl, hq⟩) fun e8 e9 => ?_
  walk_at "w"
  refine right_body gd G3 (.inl ⟨q', rfl, hq3⟩) fun e8 e9 => ?_
  walk_at "w"
  refine right_body gd G3 (.inl ⟨q, rfl, hq⟩) fun e8 e9 => ?_
  walk_at "w"
  refine right_body gd G3 (.inr rfl) fun e8 e9 => ?_
  walk_at "w"
  walk_at "s"
  refine ⟨_, rfl, ?_⟩
  walk_at "w"
  rw [lb]
  refine c_take hb3 (by omega) (by omega) (by omega) fun i l4 i0 i1 hb4 o4 => ?_
  obtain ⟨j, rfl⟩ := Int.eq_ofNat_of_zero_le i0
  have hj : j < ns.length := by omega
  have G4 := G3.oth o4 hx3
  have hq4 : l4 q = some (.lst (ns.map D.int)) := (o4 q qx).trans hq
  obtain ⟨ds4, hx4⟩ := Box.lst hb4
  walk_at "w"
  walk_at "s"
  refine ⟨rdS g b c, G4.bor gd, _, hq4, G4.apart hq4, simp_ints ns, ?_⟩
  refine (show ∀ run : DSt → Unit → Prop, run [some (.ref x), some (.bl f), some (.ref g), some (.int a), some (.int d), some (.lst (brD a d)), some (.lst [.ref q, .ref q']), some (.lst (ns.map D.int)), e8, e9, some (.int j), none, none] () → borS l4 (rdS g b c) run () [] ([some (.ref x), some (.bl f), some (.ref g), some (.int a), some (.int d), some (.lst (brD a d)), some (.lst [.ref q, .ref q']), some (.ref q), e8, e9, some (.int j), none, none].set 7 (some (.lst (ns.map D.int)))) from fun _ h => h) _ ?_
  refine told_ne gd G4.st ?_
  refine ⟨fun y hy => stL_in hy, ?_⟩
  refine ifB_false ?_
  walk_at "w"
  walk_at "s"
  have hv : (ns.map D.int)[j]? = some (.int ns[j]) := by rw [List.getElem?_map, List.getElem?_eq_getElem hj]; rfl
  refine ⟨_, hq4, _, atI_nat hv, ?_⟩
  walk_at "w"
  refine c_take hb4 (by decide) (by decide) (by omega) fun t l5 t0 t1 hb5 o5 => ?_
  walk_at "w"
  refine ⟨mulL (by decide) (by decide), ?_⟩
  walk_at "w"
  have hq5 : l5 q = some (.lst (ns.map D.int)) := (o5 q qx).trans hq4
  refine ⟨_, hq5, j, by rw [List.length_map]; unfold ixN; rw [if_pos (by omega)]; simpa using hj, ?_⟩
  rw [← List.map_set]
  have G5 := G4.oth o5 hx4
  have ap := G5.apart hq5
  have G6 : GndAt (uL l5 q (.lst ((ns.set j (ns[j] + 1 - 2 * t)).map D.int))) g b c a d [] [] := G5.oth (fun y hy => uL_ne hy) hq5
  generalize ns.set j (ns[j] + 1 - 2 * t) = us at G6
  walk_at "w"
  walk_at "s"
  refine ⟨rdS g b c, G6.bor gd, _, uL_same, ap, simp_ints us, ?_⟩
  generalize uL l5 q (.lst (us.map D.int)) = l6 at G6
  refine (show ∀ run : DSt → Unit → Prop, run [some (.ref x), some (.bl f), some (.ref g), some (.int a), some (.int d), some (.lst (brD a d)), some (.lst [.ref q, .ref q']), some (.lst (us.map D.int)), e8, e9, some (.int j), none, none] () → borS l6 (rdS g b c) run () [] ([some (.ref x), some (.bl f), some (.ref g), some (.int a), some (.int d), some (.lst (brD a d)), some (.lst [.ref q, .ref q']), some (.ref q), e8, e9, some (.int j), none, none].set 7 (some (.lst (us.map D.int)))) from fun _ h => h) _ ?_
  refine told_eq gd G6.st ?_
  exact ⟨fun y hy => stL_in hy, rfl, h _⟩
theorem law_loop {cells : List Int} {e0 : Option D} : ∀ (ds : List D) {e2 : Option D} {l : LH} {Q : List D → LH → Prop}, (∀ d ∈ ds, ∃ j : Int, d = .int j ∧ 0 ≤ j ∧ j < 1000) → (∀ l', Q ((ds.map fun _ => true).map D.bl) l') →
    compL (gName 2) tYes (nE C_law_1) [2] ds [e0, some (.lst (cells.map D.int)), e2] l Q
  | [], e2, l, Q, _, hq => hq l
  | d :: ds, e2, l, Q, hd, hq => by
    obtain ⟨j, rfl, j0, j1⟩ := hd d List.mem_cons_self
    walk_at "w"
    refine ifB_true ?_
    walk_at "w"
    walk_at "s"
    refine c_box cells j l _ j0 j1 fun a l1 _ hb _ => ?_
    walk_at "w"
    refine ⟨(okN_int _).ok, (okN_int _).ok, ?_⟩
    rw [eqD_int]
    refine c_right hb (by decide) fun l2 => ?_
    exact law_loop ds (fun e he => hd e (List.mem_cons_of_mem _ he)) fun l' => hq l'
theorem law_true (ns : List Int) (hl : ns.length ≤ 63) : D_law [.scr ns] (fun _ => none) fun d _ => d = .bl true := by
  refine ⟨rfl, ?_⟩
  walk_at "w"
  refine c_folded ns 4 (by decide) (by decide) hl _ _ fun cs hc => ?_
  walk_at "w"
  walk_at "s"
  have hm : ∀ m : Int, 0 ≤ m → m ≤ 63 → ((-(2 ^ 62) ≤ m ∧ m < 2 ^ 62) ∧ (rgD 0 m.toNat).length ≤ sizeLine ∧ compL (gName 2) tYes (nE C_law_1) [2] (rgD 0 m.toNat) [some (.scr ns), some (.lst (cs.map D.int)), none] (fun _ => none) fun rs l2 => dCall kAll (aCons (dC (.lst rs)) aNil) [] l2 fun d _ => d = .bl true) := by
    intro m m0 m1
    have hlen : (rgD 0 m.toNat).length = m.toNat := by unfold rgD; rw [List.length_map, List.length_range]
    refine ⟨⟨by omega, by omega⟩, by rw [hlen]; exact small (by omega), law_loop _ (fun d hd => ?_) fun l' => ?_⟩
    · obtain ⟨i, hi, rfl⟩ := List.mem_map.mp hd
      have := List.mem_range.mp hi
      exact ⟨_, rfl, by omega, by omega⟩
    · exact ⟨_, rfl, by simp⟩
  exact hm _ (by split <;> omega) (by rw [List.length_map]; split <;> omega)

end Law

open PySem PySem.W PyProof.Rows
set_option maxHeartbeats 0 in
theorem PySem.Challenge.cw_bracketwords_k25_rows_spelled_holds : PySem.Challenge.rw_bracketwords_k25_rows_spelled.Holds := by
  w_on; o_law; k_head; (case hw => w_witness2)
  k_fill
  refine DL.walk_ofG (l := PySem.Challenge.rw_bracketwords_k25_rows_spelled) (n := 63) (k := 16) (x := "_law_script") (dsp := Law.D_law) rfl (by decide) rfl ⟨rfl, by decide, by decide⟩ (fun w h Y => PySem.W.kIn_of Y) ?F (fun ns hl => Law.law_true ns hl)
  case F =>
    intro w mg fa h KX G hmg
    refine' Law.all_mk KX G hmg ?ca0 ?cp0 ?ch0 ?co0 ?cs0 ?cm0 ?ck0 ?cn0x0 ?cn0x1 ?cn0x2 ?cn0x3 ?cn0x4 ?xa0 ?xa1 ?xa2 ?xa3 ?xa4 ?xa5 ?xa6 ?xa7 ?xa8 ?xa9 ?xa10 ?xa11 ?xa12 ?xr0 ?xk0 ?xs0 ?xt0 ?ib0 ?ic0 ?id0 ?ie0 ?if0 ?ig0 ?ih0 ?xm0 ?xi0 ?xi1 ?xi2 ?xi3 ?a0 ?l0 ?c0 ?k0 ?a1 ?l1 ?c1 ?k1 ?a2 ?l2 ?c2 ?k2 ?a3 ?l3 ?c3 ?k3 ?a4 ?l4 ?c4 ?k4 ?a5 ?i5 ?l5 ?c5 ?k5 ?a6 ?l6 ?c6 ?k6 ?a7 ?i7 ?l7 ?c7 ?k7 ?a8 ?i8 ?l8 ?c8 ?k8 ?a9 ?i9 ?l9 ?c9 ?k9 ?a10 ?l10 ?c10 ?k10 ?a11 ?l11 ?c11 ?k11 ?a12 ?l12 ?c12 ?k12 ?a13 ?i13 ?l13 ?c13 ?k13 ?a14 ?l14 ?c14 ?k14 ?a15 ?l15 ?c15 ?k15 ?a16 ?i16 ?l16 ?c16 ?k16 ?a17 ?l17 ?c17 ?k17 ?a18 ?l18 ?c18 ?k18 ?a19 ?l19 ?c19 ?k19 ?a20 ?l20 ?c20 ?k20 ?a21 ?l21 ?c21 ?k21 ?a22 ?l22 ?c22 ?k22 ?a23 ?l23 ?c23 ?k23 ?a24 ?l24 ?c24 ?k24 ?a25 ?l25 ?c25 ?k25 ?a26 ?l26 ?c26 ?k26 ?a27 ?l27 ?c27 ?k27 ?y0 ?v0 ?v1 ?v2 ?v3 ?z0 ?z1 ?z2 ?z3 ?z4 ?z5 ?z6 ?z7 ?z8 ?z9 ?z10 ?z11 ?z12 ?z13 ?z14
    (case ca0 => k_is); (case cp0 => k_is); (case ch0 => k_is); (case co0 => k_is); (case cs0 => k_is); (case cm0 => k_is); (case ck0 => k_is); (case cn0x0 => k_is); (case cn0x1 => k_is); (case cn0x2 => k_is); (case cn0x3 => k_is); (case cn0x4 => k_is); (case xa0 => k_is); (case xa1 => k_is); (case xa2 => k_is); (case xa3 => k_is); (case xa4 => k_is); (case xa5 => k_is); (case xa6 => k_is); (case xa7 => k_is); (case xa8 => k_is); (case xa9 => k_is); (case xa10 => k_is); (case xa11 => k_is); (case xa12 => k_is); (case xr0 => k_exc); (case xk0 => k_is); (case xs0 => k_is); (case xt0 => k_is); (case ib0 => k_is); (case ic0 => k_is); (case id0 => k_is); (case ie0 => k_is); (case if0 => k_is); (case ig0 => k_is); (case ih0 => k_is); (case xm0 => kts_exm); (case xi0 => kit_is); (case xi1 => kit_is); (case xi2 => kit_is); (case xi3 => kit_is); (case a0 => k_is); (case l0 => k_is); (case c0 => k_is); (case k0 => k_is); (case a1 => k_is); (case l1 => k_is); (case c1 => k_is); (case k1 => k_is); (case a2 => k_is); (case l2 => k_is); (case c2 => k_is); (case k2 => k_is); (case a3 => k_is); (case l3 => k_is); (case c3 => k_is); (case k3 => k_is); (case a4 => k_is); (case l4 => k_is); (case c4 => k_is); (case k4 => k_is); (case a5 => k_is); (case i5 => k_is); (case l5 => k_is); (case c5 => k_is); (case k5 => k_is); (case a6 => k_is); (case l6 => k_is); (case c6 => k_is); (case k6 => k_is); (case a7 => k_is); (case i7 => k_is); (case l7 => k_is); (case c7 => k_is); (case k7 => k_is); (case a8 => k_is); (case i8 => k_is); (case l8 => k_is); (case c8 => k_is); (case k8 => k_is); (case a9 => k_is); (case i9 => k_is); (case l9 => k_is); (case c9 => k_is); (case k9 => k_is); (case a10 => k_is); (case l10 => k_is); (case c10 => k_is); (case k10 => k_is); (case a11 => k_is); (case l11 => k_is); (case c11 => k_is); (case k11 => k_is); (case a12 => k_is); (case l12 => k_is); (case c12 => k_is); (case k12 => k_is); (case a13 => k_is); (case i13 => k_is); (case l13 => k_is); (case c13 => k_is); (case k13 => k_is); (case a14 => k_is); (case l14 => k_is); (case c14 => k_is); (case k14 => k_is); (case a15 => k_is); (case l15 => k_is); (case c15 => k_is); (case k15 => k_is); (case a16 => k_is); (case i16 => k_is); (case l16 => k_is); (case c16 => k_is); (case k16 => k_is); (case a17 => k_is); (case l17 => k_is); (case c17 => k_is); (case k17 => k_is); (case a18 => k_is); (case l18 => k_is); (case c18 => k_is); (case k18 => k_is); (case a19 => k_is); (case l19 => k_is); (case c19 => k_is); (case k19 => k_is); (case a20 => k_is); (case l20 => k_is); (case c20 => k_is); (case k20 => k_is); (case a21 => k_is); (case l21 => k_is); (case c21 => k_is); (case k21 => k_is); (case a22 => k_is); (case l22 => k_is); (case c22 => k_is); (case k22 => k_is); (case a23 => k_is); (case l23 => k_is); (case c23 => k_is); (case k23 => k_is); (case a24 => k_is); (case l24 => k_is); (case c24 => k_is); (case k24 => k_is); (case a25 => k_is); (case l25 => k_is); (case c25 => k_is); (case k25 => k_is); (case a26 => k_is); (case l26 => k_is); (case c26 => k_is); (case k26 => k_is); (case a27 => k_is); (case l27 => k_is); (case c27 => k_is); (case k27 => k_is); (case y0 => k_is); (case v0 => k_is); (case v1 => k_is); (case v2 => k_is); (case v3 => k_is); (case z0 => k_is); (case z1 => k_is); (case z2 => k_is); (case z3 => k_is); (case z4 => k_is); (case z5 => k_is); (case z6 => k_is); (case z7 => k_is); (case z8 => k_is); (case z9 => k_is); (case z10 => k_is); (case z11 => k_is); (case z12 => k_is); (case z13 => k_is); (case z14 => k_is)
