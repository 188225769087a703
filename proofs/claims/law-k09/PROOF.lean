import PyProof.Rows.All
import HandS.ForMost
import HandS.Exc
import HandS.ExcOwn
import HandS.WordsExc
import HandS.TupAny
import HandS.IsInst
import HandS.Deep
import HandS.Zip
import HandS.Rev
import HandS.SetFor
import HandS.Strs
import HandS.TupSets
import HandS.Lambda
import KE.KDflt
import HandS.CallSlots
import KE.DataEq
import KE.DataCmp
import KE.DataFind
import KE.SortData
import HandS.Star
import HandS.Codes
import HandS.Defaults
import KE.GoesNew
import KE.GoesMore
import HandS.RevRange
import HandS.More
import HandS.SortInts
import HandS.RaiseMore
import HandS.TupLe
import HandS.Ends
import PyProof.TupleOfSeq
import HandS.Small
import KE.KDictCopyH
import KE.KDictDisplayH
import KE.KDictOf
import HandS.Conv
import HandS.Style
import KE.DataMinMax
import KE.KEqDict
import KE.KDictSum
import HandS.NoneIn
import HandS.TryOnly
import PyProof.ExcBaseAll.ValueError
import HandS.DictComp
import HandS.Wide
import HandS.Nested
import HandS.SortKw
import KE.SortKeyHeap
import KE.GoesCell
import HandS.Sort
import HandS.TupLen
import HandS.WideBits
import HandS.TupMul
import KE.GoesComp2
import HandS.StrMore
import KE.KExcSuper
import KE.KSuper
import HandS.ExcInit
import HandS.ExcSuper
import HandS.ExcField
import HandS.TryMany
import HandS.ExcIs
import PyProof.InstEq
import KE.KDictPairs
import HandS.SetBool
import KE.KIndexOf
import PyProof.NeKinds
import KE.KNestM
import HandS.EndTab
import PySem.Challenge.RW_sturdysort_k09_words_refused
set_option Elab.async false
set_option linter.all false
set_option maxRecDepth 100000
set_option maxHeartbeats 0
namespace DL
open PySem PySem.Spec PyProof.Rows L2
/-- a lambda: its parameters, its body, its names, its name; the name of its one parameter, if it has one -/
structure LamI where
  ps : Arguments
  bd : Expr
  sc : Scope
  qn : Str
  df : Option Str
/-- the function object of a lambda (the code object at c', the cells of cl) -/
def CloO (f : Addr) (i : LamI) (cl : List (Str × Addr)) (c' : Addr) : HO := .ext fun h => ∃ pm ctv, h.get? f = some (PySem.W.kla_obj "<lambda>" i.qn i.ps i.bd i.sc (cloFrom cl i.sc.names []) pm c' ctv)
/-- .. of a lambda with one default, the tuple of it at D0 -/
def CloD (f : Addr) (i : LamI) (cl : List (Str × Addr)) (c' D0 : Addr) : HO := .ext fun h => ∃ doc pm ctv, h.get? f = some (PySem.W.kdv_obj "<lambda>" i.qn i.ps (.expr i.bd) i.sc (cloFrom cl i.sc.names []) (.ref D0) doc pm c' ctv)

inductive D where
  | non | bl (b : Bool) | int (i : Int) | str (x : Str) | ty (n : String) | fn (a : Addr)
  | tup (xs : List D) | ktp (xs : List D) | lst (xs : List D) | dct (kvs : List (D × D)) | dcT (kvs : List (D × D)) | set (xs : List D) | scr (ns : List Int) | ins (c : Addr) (fs : List (Str × D)) | stt (rows : List (List Int)) | clo (k : Nat) (i : LamI) (cl : List (Str × Addr))
instance : Inhabited D := ⟨.non⟩

def keyD : Key → D
  | .inl i => .int i
  | .inr x => .str x
def keyT (k : List Key) : D := .tup (k.map keyD)

/-- a tuple that stood before the run -/
def KTp (K : PySem.W.Frag) (a : Addr) (xs : List V) : Prop := ∃ (o : Obj) (its : Array Value) (n : Nat), K.lookup a = some o ∧ o.cls = .type "tuple" ∧ o.data = .seq its n ∧ its.size ≤ sizeLine ∧ Vals xs its.toList ∧ o.dict = none
theorem KTp.sq {K : PySem.W.Frag} {H : Hp} {a : Addr} {xs : List V} (h : KTp K a xs) : SqT K H a xs := by
  obtain ⟨o, its, n, h1, h2, h3, h4, h5, _⟩ := h
  exact .inr ⟨o, its, n, h1, h2, h3, h4, h5⟩
/-- a tuple whose whole object is known -/
def KTq (K : PySem.W.Frag) (F : Hp) (a : Addr) (xs : List V) : Prop := KTp K a xs ∨ ∃ o, F a = some (.frz o (.tup xs)) ∧ o.cls = .type "tuple" ∧ o.dict = none
theorem KTq.sq {K : PySem.W.Frag} {F H : Hp} {a : Addr} {xs : List V} (h : KTq K F a xs) (le : Same F H) : SqT K H a xs := by
  rcases h with h | ⟨o, h, _⟩
  · exact h.sq
  · exact .inl (.inr ⟨o, le _ _ h⟩)
theorem sqt {K : PySem.W.Frag} {F H : Hp} {a : Addr} {xs : List V} (le : Same F H) (h : F a = some (.tup xs)) : SqT K H a xs := .inl (.inl (le _ _ h))
mutual
inductive Rep (K : PySem.W.Frag) (F : Hp) : D → V → Prop
  | non : Rep K F .non .non
  | bl (b : Bool) : Rep K F (.bl b) (.bl b)
  | int (i : Int) : Rep K F (.int i) (.int i)
  | str (x : Str) : Rep K F (.str x) (.str x)
  | ty (n : String) : Rep K F (.ty n) (.ty n)
  | fn (a : Addr) : Rep K F (.fn a) (.ref a)
  | tup {a : Addr} {xs : List V} {ds : List D} (h : F a = some (.tup xs)) (r : Reps K F ds xs) : Rep K F (.tup ds) (.ref a)
  | ktp {a : Addr} {xs : List V} {ds : List D} (h : KTq K F a xs) (r : Reps K F ds xs) : Rep K F (.ktp ds) (.ref a)
  | lst {a : Addr} {xs : List V} {ds : List D} (h : F a = some (.lst xs)) (r : Reps K F ds xs) : Rep K F (.lst ds) (.ref a)
  | scr {a : Addr} {ns : List Int} (h : SqL K F a (ns.map V.int)) : Rep K F (.scr ns) (.ref a)
  | dK {a : Addr} {kvs : List (Key × V)} {kds : List (D × D)} (h : Rd F a (.dK kvs)) (r : RepK K F kds kvs) : Rep K F (.dct kds) (.ref a)
  | dT {a : Addr} {kvs : List (List Key × V)} {kds : List (D × D)} (h : Rd F a (.dT kvs)) (r : RepT K F kds kvs) : Rep K F (.dcT kds) (.ref a)
  | set {a : Addr} {S : Int → Bool} {ns : List Int} (h : Rd F a (.set S ns.length)) (nd : ns.Nodup) (r : ∀ k, S k = decide (k ∈ ns)) : Rep K F (.set (ns.map D.int)) (.ref a)
  | ins {a C dx : Addr} {fs : List (Str × V)} {kds : List (Str × D)} (h : F a = some (.ins C dx fs)) (r : RepF K F kds fs) : Rep K F (.ins C kds) (.ref a)
  | stt {a : Addr} {P : Program} {w : World} {L : List (Addr × List Int)} {rows : List (List Int)} (h : F a = some (SetTO P w a L)) (hr : (L.map (·.2)).Perm rows) (nd : rows.Nodup) (ht : ∀ p ∈ L, F p.1 = some (.tup (p.2.map V.int))) : Rep K F (.stt rows) (.ref a)
  | clo {f c' : Addr} {k : Nat} {i : LamI} {cl : List (Str × Addr)} (n : i.df = none) (h : F f = some (CloO f i cl c')) (hc : F c' = some (LamX.CodeO c' i.qn)) : Rep K F (.clo k i cl) (.ref f)
  | cld {f c' D0 : Addr} {k : Nat} {i : LamI} {cl : List (Str × Addr)} {b : Str} (n : i.df = some b) (h : F f = some (CloD f i cl c' D0)) (hc : F c' = some (LamX.CodeO c' i.qn)) (hD : F D0 = some (.tup [.int 0])) : Rep K F (.clo k i cl) (.ref f)
inductive Reps (K : PySem.W.Frag) (F : Hp) : List D → List V → Prop
  | nil : Reps K F [] []
  | cons {d : D} {v : V} {ds : List D} {vs : List V} (h : Rep K F d v) (t : Reps K F ds vs) : Reps K F (d :: ds) (v :: vs)
inductive RepK (K : PySem.W.Frag) (F : Hp) : List (D × D) → List (Key × V) → Prop
  | nil : RepK K F [] []
  | cons {k : Key} {d : D} {v : V} {ds : List (D × D)} {vs : List (Key × V)} (h : Rep K F d v) (t : RepK K F ds vs) : RepK K F ((keyD k, d) :: ds) ((k, v) :: vs)
inductive RepT (K : PySem.W.Frag) (F : Hp) : List (D × D) → List (List Key × V) → Prop
  | nil : RepT K F [] []
  | cons {k : List Key} {d : D} {v : V} {ds : List (D × D)} {vs : List (List Key × V)} (h : Rep K F d v) (t : RepT K F ds vs) : RepT K F ((keyT k, d) :: ds) ((k, v) :: vs)
inductive RepF (K : PySem.W.Frag) (F : Hp) : List (Str × D) → List (Str × V) → Prop
  | nil : RepF K F [] []
  | cons {x : Str} {d : D} {v : V} {ds : List (Str × D)} {vs : List (Str × V)} (h : Rep K F d v) (t : RepF K F ds vs) : RepF K F ((x, d) :: ds) ((x, v) :: vs)
end

/-- what is read stays to be read; lists stand as they stood -/
structure Keeps (F F' : Hp) : Prop where
  rd : ∀ a u, Rd F a u → Rd F' a u
  ls : ∀ a xs, F a = some (.lst xs) → F' a = some (.lst xs)
  tp : ∀ a xs, F a = some (.tup xs) → F' a = some (.tup xs)
  iN : ∀ a C dx fs, F a = some (.ins C dx fs) → F' a = some (.ins C dx fs)
  eX : ∀ a φ, F a = some (.ext φ) → F' a = some (.ext φ)
  fz : ∀ a o xs, F a = some (.frz o (.tup xs)) → F' a = some (.frz o (.tup xs))
theorem KTq.keep {K : PySem.W.Frag} {F F' : Hp} {a : Addr} {xs : List V} (k : ∀ a o xs, F a = some (.frz o (.tup xs)) → F' a = some (.frz o (.tup xs))) (h : KTq K F a xs) : KTq K F' a xs := h.imp id fun ⟨o, h, c⟩ => ⟨o, k _ _ _ h, c⟩
theorem Keeps.of_same {F F' : Hp} (h : Same F F') : Keeps F F' := ⟨fun a u r => by
  rcases r with r | ⟨o, r⟩
  · exact .inl (h _ _ r)
  · exact .inr ⟨o, h _ _ r⟩, fun a xs r => h _ _ r, fun a xs r => h _ _ r, fun _ _ _ _ r => h _ _ r, fun _ _ r => h _ _ r, fun _ _ _ r => h _ _ r⟩
theorem Keeps.sqL {K : PySem.W.Frag} {F F' : Hp} {a : Addr} {xs : List V} (k : Keeps F F') (h : SqL K F a xs) : SqL K F' a xs := h.imp (k.rd _ _) id

mutual
theorem Rep.keep {K : PySem.W.Frag} {F F' : Hp} (k : Keeps F F') : ∀ {d : D} {v : V}, Rep K F d v → Rep K F' d v
  | _, _, .non => .non
  | _, _, .bl b => .bl b
  | _, _, .int i => .int i
  | _, _, .str x => .str x
  | _, _, .ty n => .ty n
  | _, _, .fn a => .fn a
  | _, _, .tup h r => .tup (k.tp _ _ h) (Reps.keep k r)
  | _, _, .ktp h r => .ktp (h.keep k.fz) (Reps.keep k r)
  | _, _, .lst h r => .lst (k.ls _ _ h) (Reps.keep k r)
  | _, _, .scr h => .scr (k.sqL h)
  | _, _, .dK h r => .dK (k.rd _ _ h) (RepK.keep k r)
  | _, _, .dT h r => .dT (k.rd _ _ h) (RepT.keep k r)
  | _, _, .set h nd r => .set (k.rd _ _ h) nd r
  | _, _, .ins h r => .ins (k.iN _ _ _ _ h) (RepF.keep k r)
  | _, _, .stt h hr nd ht => .stt (k.eX _ _ h) hr nd fun p hp => k.tp _ _ (ht p hp)
  | _, _, .clo n h hc => .clo n (k.eX _ _ h) (k.eX _ _ hc)
  | _, _, .cld n h hc hD => .cld n (k.eX _ _ h) (k.eX _ _ hc) (k.tp _ _ hD)
theorem Reps.keep {K : PySem.W.Frag} {F F' : Hp} (k : Keeps F F') : ∀ {d : List D} {v : List V}, Reps K F d v → Reps K F' d v
  | _, _, .nil => .nil
  | _, _, .cons h t => .cons (Rep.keep k h) (Reps.keep k t)
theorem RepK.keep {K : PySem.W.Frag} {F F' : Hp} (k : Keeps F F') : ∀ {d : List (D × D)} {v : List (Key × V)}, RepK K F d v → RepK K F' d v
  | _, _, .nil => .nil
  | _, _, .cons h t => .cons (Rep.keep k h) (RepK.keep k t)
theorem RepT.keep {K : PySem.W.Frag} {F F' : Hp} (k : Keeps F F') : ∀ {d : List (D × D)} {v : List (List Key × V)}, RepT K F d v → RepT K F' d v
  | _, _, .nil => .nil
  | _, _, .cons h t => .cons (Rep.keep k h) (RepT.keep k t)
theorem RepF.keep {K : PySem.W.Frag} {F F' : Hp} (k : Keeps F F') : ∀ {d : List (Str × D)} {v : List (Str × V)}, RepF K F d v → RepF K F' d v
  | _, _, .nil => .nil
  | _, _, .cons h t => .cons (Rep.keep k h) (RepF.keep k t)
end
theorem Rep.same {K : PySem.W.Frag} {F F' : Hp} (k : Same F F') {d : D} {v : V} (h : Rep K F d v) : Rep K F' d v := h.keep (.of_same k)
theorem Reps.same {K : PySem.W.Frag} {F F' : Hp} (k : Same F F') {d : List D} {v : List V} (h : Reps K F d v) : Reps K F' d v := h.keep (.of_same k)
theorem Reps.length {K : PySem.W.Frag} {F : Hp} : ∀ {ds : List D} {vs : List V}, Reps K F ds vs → ds.length = vs.length
  | _, _, .nil => rfl
  | _, _, .cons _ t => by simp [Reps.length t]
theorem Reps.get {K : PySem.W.Frag} {F : Hp} : ∀ {ds : List D} {vs : List V} {i : Nat} {d : D}, Reps K F ds vs → ds[i]? = some d → ∃ v, vs[i]? = some v ∧ Rep K F d v
  | _, _, _, _, .nil, h => by simp at h
  | _, _, 0, _, .cons h _, e => by simp at e; subst e; exact ⟨_, rfl, h⟩
  | _, _, i + 1, d, .cons _ t, e => by
    obtain ⟨v, h1, h2⟩ := Reps.get (i := i) (d := d) t (by simpa using e)
    exact ⟨v, by simpa using h1, h2⟩
theorem Reps.append {K : PySem.W.Frag} {F : Hp} : ∀ {ds es : List D} {vs ws : List V}, Reps K F ds vs → Reps K F es ws → Reps K F (ds ++ es) (vs ++ ws)
  | _, _, _, _, .nil, s => s
  | _, _, _, _, .cons r t, s => .cons r (Reps.append t s)
theorem Reps.take {K : PySem.W.Frag} {F : Hp} : ∀ {ds : List D} {vs : List V} (n : Nat), Reps K F ds vs → Reps K F (ds.take n) (vs.take n)
  | _, _, 0, _ => .nil
  | _, _, _ + 1, .nil => .nil
  | _, _, n + 1, .cons r t => .cons r (Reps.take n t)
theorem Reps.drop {K : PySem.W.Frag} {F : Hp} : ∀ {ds : List D} {vs : List V} (n : Nat), Reps K F ds vs → Reps K F (ds.drop n) (vs.drop n)
  | _, _, 0, r => r
  | _, _, _ + 1, .nil => .nil
  | _, _, n + 1, .cons _ t => Reps.drop n t
theorem Reps.set {K : PySem.W.Frag} {F : Hp} : ∀ {ds : List D} {vs : List V} {d : D} {v : V} (i : Nat), Reps K F ds vs → Rep K F d v → Reps K F (ds.set i d) (vs.set i v)
  | _, _, _, _, _, .nil, _ => .nil
  | _, _, _, _, 0, .cons _ t, h => .cons h t
  | _, _, _, _, i + 1, .cons r t, h => .cons r (Reps.set i t h)
theorem Reps.dropLast {K : PySem.W.Frag} {F : Hp} {ds : List D} {vs : List V} (h : Reps K F ds vs) : Reps K F ds.dropLast vs.dropLast := by
  rw [List.dropLast_eq_take, List.dropLast_eq_take, h.length]
  exact h.take _
theorem Reps.reverse {K : PySem.W.Frag} {F : Hp} : ∀ {ds : List D} {vs : List V}, Reps K F ds vs → Reps K F ds.reverse vs.reverse
  | _, _, .nil => .nil
  | _, _, .cons r t => by
    rw [List.reverse_cons, List.reverse_cons]
    exact Reps.append (Reps.reverse t) (.cons r .nil)
theorem Reps.ints {K : PySem.W.Frag} {F : Hp} : ∀ {ns : List Int} {vs : List V}, Reps K F (ns.map D.int) vs → vs = ns.map V.int
  | [], _, .nil => rfl
  | _ :: _, _, .cons (.int _) t => by rw [List.map_cons, Reps.ints t]
theorem Reps.of_ints {K : PySem.W.Frag} {F : Hp} : ∀ (ns : List Int), Reps K F (ns.map D.int) (ns.map V.int)
  | [] => .nil
  | _ :: r => .cons (.int _) (Reps.of_ints r)

/-! ### own objects, slots, states -/
/-- an object at a that is one's own -/
inductive OwnR (K : PySem.W.Frag) (F H : Hp) : D → Addr → Prop
  | lst {a : Addr} {xs : List V} {ds : List D} (h : H a = some (.lst xs)) (r : Reps K F ds xs) : OwnR K F H (.lst ds) a
  | dK {a : Addr} {kvs : List (Key × V)} {kds : List (D × D)} (h : H a = some (.dK kvs)) (r : RepK K F kds kvs) : OwnR K F H (.dct kds) a
  | dT {a : Addr} {kvs : List (List Key × V)} {kds : List (D × D)} (h : H a = some (.dT kvs)) (r : RepT K F kds kvs) : OwnR K F H (.dcT kds) a
  | set {a : Addr} {S : Int → Bool} {ns : List Int} (h : H a = some (.set S ns.length)) (nd : ns.Nodup) (r : ∀ k, S k = decide (k ∈ ns)) : OwnR K F H (.set (ns.map D.int)) a
  | ins {a C dx : Addr} {fs : List (Str × V)} {kds : List (Str × D)} (h : H a = some (.ins C dx fs)) (r : RepF K F kds fs) : OwnR K F H (.ins C kds) a
theorem OwnR.rep {K : PySem.W.Frag} {F F' H : Hp} {d : D} {a : Addr} (k : Same F F') (e : F' a = H a) (h : OwnR K F H d a) : Rep K F' d (.ref a) := by
  cases h with
  | lst h r => exact .lst (e.trans h) (r.same k)
  | dK h r => exact .dK (.inl (e.trans h)) (r.keep (.of_same k))
  | dT h r => exact .dT (.inl (e.trans h)) (r.keep (.of_same k))
  | set h nd r => exact .set (.inl (e.trans h)) nd r
  | ins h r => exact .ins (e.trans h) (r.keep (.of_same k))
theorem OwnR.same {K : PySem.W.Frag} {F F' H H' : Hp} {d : D} {a : Addr} (k : Same F F') (e : H' a = H a) (h : OwnR K F H d a) : OwnR K F' H' d a := by
  cases h with
  | lst h r => exact .lst (e.trans h) (r.same k)
  | dK h r => exact .dK (e.trans h) (r.keep (.of_same k))
  | dT h r => exact .dT (e.trans h) (r.keep (.of_same k))
  | set h nd r => exact .set (e.trans h) nd r
  | ins h r => exact .ins (e.trans h) (r.keep (.of_same k))
/-- an object that can be written -/
def Wr : HO → Prop
  | .lst _ => True
  | .dK _ => True
  | .dT _ => True
  | .set _ _ => True
  | .ins _ _ _ => True
  | .ext p => ∀ (c : Addr) (q : Str), HO.ext p ≠ LamX.CodeO c q
  | _ => False
theorem OwnR.wr {K : PySem.W.Frag} {F H : Hp} {d : D} {a : Addr} (h : OwnR K F H d a) : ∃ o, H a = some o ∧ Wr o := by
  cases h with
  | lst h r => exact ⟨_, h, trivial⟩
  | dK h r => exact ⟨_, h, trivial⟩
  | dT h r => exact ⟨_, h, trivial⟩
  | set h nd r => exact ⟨_, h, trivial⟩
  | ins h r => exact ⟨_, h, trivial⟩

/-- a slot: not bound; a value; an object of one's own; a borrowed object -/
inductive Slot where
  | und | val (d : D) | own (d : D) | bor (j : Nat)
instance : Inhabited Slot := ⟨.und⟩
structure En where
  s : List Slot
  b : List D

/-- a is the own object of some slot -/
def IsOwn (ss : List Slot) (σ : L2.St) (a : Addr) : Prop := ∃ (i : Nat) (d : D), ss[i]? = some (.own d) ∧ σ[i]? = some (some (.ref a))
def Hid (ss : List Slot) (σ : L2.St) (bs ex : List Addr) (a : Addr) : Prop := IsOwn ss σ a ∨ a ∈ bs ∨ a ∈ ex

/-- the tables of code objects, each with the name of the code objects in it -/
class TBs where
  tb : List (Addr × Str)
section
variable [TBs]
def TabOk (H : Hp) : Prop := LamX.Tabs TBs.tb H
/-- the heap without the tables -/
def msk (H : Hp) : Hp := fun a => match H a with
  | some (.tbl _) => none
  | o => o
theorem msk_at {H : Hp} {a : Addr} {o : HO} (h : H a = some o) (n : ∀ ps, o ≠ .tbl ps) : msk H a = some o := by
  unfold msk
  rw [h]
  cases o with
  | tbl ps => exact absurd rfl (n ps)
  | _ => rfl
theorem msk_no {H : Hp} {a : Addr} (h : H a = none) : msk H a = none := by unfold msk; rw [h]
theorem msk_some {H : Hp} {a : Addr} {o : HO} (h : msk H a = some o) : H a = some o ∧ ∀ ps, o ≠ .tbl ps := by
  cases q : H a with
  | none => rw [msk_no q] at h; cases h
  | some u =>
    have key : (∀ ps, u ≠ .tbl ps) → some u = some o ∧ ∀ ps, o ≠ .tbl ps := fun n => by
      rw [msk_at q n] at h
      cases h
      exact ⟨rfl, n⟩
    cases u with
    | tbl ps => unfold msk at h; rw [q] at h; cases h
    | _ => exact key fun _ z => by cases z
theorem msk_congr {H H' : Hp} {a : Addr} (h : H a = H' a) : msk H a = msk H' a := by unfold msk; rw [h]
theorem Wr.ntb {o : HO} (w : Wr o) (ps : Array Value) : o ≠ .tbl ps := fun z => by rw [z] at w; exact w
theorem OwnR.msk {K : PySem.W.Frag} {F H : Hp} {d : D} {a : Addr} (r : OwnR K F H d a) : DL.msk H a = H a := by
  obtain ⟨o, h1, h2⟩ := r.wr
  rw [msk_at h1 h2.ntb, h1]
/-- nothing but what can be written has changed -/
theorem TabOk.keep {H H' : Hp} (t : TabOk H) (k : ∀ b o, H b = some o → ¬ Wr o → H' b = some o) : TabOk H' := fun p hp => by
  obtain ⟨ps, h1, h2, h3⟩ := t p hp
  refine ⟨ps, k _ _ h1 id, h2, fun pos cv hc => ?_⟩
  obtain ⟨c, e1, e2⟩ := h3 pos cv hc
  exact ⟨c, e1, k _ _ e2 fun z => z _ _ rfl⟩
theorem TabOk.new {H : Hp} (t : TabOk H) {p : Addr} {o : HO} (h : H p = none) : TabOk (upd H p o) := t.keep fun b u e _ => by rw [upd_ne (ne_of_none e h)]; exact e
theorem TabOk.put {H : Hp} (t : TabOk H) {p : Addr} {o u : HO} (h : H p = some u) (w : Wr u) : TabOk (upd H p o) := t.keep fun b v e n => by
  rw [upd_ne]
  · exact e
  · rintro rfl
    rw [h] at e
    exact n (Option.some.inj e ▸ w)
structure StR (K : PySem.W.Frag) (bs ex : List Addr) (σ : L2.St) (H F : Hp) (e : En) : Prop where
  len : e.s.length = σ.length
  val : ∀ (i : Nat) (d : D), e.s[i]? = some (.val d) → ∃ v, σ[i]? = some (some v) ∧ Rep K F d v
  own : ∀ (i : Nat) (d : D), e.s[i]? = some (.own d) → ∃ a, σ[i]? = some (some (.ref a)) ∧ OwnR K F H d a
  bor : ∀ (i j : Nat), e.s[i]? = some (.bor j) → ∃ a, bs[j]? = some a ∧ σ[i]? = some (some (.ref a))
  inj : ∀ (i j : Nat) (d d' : D) (a : Addr), e.s[i]? = some (.own d) → e.s[j]? = some (.own d') → σ[i]? = some (some (.ref a)) → σ[j]? = some (some (.ref a)) → i = j
  out : ∀ a, IsOwn e.s σ a → a ∉ bs ∧ a ∉ ex
  hid : ∀ a, Hid e.s σ bs ex a → F a = none
  vis : ∀ a, ¬ Hid e.s σ bs ex a → F a = msk H a
  bl : e.b.length = bs.length
  br : ∀ (j : Nat) (d : D), e.b[j]? = some d → ∃ a, bs[j]? = some a ∧ OwnR K F H d a
  bn : bs.Nodup
  bx : ∀ a ∈ bs, a ∉ ex
  mu : ∀ a ∈ ex, ∃ o, H a = some o ∧ Wr o
  tb : TabOk H
end

section
variable [TBs]
variable {K : PySem.W.Frag} {bs ex : List Addr} {σ : L2.St} {H F : Hp} {e : En}
theorem StR.le (s : StR K bs ex σ H F e) : Same F H := fun a o h => by
  by_cases q : Hid e.s σ bs ex a
  · rw [s.hid a q] at h; cases h
  · rw [s.vis a q] at h; exact (msk_some h).1
/-- what is hidden is an object that can be written -/
theorem StR.wr (s : StR K bs ex σ H F e) {a : Addr} (h : Hid e.s σ bs ex a) : ∃ o, H a = some o ∧ Wr o := by
  rcases h with ⟨i, d, h1, h2⟩ | h | h
  · obtain ⟨b, h3, h4⟩ := s.own i d h1
    rw [h2] at h3; cases h3
    exact h4.wr
  · obtain ⟨j, hj⟩ := List.getElem?_of_mem h
    have : j < e.b.length := by rw [s.bl]; exact (List.getElem?_eq_some_iff.mp hj).1
    obtain ⟨b, h3, h4⟩ := s.br j _ (List.getElem?_eq_getElem this)
    rw [hj] at h3; cases h3
    exact h4.wr
  · exact s.mu a h
theorem StR.fresh (s : StR K bs ex σ H F e) {p : Addr} (h : H p = none) : ¬ Hid e.s σ bs ex p := fun q => by
  obtain ⟨o, h1, _⟩ := s.wr q
  rw [h] at h1; cases h1
theorem StR.visO (s : StR K bs ex σ H F e) {a : Addr} {o : HO} (nh : ¬ Hid e.s σ bs ex a) (h : H a = some o) (nt : ∀ ps, o ≠ .tbl ps) : F a = some o := (s.vis a nh).trans (msk_at h nt)
theorem StR.nhid (s : StR K bs ex σ H F e) {a : Addr} {o : HO} (h : H a = some o) (n : ¬ Wr o) : ¬ Hid e.s σ bs ex a := fun q => by
  obtain ⟨u, h1, h2⟩ := s.wr q
  rw [h] at h1; cases h1
  exact n h2
end

/-- the heap grows by one object at most -/
def Grow (F H F' H' : Hp) : Prop := (F' = F ∧ H' = H) ∨ ∃ p o, H p = none ∧ (∀ ps, o ≠ .tbl ps) ∧ H' = upd H p o ∧ F' = upd F p o
theorem same_upd {H : Hp} {p : Addr} {o : HO} (h : H p = none) : Same H (upd H p o) := fun b x e => by
  rw [upd_ne (ne_of_none e h)]; exact e
theorem Grow.same {F H F' H' : Hp} (le : Same F H) (g : Grow F H F' H') : Same F F' ∧ Same H H' := by
  rcases g with ⟨rfl, rfl⟩ | ⟨p, o, h, ht, rfl, rfl⟩
  · exact ⟨Same.refl _, Same.refl _⟩
  · exact ⟨same_upd (le.free h), same_upd h⟩

/-- what a piece of code leaves as it was -/
def Step (ex : List Addr) (H F H' F' : Hp) : Prop := Same F F' ∧ ∀ a ∈ ex, H' a = H a
theorem Step.refl (ex : List Addr) (H F : Hp) : Step ex H F H F := ⟨Same.refl _, fun _ _ => rfl⟩
theorem Step.trans {ex : List Addr} {H F H1 F1 H2 F2 : Hp} (a : Step ex H F H1 F1) (b : Step ex H1 F1 H2 F2) : Step ex H F H2 F2 := ⟨a.1.trans b.1, fun x hx => (b.2 x hx).trans (a.2 x hx)⟩

section
variable [TBs]
variable {K : PySem.W.Frag} {bs ex : List Addr} {σ : L2.St} {H F H' F' : Hp} {e : En}
theorem StR.grow (s : StR K bs ex σ H F e) (g : Grow F H F' H') : StR K bs ex σ H' F' e ∧ Step ex H F H' F' := by
  obtain ⟨k1, k2⟩ := g.same s.le
  rcases g with ⟨rfl, rfl⟩ | ⟨p, o, h, ht, rfl, rfl⟩
  · exact ⟨s, Step.refl _ _ _⟩
  · have np : ∀ a, Hid e.s σ bs ex a → a ≠ p := fun a q z => s.fresh h (z ▸ q)
    refine ⟨⟨s.len, fun i d q => ?_, fun i d q => ?_, s.bor, s.inj, s.out, fun a q => ?_, fun a q => ?_, s.bl, fun j d q => ?_, s.bn, s.bx, fun a ha => ?_, s.tb.new h⟩, k1, fun a ha => ?_⟩
    · obtain ⟨v, h1, h2⟩ := s.val i d q
      exact ⟨v, h1, h2.same k1⟩
    · obtain ⟨a, h1, h2⟩ := s.own i d q
      exact ⟨a, h1, h2.same k1 (upd_ne (np a (.inl ⟨i, d, q, h1⟩)))⟩
    · rw [upd_ne (np a q)]; exact s.hid a q
    · by_cases z : a = p
      · subst z; rw [upd_same, msk_at upd_same ht]
      · rw [upd_ne z, msk_congr (upd_ne z)]; exact s.vis a q
    · obtain ⟨a, h1, h2⟩ := s.br j d q
      exact ⟨a, h1, h2.same k1 (upd_ne (np a (.inr (.inl (List.mem_of_getElem? h1)))))⟩
    · obtain ⟨o', h1, h2⟩ := s.mu a ha
      exact ⟨o', by rw [upd_ne (np a (.inr (.inr ha)))]; exact h1, h2⟩
    · exact upd_ne (np a (.inr (.inr ha)))
end
section TBS
variable [TBs]
/-- what may leave, by the slots -/
abbrev SK := L2.St → XK
/-- the same at all slots -/
def sk (E : XK) : SK := fun _ => E
def ES0 : SK := sk E0

inductive Res (α : Type) where
  | ok (a : α) (e : En) | exc (c : Addr) (as : List D) (e : En) | stuck
abbrev Ef (α : Type) := En → Res α
def bnd {α β : Type} (f : Ef α) (g : α → Ef β) : Ef β := fun e => match f e with
  | .ok a e' => g a e'
  | .exc c as e' => .exc c as e'
  | .stuck => .stuck
def rtn {α : Type} (a : α) : Ef α := fun e => .ok a e
def stk {α : Type} : Ef α := fun _ => .stuck
def lift {α : Type} (o : Option α) : Ef α := fun e => match o with
  | some a => .ok a e
  | none => .stuck

/-- an exception's own dict -/
def ExcR (K : PySem.W.Frag) (F : Hp) (as : List D) (dx : Option Addr) : Prop := match as with
  | [] => dx = none
  | _ => ∃ d fs, dx = some d ∧ F d = some (.xd fs) ∧ Reps K F as (fs.flatMap fun q => [V.str q.1, q.2])

section
variable (K : PySem.W.Frag) (E : SK) (bs ex : List Addr)
def Post {α : Type} (σ : L2.St) (H F : Hp) (r : Res α) (P : α → En → Hp → Hp → Prop) : Prop := match r with
  | .ok a e' => ∀ H' F', StR K bs ex σ H' F' e' → Step ex H F H' F' → P a e' H' F'
  | .exc c as e' => ∀ dx H' F', StR K bs ex σ H' F' e' → Step ex H F H' F' → ExcR K F' as dx → E σ (.ref c) dx H'
  | .stuck => False
/-- behind a statement: the slots may have changed -/
def PostS {α : Type} (H F : Hp) (r : Res α) (P : α → En → L2.St → Hp → Hp → Prop) : Prop := match r with
  | .ok a e' => ∀ σ' H' F', StR K bs ex σ' H' F' e' → Step ex H F H' F' → P a e' σ' H' F'
  | .exc c as e' => ∀ σ' dx H' F', StR K bs ex σ' H' F' e' → Step ex H F H' F' → ExcR K F' as dx → E σ' (.ref c) dx H'
  | .stuck => False
end
section
variable {K : PySem.W.Frag} {E : SK} {bs ex : List Addr} {α β : Type} {σ : L2.St} {H F H1 F1 : Hp} {e : En}
theorem Post.shift {r : Res α} {P : α → En → Hp → Hp → Prop} (p : Post K E bs ex σ H F r P) (st : Step ex H F H1 F1) : Post K E bs ex σ H1 F1 r P := by
  cases r with
  | ok a e' => exact fun H' F' s t => p H' F' s (st.trans t)
  | exc c as e' => exact fun dx H' F' s t => p dx H' F' s (st.trans t)
  | stuck => exact p
theorem PostS.shift {r : Res α} {P : α → En → L2.St → Hp → Hp → Prop} (p : PostS K E bs ex H F r P) (st : Step ex H F H1 F1) : PostS K E bs ex H1 F1 r P := by
  cases r with
  | ok a e' => exact fun σ' H' F' s t => p σ' H' F' s (st.trans t)
  | exc c as e' => exact fun σ' dx H' F' s t => p σ' dx H' F' s (st.trans t)
  | stuck => exact p
theorem Post.imp {r : Res α} {P P' : α → En → Hp → Hp → Prop} (p : Post K E bs ex σ H F r P) (h : ∀ a e' H' F', r = .ok a e' → StR K bs ex σ H' F' e' → Step ex H F H' F' → P a e' H' F' → P' a e' H' F') : Post K E bs ex σ H F r P' := by
  cases r with
  | ok a e' => exact fun H' F' s t => h a e' H' F' rfl s t (p H' F' s t)
  | exc c as e' => exact p
  | stuck => exact p
theorem PostS.imp {r : Res α} {P P' : α → En → L2.St → Hp → Hp → Prop} (p : PostS K E bs ex H F r P) (h : ∀ a e' σ' H' F', r = .ok a e' → StR K bs ex σ' H' F' e' → Step ex H F H' F' → P a e' σ' H' F' → P' a e' σ' H' F') : PostS K E bs ex H F r P' := by
  cases r with
  | ok a e' => exact fun σ' H' F' s t => h a e' σ' H' F' rfl s t (p σ' H' F' s t)
  | exc c as e' => exact p
  | stuck => exact p
theorem Post.bnd {f : Ef α} {g : α → Ef β} {P : β → En → Hp → Hp → Prop} (p : Post K E bs ex σ H F (DL.bnd f g e) P) : Post K E bs ex σ H F (f e) (fun a e1 H1 F1 => Post K E bs ex σ H1 F1 (g a e1) P) := by
  unfold DL.bnd at p
  generalize f e = r at p ⊢
  cases r with
  | ok a e' => exact fun H' F' s t => p.shift t
  | exc c as e' => exact p
  | stuck => exact p
theorem PostS.bndE {f : Ef α} {g : α → Ef β} {P : β → En → L2.St → Hp → Hp → Prop} (p : PostS K E bs ex H F (DL.bnd f g e) P) : Post K E bs ex σ H F (f e) (fun a e1 H1 F1 => PostS K E bs ex H1 F1 (g a e1) P) := by
  unfold DL.bnd at p
  generalize f e = r at p ⊢
  cases r with
  | ok a e' => exact fun H' F' s t => p.shift t
  | exc c as e' => exact fun dx H' F' s t x => p σ dx H' F' s t x
  | stuck => exact p
theorem PostS.bnd {f : Ef α} {g : α → Ef β} {P : β → En → L2.St → Hp → Hp → Prop} (p : PostS K E bs ex H F (DL.bnd f g e) P) : PostS K E bs ex H F (f e) (fun a e1 σ1 H1 F1 => PostS K E bs ex H1 F1 (g a e1) P) := by
  unfold DL.bnd at p
  generalize f e = r at p ⊢
  cases r with
  | ok a e' => exact fun σ' H' F' s t => p.shift t
  | exc c as e' => exact p
  | stuck => exact p
theorem Post.lift {o : Option α} {P : α → En → Hp → Hp → Prop} (p : Post K E bs ex σ H F (DL.lift o e) P) : ∃ a, o = some a ∧ ∀ H' F', StR K bs ex σ H' F' e → Step ex H F H' F' → P a e H' F' := by
  cases o with
  | none => exact p.elim
  | some a => exact ⟨a, rfl, p⟩
theorem Post.rtn {a : α} {P : α → En → Hp → Hp → Prop} (p : Post K E bs ex σ H F (DL.rtn a e) P) (s : StR K bs ex σ H F e) : P a e H F := p H F s (Step.refl _ _ _)
end

/-! ### judgements -/
def tD (K : PySem.W.Frag) (E : SK) (f : Ef D) : TE := fun σ H Q => ∃ bs ex F e, StR K bs ex σ H F e ∧ Post K E bs ex σ H F (f e) fun d _ H' F' => ∀ v, Rep K F' d v → Q v H'
def tDT (K : PySem.W.Frag) (E : SK) (f : Ef Bool) : TT := fun σ H Q => ∃ bs ex F e, StR K bs ex σ H F e ∧ Post K E bs ex σ H F (f e) fun b _ H' _ => Q b H'
def tDA (K : PySem.W.Frag) (E : SK) (f : Ef (List D)) : TA := fun σ H Q => ∃ bs ex F e, StR K bs ex σ H F e ∧ Post K E bs ex σ H F (f e) fun ds _ H' F' => ∀ vs, Reps K F' ds vs → Q vs H'
/-- a new object, nobody else's -/
def PostN (K : PySem.W.Frag) (E : SK) (bs ex : List Addr) (σ : L2.St) (H F : Hp) (r : Res D) (Q : VK) : Prop := match r with
  | .ok d e' => ∀ a H' F', StR K bs (a :: ex) σ H' F' e' → Step ex H F H' F' → a ∉ ex → OwnR K F' H' d a → Q (.ref a) H'
  | .exc c as e' => ∀ dx H' F', StR K bs ex σ H' F' e' → Step ex H F H' F' → ExcR K F' as dx → E σ (.ref c) dx H'
  | .stuck => False
theorem PostN.shift {K : PySem.W.Frag} {E : SK} {bs ex : List Addr} {σ : L2.St} {H F H1 F1 : Hp} {r : Res D} {Q : VK} (p : PostN K E bs ex σ H F r Q) (st : Step ex H F H1 F1) : PostN K E bs ex σ H1 F1 r Q := by
  cases r with
  | ok d e' => exact fun a H' F' s t => p a H' F' s (st.trans t)
  | exc c as e' => exact fun dx H' F' s t => p dx H' F' s (st.trans t)
  | stuck => exact p
theorem PostN.bnd {K : PySem.W.Frag} {E : SK} {bs ex : List Addr} {α : Type} {σ : L2.St} {H F : Hp} {e : En} {f : Ef α} {g : α → Ef D} {Q : VK} (p : PostN K E bs ex σ H F (DL.bnd f g e) Q) :
    Post K E bs ex σ H F (f e) (fun a e1 H1 F1 => PostN K E bs ex σ H1 F1 (g a e1) Q) := by
  unfold DL.bnd at p
  generalize f e = r at p ⊢
  cases r with
  | ok a e' => exact fun H' F' s t => p.shift t
  | exc c as e' => exact p
  | stuck => exact p
theorem PostN.lift {K : PySem.W.Frag} {E : SK} {bs ex : List Addr} {σ : L2.St} {H F : Hp} {e : En} {o : Option D} {Q : VK} (p : PostN K E bs ex σ H F (DL.lift o e) Q) :
    ∃ d, o = some d ∧ ∀ a H' F', StR K bs (a :: ex) σ H' F' e → Step ex H F H' F' → a ∉ ex → OwnR K F' H' d a → Q (.ref a) H' := by
  cases o with
  | none => exact p.elim
  | some a => exact ⟨a, rfl, p⟩
def tDN (K : PySem.W.Frag) (E : SK) (f : Ef D) : TE := fun σ H Q => ∃ bs ex F e, StR K bs ex σ H F e ∧ PostN K E bs ex σ H F (f e) Q
inductive Fl where
  | nx | rt (d : D) | bk | ct
def FlP (K : PySem.W.Frag) (D : Ends) (fl : Fl) (σ' : L2.St) (H' F' : Hp) : Prop := match fl with
  | .nx => D.nx σ' H'
  | .rt d => ∀ v, Rep K F' d v → D.rt v H'
  | .bk => D.bk σ' H'
  | .ct => D.ct σ' H'
def tDS (K : PySem.W.Frag) (E : SK) (f : Ef Fl) : TS := fun D σ H => ∃ bs ex F e, StR K bs ex σ H F e ∧ PostS K E bs ex H F (f e) fun fl _ σ' H' F' => FlP K D fl σ' H' F'

structure DE (X : Cx) (E : SK) (x : Expr) (f : Ef D) : Prop where
  pe : PE X x (tD X.K E f)
structure DN (X : Cx) (E : SK) (x : Expr) (f : Ef D) : Prop where
  pe : PE X x (tDN X.K E f)
structure DT (X : Cx) (E : SK) (x : Expr) (f : Ef Bool) : Prop where
  pt : PT X x (tDT X.K E f)
structure DA (X : Cx) (E : SK) (xs : List Expr) (f : Ef (List D)) : Prop where
  pa : PA X xs (tDA X.K E f)
structure DS (X : Cx) (E : SK) (x : Stmt) (f : Ef Fl) : Prop where
  ps : PS X x (tDS X.K E f)
structure DSs (X : Cx) (E : SK) (xs : List Stmt) (f : Ef Fl) : Prop where
  ps : PSs X xs (tDS X.K E f)

theorem PE.imp {X : Cx} {x : Expr} {t t' : TE} (h : PE X x t) (i : ∀ σ H Q, t' σ H Q → t σ H Q) : PE X x t' := ⟨fun pins s σ H Q I hw => h.run pins s σ H Q I (i σ H Q hw)⟩
theorem PT.imp {X : Cx} {x : Expr} {t t' : TT} (h : PT X x t) (i : ∀ σ H Q, t' σ H Q → t σ H Q) : PT X x t' := ⟨fun pins s σ H Q I hw => h.run pins s σ H Q I (i σ H Q hw)⟩
theorem PA.imp {X : Cx} {x : List Expr} {t t' : TA} (h : PA X x t) (i : ∀ σ H Q, t' σ H Q → t σ H Q) : PA X x t' := ⟨fun pos pins s σ H Q I hw => h.run pos pins s σ H Q I (i σ H Q hw)⟩
theorem PS.imp {X : Cx} {x : Stmt} {t t' : TS} (h : PS X x t) (i : ∀ D σ H, t' D σ H → t D σ H) : PS X x t' := ⟨fun pins s σ H D I hw => h.run pins s σ H D I (i D σ H hw)⟩
theorem PSs.imp {X : Cx} {x : List Stmt} {t t' : TS} (h : PSs X x t) (i : ∀ D σ H, t' D σ H → t D σ H) : PSs X x t' := ⟨fun pins s σ H D I hw => h.run pins s σ H D I (i D σ H hw)⟩

/-- what a body's rules ask of its context -/
structure DC (X : Cx) (E : SK) : Prop where
  po : PassesOwn (model X.prog X.w) X.A X.env X.xe
  tk : ∀ σ, PassesAt (L2.CX X.prog X.w) X σ (E σ)
  calm : X.calm = true
  nd : X.N.Nodup
  tw : Takes X fun c d σ H => E σ c d H

/-! ### changes of the state -/
section
variable {K : PySem.W.Frag} {bs ex : List Addr} {σ : L2.St} {H F : Hp} {e : En}
open Classical in
/-- what is to be read where these are hidden -/
noncomputable def seen (ss : List Slot) (σ : L2.St) (bs ex : List Addr) (H : Hp) : Hp := fun a => if Hid ss σ bs ex a then none else msk H a
theorem seen_hid {ss : List Slot} {a : Addr} (h : Hid ss σ bs ex a) : seen ss σ bs ex H a = none := by unfold seen; rw [if_pos h]
theorem seen_vis {ss : List Slot} {a : Addr} (h : ¬ Hid ss σ bs ex a) : seen ss σ bs ex H a = msk H a := by unfold seen; rw [if_neg h]
theorem seen_same {ss : List Slot} {σ' : L2.St} {bs' ex' : List Addr} (s : StR K bs ex σ H F e) (h : ∀ a, Hid ss σ' bs' ex' a → Hid e.s σ bs ex a) : Same F (seen ss σ' bs' ex' H) := fun a o q => by
  have nh : ¬ Hid e.s σ bs ex a := fun z => by rw [s.hid a z] at q; cases q
  rw [seen_vis (fun z => nh (h a z)), ← s.vis a nh]
  exact q
theorem get_set {α : Type} {l : List α} {i j : Nat} {x y : α} (h : (l.set i x)[j]? = some y) : (j = i ∧ i < l.length ∧ y = x) ∨ (j ≠ i ∧ l[j]? = some y) := by
  by_cases z : j = i
  · subst z
    by_cases hl : j < l.length
    · rw [List.getElem?_set_self hl] at h; cases h; exact .inl ⟨rfl, hl, rfl⟩
    · rw [List.getElem?_eq_none (by simpa using hl)] at h; cases h
  · rw [List.getElem?_set_ne (Ne.symm z)] at h; exact .inr ⟨z, h⟩
/-- slot i takes a value -/
theorem StR.setVal (s : StR K bs ex σ H F e) (i : Nat) {d : D} {v : V} (r : Rep K F d v) : ∃ F', StR K bs ex (σ.set i (some v)) H F' ⟨e.s.set i (.val d), e.b⟩ ∧ Step ex H F H F' := by
  have own' : ∀ a, IsOwn (e.s.set i (.val d)) (σ.set i (some v)) a → IsOwn e.s σ a := fun a ⟨j, d', h1, h2⟩ => by
    rcases get_set h1 with ⟨_, _, h⟩ | ⟨hj, h⟩
    · cases h
    · rw [List.getElem?_set_ne (Ne.symm hj)] at h2
      exact ⟨j, d', h, h2⟩
  have hid' : ∀ a, Hid (e.s.set i (.val d)) (σ.set i (some v)) bs ex a → Hid e.s σ bs ex a := fun a h => h.imp (own' a) id
  have k := seen_same (ss := e.s.set i (.val d)) (σ' := σ.set i (some v)) (bs' := bs) (ex' := ex) s hid'
  refine ⟨_, ⟨by simpa using s.len, fun j d' h => ?_, fun j d' h => ?_, fun j j' h => ?_, fun j j' d1 d2 a h1 h2 h3 h4 => ?_, fun a h => s.out a (own' a h), fun a h => seen_hid h, fun a h => seen_vis h, s.bl, fun j d' h => ?_, s.bn, s.bx, s.mu, s.tb⟩, k, fun _ _ => rfl⟩
  · rcases get_set h with ⟨rfl, hl, h⟩ | ⟨hj, h⟩
    · cases h
      exact ⟨v, List.getElem?_set_self (by rw [← s.len]; exact hl), r.same k⟩
    · obtain ⟨u, h1, h2⟩ := s.val j d' h
      exact ⟨u, by rw [List.getElem?_set_ne (Ne.symm hj)]; exact h1, h2.same k⟩
  · rcases get_set h with ⟨_, _, h⟩ | ⟨hj, h⟩
    · cases h
    · obtain ⟨a, h1, h2⟩ := s.own j d' h
      exact ⟨a, by rw [List.getElem?_set_ne (Ne.symm hj)]; exact h1, h2.same k rfl⟩
  · rcases get_set h with ⟨_, _, h⟩ | ⟨hj, h⟩
    · cases h
    · obtain ⟨a, h1, h2⟩ := s.bor j j' h
      exact ⟨a, h1, by rw [List.getElem?_set_ne (Ne.symm hj)]; exact h2⟩
  · rcases get_set h1 with ⟨_, _, h⟩ | ⟨hj, h1⟩
    · cases h
    rcases get_set h2 with ⟨_, _, h⟩ | ⟨hj', h2⟩
    · cases h
    rw [List.getElem?_set_ne (Ne.symm hj)] at h3
    rw [List.getElem?_set_ne (Ne.symm hj')] at h4
    exact s.inj j j' d1 d2 a h1 h2 h3 h4
  · obtain ⟨a, h1, h2⟩ := s.br j d' h
    exact ⟨a, h1, h2.same k rfl⟩
/-- slot i takes a new object as its own -/
theorem StR.setOwn {a : Addr} (s : StR K bs (a :: ex) σ H F e) (i : Nat) {d : D} (r : OwnR K F H d a) (na : a ∉ ex) : ∃ F', StR K bs ex (σ.set i (some (.ref a))) H F' ⟨e.s.set i (.own d), e.b⟩ ∧ Step ex H F H F' := by
  have nOwn : ¬ IsOwn e.s σ a := fun h => (s.out a h).2 (List.mem_cons_self)
  have nbs : a ∉ bs := fun h => s.bx a h List.mem_cons_self
  have own' : ∀ b, IsOwn (e.s.set i (.own d)) (σ.set i (some (.ref a))) b → b = a ∨ IsOwn e.s σ b := fun b ⟨j, d', h1, h2⟩ => by
    rcases get_set h1 with ⟨rfl, hl, h⟩ | ⟨hj, h⟩
    · rw [List.getElem?_set_self (by rw [← s.len]; exact hl)] at h2
      cases h2; exact .inl rfl
    · rw [List.getElem?_set_ne (Ne.symm hj)] at h2
      exact .inr ⟨j, d', h, h2⟩
  have hid' : ∀ b, Hid (e.s.set i (.own d)) (σ.set i (some (.ref a))) bs ex b → Hid e.s σ bs (a :: ex) b := fun b h => by
    rcases h with h | h | h
    · rcases own' b h with rfl | h
      · exact .inr (.inr List.mem_cons_self)
      · exact .inl h
    · exact .inr (.inl h)
    · exact .inr (.inr (List.mem_cons_of_mem _ h))
  have k := seen_same (ss := e.s.set i (.own d)) (σ' := σ.set i (some (.ref a))) (bs' := bs) (ex' := ex) s hid'
  refine ⟨_, ⟨by simpa using s.len, fun j d' h => ?_, fun j d' h => ?_, fun j j' h => ?_, fun j j' d1 d2 b h1 h2 h3 h4 => ?_, fun b h => ?_, fun b h => seen_hid h, fun b h => seen_vis h, s.bl, fun j d' h => ?_, s.bn, fun b hb hx => s.bx b hb (List.mem_cons_of_mem _ hx), fun b hb => s.mu b (List.mem_cons_of_mem _ hb), s.tb⟩, k, fun _ _ => rfl⟩
  · rcases get_set h with ⟨rfl, hl, h⟩ | ⟨hj, h⟩
    · cases h
    · obtain ⟨u, h1, h2⟩ := s.val j d' h
      exact ⟨u, by rw [List.getElem?_set_ne (Ne.symm hj)]; exact h1, h2.same k⟩
  · rcases get_set h with ⟨rfl, hl, h⟩ | ⟨hj, h⟩
    · cases h
      exact ⟨a, List.getElem?_set_self (by rw [← s.len]; exact hl), r.same k rfl⟩
    · obtain ⟨b, h1, h2⟩ := s.own j d' h
      exact ⟨b, by rw [List.getElem?_set_ne (Ne.symm hj)]; exact h1, h2.same k rfl⟩
  · rcases get_set h with ⟨_, _, h⟩ | ⟨hj, h⟩
    · cases h
    · obtain ⟨b, h1, h2⟩ := s.bor j j' h
      exact ⟨b, h1, by rw [List.getElem?_set_ne (Ne.symm hj)]; exact h2⟩
  · rcases get_set h1 with ⟨rfl, hl, h⟩ | ⟨hj, h1⟩
    · rcases get_set h2 with ⟨rfl, _, _⟩ | ⟨hj', h2⟩
      · rfl
      · rw [List.getElem?_set_self (by rw [← s.len]; exact hl)] at h3
        cases h3
        rw [List.getElem?_set_ne (Ne.symm hj')] at h4
        exact absurd ⟨j', d2, h2, h4⟩ nOwn
    · have q1 : e.s[j]? = some (.own d1) := h1
      rw [List.getElem?_set_ne (Ne.symm hj)] at h3
      rcases get_set h2 with ⟨rfl, hl, h⟩ | ⟨hj', h2⟩
      · rw [List.getElem?_set_self (by rw [← s.len]; exact hl)] at h4
        cases h4
        exact absurd (show IsOwn e.s σ a from ⟨j, d1, q1, h3⟩) nOwn
      · rw [List.getElem?_set_ne (Ne.symm hj')] at h4
        exact s.inj j j' d1 d2 b q1 h2 h3 h4
  · rcases own' b h with rfl | h
    · exact ⟨nbs, na⟩
    · exact ⟨(s.out b h).1, fun z => (s.out b h).2 (List.mem_cons_of_mem _ z)⟩
  · obtain ⟨b, h1, h2⟩ := s.br j d' h
    exact ⟨b, h1, h2.same k rfl⟩
/-- a new object is left to all -/
theorem StR.release {a : Addr} (s : StR K bs (a :: ex) σ H F e) {d : D} (r : OwnR K F H d a) (na : a ∉ ex) : ∃ F', StR K bs ex σ H F' e ∧ Step ex H F H F' ∧ Rep K F' d (.ref a) := by
  have nOwn : ¬ IsOwn e.s σ a := fun h => (s.out a h).2 (List.mem_cons_self)
  have nbs : a ∉ bs := fun h => s.bx a h List.mem_cons_self
  have hid' : ∀ b, Hid e.s σ bs ex b → Hid e.s σ bs (a :: ex) b := fun b h => h.imp id (.imp id (List.mem_cons_of_mem _))
  have k := seen_same (ss := e.s) (σ' := σ) (bs' := bs) (ex' := ex) s hid'
  have va : ¬ Hid e.s σ bs ex a := fun h => h.elim nOwn (·.elim nbs na)
  refine ⟨_, ⟨s.len, fun j d' h => ?_, fun j d' h => ?_, s.bor, s.inj, fun b h => ⟨(s.out b h).1, fun z => (s.out b h).2 (List.mem_cons_of_mem _ z)⟩, fun b h => seen_hid h, fun b h => seen_vis h, s.bl, fun j d' h => ?_, s.bn, fun b hb hx => s.bx b hb (List.mem_cons_of_mem _ hx), fun b hb => s.mu b (List.mem_cons_of_mem _ hb), s.tb⟩, ⟨k, fun _ _ => rfl⟩, r.rep k ((seen_vis va).trans r.msk)⟩
  · obtain ⟨u, h1, h2⟩ := s.val j d' h
    exact ⟨u, h1, h2.same k⟩
  · obtain ⟨b, h1, h2⟩ := s.own j d' h
    exact ⟨b, h1, h2.same k rfl⟩
  · obtain ⟨b, h1, h2⟩ := s.br j d' h
    exact ⟨b, h1, h2.same k rfl⟩
/-- slot i's own object is left to all -/
theorem StR.freeze (s : StR K bs ex σ H F e) {i : Nat} {d : D} (hi : e.s[i]? = some (.own d)) : ∃ F' a, σ[i]? = some (some (.ref a)) ∧ StR K bs ex σ H F' ⟨e.s.set i (.val d), e.b⟩ ∧ Step ex H F H F' ∧ Rep K F' d (.ref a) := by
  obtain ⟨a, ha, r⟩ := s.own i d hi
  have isA : IsOwn e.s σ a := ⟨i, d, hi, ha⟩
  have hl : i < e.s.length := (List.getElem?_eq_some_iff.mp hi).1
  have own' : ∀ b, IsOwn (e.s.set i (.val d)) σ b → b ≠ a ∧ IsOwn e.s σ b := fun b ⟨j, d', h1, h2⟩ => by
    rcases get_set h1 with ⟨_, _, h⟩ | ⟨hj, h⟩
    · cases h
    · refine ⟨fun z => hj (s.inj j i d' d a h hi (z ▸ h2) ha), j, d', h, h2⟩
  have hid' : ∀ b, Hid (e.s.set i (.val d)) σ bs ex b → Hid e.s σ bs ex b := fun b h => h.imp (fun h => (own' b h).2) id
  have k := seen_same (ss := e.s.set i (.val d)) (σ' := σ) (bs' := bs) (ex' := ex) s hid'
  have va : ¬ Hid (e.s.set i (.val d)) σ bs ex a := fun h => h.elim (fun h => (own' a h).1 rfl) (·.elim (s.out a isA).1 (s.out a isA).2)
  have ra := r.rep k ((seen_vis va).trans r.msk)
  refine ⟨_, a, ha, ⟨by simpa using s.len, fun j d' h => ?_, fun j d' h => ?_, fun j j' h => ?_, fun j j' d1 d2 b h1 h2 h3 h4 => ?_, fun b h => s.out b (own' b h).2, fun b h => seen_hid h, fun b h => seen_vis h, s.bl, fun j d' h => ?_, s.bn, s.bx, s.mu, s.tb⟩, ⟨k, fun _ _ => rfl⟩, ra⟩
  · rcases get_set h with ⟨rfl, _, h⟩ | ⟨hj, h⟩
    · cases h
      exact ⟨_, ha, ra⟩
    · obtain ⟨u, h1, h2⟩ := s.val j d' h
      exact ⟨u, h1, h2.same k⟩
  · rcases get_set h with ⟨_, _, h⟩ | ⟨hj, h⟩
    · cases h
    · obtain ⟨b, h1, h2⟩ := s.own j d' h
      exact ⟨b, h1, h2.same k rfl⟩
  · rcases get_set h with ⟨_, _, h⟩ | ⟨hj, h⟩
    · cases h
    · exact s.bor j j' h
  · rcases get_set h1 with ⟨_, _, h⟩ | ⟨hj, h1⟩
    · cases h
    rcases get_set h2 with ⟨_, _, h⟩ | ⟨hj', h2⟩
    · cases h
    exact s.inj j j' d1 d2 b h1 h2 h3 h4
  · obtain ⟨b, h1, h2⟩ := s.br j d' h
    exact ⟨b, h1, h2.same k rfl⟩
/-- an own object is written -/
theorem StR.writeOwn (s : StR K bs ex σ H F e) {i : Nat} {d d' : D} {a : Addr} {o : HO} (hi : e.s[i]? = some (.own d)) (ha : σ[i]? = some (some (.ref a))) (r : OwnR K F (upd H a o) d' a) :
    StR K bs ex σ (upd H a o) F ⟨e.s.set i (.own d'), e.b⟩ ∧ Step ex H F (upd H a o) F := by
  have isA : IsOwn e.s σ a := ⟨i, d, hi, ha⟩
  have hl : i < e.s.length := (List.getElem?_eq_some_iff.mp hi).1
  have own' : ∀ b, IsOwn (e.s.set i (.own d')) σ b ↔ IsOwn e.s σ b := fun b => by
    constructor
    · rintro ⟨j, d'', h1, h2⟩
      rcases get_set h1 with ⟨rfl, _, h⟩ | ⟨hj, h⟩
      · exact ⟨_, d, hi, h2⟩
      · exact ⟨j, d'', h, h2⟩
    · rintro ⟨j, d'', h1, h2⟩
      by_cases z : j = i
      · subst z; exact ⟨j, d', List.getElem?_set_self hl, h2⟩
      · exact ⟨j, d'', by rw [List.getElem?_set_ne (Ne.symm z)]; exact h1, h2⟩
  have hid' : ∀ b, Hid (e.s.set i (.own d')) σ bs ex b ↔ Hid e.s σ bs ex b := fun b => by unfold Hid; rw [own' b]
  have na : a ∉ bs ∧ a ∉ ex := s.out a isA
  refine ⟨⟨by simpa using s.len, fun j d'' h => ?_, fun j d'' h => ?_, fun j j' h => ?_, fun j j' d1 d2 b h1 h2 h3 h4 => ?_, fun b h => s.out b ((own' b).mp h), fun b h => s.hid b ((hid' b).mp h), fun b h => ?_, s.bl, fun j d'' h => ?_, s.bn, s.bx, fun b hb => ?_, (s.wr (.inl isA)).elim fun _ q => s.tb.put q.1 q.2⟩, Same.refl _, fun b hb => upd_ne (fun z => na.2 (z ▸ hb))⟩
  · rcases get_set h with ⟨_, _, h⟩ | ⟨hj, h⟩
    · cases h
    · exact s.val j d'' h
  · rcases get_set h with ⟨rfl, _, h⟩ | ⟨hj, h⟩
    · cases h; exact ⟨a, ha, r⟩
    · obtain ⟨b, h1, h2⟩ := s.own j d'' h
      refine ⟨b, h1, h2.same (Same.refl _) (upd_ne fun z => hj (s.inj j i d'' d a h hi (z ▸ h1) ha))⟩
  · rcases get_set h with ⟨_, _, h⟩ | ⟨hj, h⟩
    · cases h
    · exact s.bor j j' h
  · have c1 : ∃ d1, e.s[j]? = some (.own d1) := by
      rcases get_set h1 with ⟨rfl, _, _⟩ | ⟨_, h⟩
      · exact ⟨d, hi⟩
      · exact ⟨d1, h⟩
    have c2 : ∃ d2, e.s[j']? = some (.own d2) := by
      rcases get_set h2 with ⟨rfl, _, _⟩ | ⟨_, h⟩
      · exact ⟨d, hi⟩
      · exact ⟨d2, h⟩
    obtain ⟨d1, h1⟩ := c1
    obtain ⟨d2, h2⟩ := c2
    exact s.inj j j' d1 d2 b h1 h2 h3 h4
  · have nb : b ≠ a := fun z => h ((hid' b).mpr (.inl (z ▸ isA)))
    rw [msk_congr (upd_ne nb)]
    exact s.vis b fun z => h ((hid' b).mpr z)
  · obtain ⟨b, h1, h2⟩ := s.br j d'' h
    exact ⟨b, h1, h2.same (Same.refl _) (upd_ne fun z => na.1 (z ▸ List.mem_of_getElem? h1))⟩
  · obtain ⟨o', h1, h2⟩ := s.mu b hb
    exact ⟨o', by rw [upd_ne (fun z : b = a => na.2 (z ▸ hb))]; exact h1, h2⟩
/-- a borrowed object is written -/
theorem StR.writeBor (s : StR K bs ex σ H F e) {j : Nat} {d' : D} {a : Addr} {o : HO} (ha : bs[j]? = some a) (r : OwnR K F (upd H a o) d' a) :
    StR K bs ex σ (upd H a o) F ⟨e.s, e.b.set j d'⟩ ∧ Step ex H F (upd H a o) F := by
  have mA : a ∈ bs := List.mem_of_getElem? ha
  have nx : a ∉ ex := s.bx a mA
  have nO : ∀ b, IsOwn e.s σ b → b ≠ a := fun b h z => (s.out b h).1 (by rw [z]; exact mA)
  refine ⟨⟨s.len, s.val, fun i d'' h => ?_, s.bor, s.inj, s.out, s.hid, fun b h => ?_, by simpa using s.bl, fun i d'' h => ?_, s.bn, s.bx, fun b hb => ?_, (s.wr (.inr (.inl mA))).elim fun _ q => s.tb.put q.1 q.2⟩, Same.refl _, fun b hb => upd_ne fun z => nx (z ▸ hb)⟩
  · obtain ⟨b, h1, h2⟩ := s.own i d'' h
    exact ⟨b, h1, h2.same (Same.refl _) (upd_ne (nO b ⟨i, d'', h, h1⟩))⟩
  · rw [msk_congr (upd_ne (fun z : b = a => h (.inr (.inl (by rw [z]; exact mA)))))]
    exact s.vis b h
  · rcases get_set h with ⟨rfl, _, h⟩ | ⟨hj, h⟩
    · subst h; exact ⟨a, ha, r⟩
    · obtain ⟨b, h1, h2⟩ := s.br i d'' h
      exact ⟨b, h1, h2.same (Same.refl _) (upd_ne (fun z : b = a => hj (nd_ix s.bn h1 (by rw [z]; exact ha))))⟩
  · obtain ⟨o', h1, h2⟩ := s.mu b hb
    exact ⟨o', by rw [upd_ne (fun z : b = a => nx (z ▸ hb))]; exact h1, h2⟩
end

/-! ### data as the library's data -/
mutual
def py : D → PyData
  | .non => .none
  | .bl b => .bool b
  | .int i => .int i
  | .str x => .str x
  | .tup xs => .tuple (pyAll xs)
  | .ktp xs => .tuple (pyAll xs)
  | .lst xs => .list (pyAll xs)
  | .scr ns => .list (ns.map .int)
  | .ty _ => .none
  | .fn _ => .none
  | .dct _ => .none
  | .dcT _ => .none
  | .set _ => .none
  | .ins _ _ => .none
  | .stt _ => .none
  | .clo _ _ _ => .none
def pyAll : List D → List PyData
  | [] => []
  | x :: xs => py x :: pyAll xs
end
theorem pyAll_eq : ∀ xs : List D, pyAll xs = xs.map py
  | [] => rfl
  | x :: xs => by rw [pyAll, pyAll_eq xs, List.map_cons]
/-- numbers, texts, None, lists and tuples of these, at most n deep -/
def okd : Nat → D → Bool
  | _, .non => true
  | _, .bl _ => true
  | _, .int _ => true
  | _, .str _ => true
  | n + 1, .tup xs => xs.all (okd n)
  | n + 1, .ktp xs => xs.all (okd n)
  | n + 1, .lst xs => xs.all (okd n)
  | n + 1, .scr _ => true
  | _, _ => false
theorem py_ok : ∀ (n : Nat) (d : D), okd n d = true → (py d).plain = true ∧ (py d).depth ≤ n
  | n, .non, _ => ⟨by simp [py, PyData.plain], by simp [py, PyData.depth]⟩
  | n, .bl _, _ => ⟨by simp [py, PyData.plain], by simp [py, PyData.depth]⟩
  | n, .int _, _ => ⟨by simp [py, PyData.plain], by simp [py, PyData.depth]⟩
  | n, .str _, _ => ⟨by simp [py, PyData.plain], by simp [py, PyData.depth]⟩
  | n + 1, .tup xs, h => by
    have h : xs.all (okd n) = true := by simpa [okd] using h
    have q : ∀ ys : List D, ys.all (okd n) = true → PyData.plainAll (pyAll ys) = true ∧ PyData.depthAll (pyAll ys) ≤ n := fun ys => by
      induction ys with
      | nil => intro _; exact ⟨by simp [pyAll, PyData.plainAll], by simp [pyAll, PyData.depthAll]⟩
      | cons y ys ih =>
        intro hy
        rw [List.all_cons, Bool.and_eq_true] at hy
        obtain ⟨a, b⟩ := py_ok n y hy.1
        obtain ⟨c, d⟩ := ih hy.2
        exact ⟨by simp [pyAll, PyData.plainAll, a, c], by simp [pyAll, PyData.depthAll]; omega⟩
    obtain ⟨a, b⟩ := q xs h
    exact ⟨by simp [py, PyData.plain, a], by simp [py, PyData.depth]; omega⟩
  | n + 1, .ktp xs, h => by
    have h : xs.all (okd n) = true := by simpa [okd] using h
    have q : ∀ ys : List D, ys.all (okd n) = true → PyData.plainAll (pyAll ys) = true ∧ PyData.depthAll (pyAll ys) ≤ n := fun ys => by
      induction ys with
      | nil => intro _; exact ⟨by simp [pyAll, PyData.plainAll], by simp [pyAll, PyData.depthAll]⟩
      | cons y ys ih =>
        intro hy
        rw [List.all_cons, Bool.and_eq_true] at hy
        obtain ⟨a, b⟩ := py_ok n y hy.1
        obtain ⟨c, d⟩ := ih hy.2
        exact ⟨by simp [pyAll, PyData.plainAll, a, c], by simp [pyAll, PyData.depthAll]; omega⟩
    obtain ⟨a, b⟩ := q xs h
    exact ⟨by simp [py, PyData.plain, a], by simp [py, PyData.depth]; omega⟩
  | n + 1, .lst xs, h => by
    have h : xs.all (okd n) = true := by simpa [okd] using h
    have q : ∀ ys : List D, ys.all (okd n) = true → PyData.plainAll (pyAll ys) = true ∧ PyData.depthAll (pyAll ys) ≤ n := fun ys => by
      induction ys with
      | nil => intro _; exact ⟨by simp [pyAll, PyData.plainAll], by simp [pyAll, PyData.depthAll]⟩
      | cons y ys ih =>
        intro hy
        rw [List.all_cons, Bool.and_eq_true] at hy
        obtain ⟨a, b⟩ := py_ok n y hy.1
        obtain ⟨c, d⟩ := ih hy.2
        exact ⟨by simp [pyAll, PyData.plainAll, a, c], by simp [pyAll, PyData.depthAll]; omega⟩
    obtain ⟨a, b⟩ := q xs h
    exact ⟨by simp [py, PyData.plain, a], by simp [py, PyData.depth]; omega⟩
  | n + 1, .scr ns, h => by
    have q : ∀ ys : List Int, PyData.plainAll (ys.map .int) = true ∧ PyData.depthAll (ys.map .int) ≤ n := fun ys => by
      induction ys with
      | nil => exact ⟨by simp [PyData.plainAll], by simp [PyData.depthAll]⟩
      | cons y ys ih => exact ⟨by simp [PyData.plainAll, PyData.plain, ih.1], by simp [PyData.depthAll, PyData.depth]; exact ih.2⟩
    exact ⟨by simp [py, PyData.plain, (q ns).1], by simp [py, PyData.depth]; exact (q ns).2⟩
  | n, .ty _, h => by cases n <;> simp [okd] at h
  | n, .fn _, h => by cases n <;> simp [okd] at h
  | n, .dct _, h => by cases n <;> simp [okd] at h
  | n, .dcT _, h => by cases n <;> simp [okd] at h
  | n, .set _, h => by cases n <;> simp [okd] at h
  | n, .ins _ _, h => by cases n <;> simp [okd] at h
  | n, .stt _, h => by cases n <;> simp [okd] at h
  | n, .clo _ _ _, h => by cases n <;> simp [okd] at h
theorem dp_ints {K : PySem.W.Frag} {H : Hp} : ∀ ns : List Int, DpAll K H (ns.map V.int) (ns.map .int)
  | [] => .nil
  | _ :: r => .cons (.int _) (dp_ints r)
theorem Rep.dp {K : PySem.W.Frag} {H : Hp} : ∀ (n : Nat) (d : D) (v : V), okd n d = true → Rep K H d v → Dp K H v (py d)
  | _, .non, _, _, .non => .non
  | _, .bl _, _, _, .bl b => .bl b
  | _, .int _, _, _, .int i => .int i
  | _, .str _, _, _, .str x => .str x
  | n + 1, .tup ds, _, h, .tup hs r => by
    have h : ds.all (okd n) = true := by simpa [okd] using h
    have q : ∀ (ds : List D) (xs : List V), ds.all (okd n) = true → Reps K H ds xs → DpAll K H xs (pyAll ds) := fun ds => by
      induction ds with
      | nil => intro xs _ r; cases r; exact .nil
      | cons y ys ih =>
        intro xs hy r
        rw [List.all_cons, Bool.and_eq_true] at hy
        cases r with
        | cons h t => exact .cons (Rep.dp n y _ hy.1 h) (ih _ hy.2 t)
    exact .tup (sqt (Same.refl _) hs) (q ds _ h r)
  | n + 1, .ktp ds, _, h, .ktp hs r => by
    have h : ds.all (okd n) = true := by simpa [okd] using h
    have q : ∀ (ds : List D) (xs : List V), ds.all (okd n) = true → Reps K H ds xs → DpAll K H xs (pyAll ds) := fun ds => by
      induction ds with
      | nil => intro xs _ r; cases r; exact .nil
      | cons y ys ih =>
        intro xs hy r
        rw [List.all_cons, Bool.and_eq_true] at hy
        cases r with
        | cons h t => exact .cons (Rep.dp n y _ hy.1 h) (ih _ hy.2 t)
    exact .tup ((hs.sq (fun _ _ q => q))) (q ds _ h r)
  | n + 1, .lst ds, _, h, .lst hs r => by
    have h : ds.all (okd n) = true := by simpa [okd] using h
    have q : ∀ (ds : List D) (xs : List V), ds.all (okd n) = true → Reps K H ds xs → DpAll K H xs (pyAll ds) := fun ds => by
      induction ds with
      | nil => intro xs _ r; cases r; exact .nil
      | cons y ys ih =>
        intro xs hy r
        rw [List.all_cons, Bool.and_eq_true] at hy
        cases r with
        | cons h t => exact .cons (Rep.dp n y _ hy.1 h) (ih _ hy.2 t)
    exact .lst (SqL.of hs) (q ds _ h r)
  | n + 1, .scr ns, _, _, .scr hs => .lst hs (dp_ints ns)
  | n, .ty _, _, h, _ => by cases n <;> simp [okd] at h
  | n, .fn _, _, h, _ => by cases n <;> simp [okd] at h
  | n, .dct _, _, h, _ => by cases n <;> simp [okd] at h
  | n, .dcT _, _, h, _ => by cases n <;> simp [okd] at h
  | n, .set _, _, h, _ => by cases n <;> simp [okd] at h
  | n, .ins _ _, _, h, _ => by cases n <;> simp [okd] at h
  | n, .stt _, _, h, _ => by cases n <;> simp [okd] at h
  | n, .clo _ _ _, _, h, _ => by cases n <;> simp [okd] at h
theorem Rep.reads {X : Cx} {pins : List (Addr × Obj)} {σ : L2.St} {H : Hp} {s : Shared} (I : Inv X pins σ H s) {n : Nat} {d : D} {v : V} {u : Value} (h : okd n d = true) (r : Rep X.K H d v) (ru : RelV v u) :
    ∃ as, Reads s.heap u (py d) as := Dp.reads I (py d) v u (Rep.dp n d v h r) ru

/-- the depth that is served -/
abbrev dmax : Nat := 12
/-! ### operations by values -/
/-- a function of data, as a reading of values -/
def rF2 (X : Cx) (fn : D → D → Option D) : R2 := fun x y H Q => ∃ F d e z, Same F H ∧ Rep X.K F d x ∧ Rep X.K F e y ∧ fn d e = some z ∧ ∀ v F' H', Grow F H F' H' → Rep X.K F' z v → Q v H'
def rF1 (X : Cx) (fn : D → Option D) : V → Hp → VK → Prop := fun x H Q => ∃ F d z, Same F H ∧ Rep X.K F d x ∧ fn d = some z ∧ ∀ v F' H', Grow F H F' H' → Rep X.K F' z v → Q v H'
def rFs (X : Cx) (fn : List D → Option D) : List V → Hp → VK → Prop := fun xs H Q => ∃ F ds z, Same F H ∧ Reps X.K F ds xs ∧ fn ds = some z ∧ ∀ v F' H', Grow F H F' H' → Rep X.K F' z v → Q v H'
theorem grow0 {F H : Hp} : Grow F H F H := .inl ⟨rfl, rfl⟩
theorem grow1 {F H : Hp} {p : Addr} {o : HO} (h : H p = none) (n : ∀ ps, o ≠ .tbl ps := by intro _ z; cases z) : Grow F H (upd F p o) (upd H p o) := .inr ⟨p, o, h, n, rfl, rfl⟩
theorem new_tup {K : PySem.W.Frag} {F H : Hp} {p : Addr} {ds : List D} {xs : List V} (h : H p = none) (le : Same F H) (r : Reps K F ds xs) : Rep K (upd F p (.tup xs)) (.tup ds) (.ref p) :=
  .tup upd_same (r.same (same_upd (le.free h)))
theorem new_lst {K : PySem.W.Frag} {F H : Hp} {p : Addr} {ds : List D} {xs : List V} (h : H p = none) (le : Same F H) (r : Reps K F ds xs) : Rep K (upd F p (.lst xs)) (.lst ds) (.ref p) :=
  .lst upd_same (r.same (same_upd (le.free h)))
def big : Nat := 16000000
theorem big_line {n : Nat} (h : n ≤ big) : n ≤ sizeLine := by rw [sizeLine_eq]; exact Nat.le_trans h (by decide)
theorem big_line' {n : Nat} (h : n ≤ big) : n < sizeLine := by rw [sizeLine_eq]; exact Nat.lt_of_le_of_lt h (by decide)

/-! ### two operands -/
def eOp2 (fn : D → D → Option D) (f g : Ef D) : Ef D := bnd f fun a => bnd g fun b => lift (fn a b)
def eOp1 (fn : D → Option D) (f : Ef D) : Ef D := bnd f fun a => lift (fn a)
section
variable {X : Cx} {E : SK} {a b : Expr} {f g : Ef D} {pos : Pos}
theorem op2_core {fn : D → D → Option D} : ∀ σ H Q, tD X.K E (eOp2 fn f g) σ H Q → tOp (rF2 X fn) (tD X.K E f) (tD X.K E g) σ H Q := by
  rintro σ H Q ⟨bs, ex, F, e, s, p⟩
  refine ⟨bs, ex, F, e, s, p.bnd.imp fun d1 e1 H1 F1 _ s1 st1 p1 v1 r1 => ⟨bs, ex, F1, e1, s1, p1.bnd.imp fun d2 e2 H2 F2 _ s2 st2 p2 v2 r2 => ?_⟩⟩
  obtain ⟨d, hd, q⟩ := p2.lift
  refine ⟨F2, d1, d2, d, s2.le, r1.same st2.1, r2, hd, fun v F' H' gr rv => ?_⟩
  obtain ⟨s3, st3⟩ := s2.grow gr
  exact q H' F' s3 st3 v rv
theorem de_bin {op : Operator} {fn : D → D → Option D} (ho : OpR X (binaryOp op) (rF2 X fn)) (ha : DE X E a f) (hb : DE X E b g) : DE X E (.BinOp a op b pos) (eOp2 fn f g) :=
  ⟨PE.imp (pe_op ho ha.pe hb.pe) op2_core⟩
theorem de_cmp {op : CmpOp} {fn : D → D → Option D} (ho : OpR X (compareOp op) (rF2 X fn)) (ha : DE X E a f) (hb : DE X E b g) (hm : behindInMarks op b = false) : DE X E (.Compare a [op] [b] pos) (eOp2 fn f g) :=
  ⟨PE.imp (pe_cmpR ho ha.pe hb.pe hm) op2_core⟩
theorem de_un {op : UnaryOp} {fn : D → Option D} (ho : UnR X (unaryOp op) (rF1 X fn)) (ha : DE X E a f) : DE X E (.UnaryOp op a pos) (eOp1 fn f) := by
  refine ⟨PE.imp (pe_un ho ha.pe) ?_⟩
  rintro σ H Q ⟨bs, ex, F, e, s, p⟩
  refine ⟨bs, ex, F, e, s, p.bnd.imp fun d1 e1 H1 F1 _ s1 st1 p1 v1 r1 => ?_⟩
  obtain ⟨d, hd, q⟩ := p1.lift
  refine ⟨F1, d1, d, s1.le, r1, hd, fun v F' H' gr rv => ?_⟩
  obtain ⟨s3, st3⟩ := s1.grow gr
  exact q H' F' s3 st3 v rv
/-- a test by a bool's expression -/
def asB : D → Ef Bool
  | .bl b => rtn b
  | _ => stk
def eB (f : Ef D) : Ef Bool := bnd f asB
theorem tst_core {t : TE} (h : ∀ σ H Q, tD X.K E f σ H Q → t σ H Q) : ∀ σ H Q, tDT X.K E (eB f) σ H Q → tTest t σ H Q := by
  rintro σ H Q ⟨bs, ex, F, e, s, p⟩
  refine h σ H _ ⟨bs, ex, F, e, s, p.bnd.imp fun d e1 H1 F1 _ s1 st1 p1 v r => ?_⟩
  cases d <;> first | exact p1.elim | skip
  cases r with
  | bl b' => exact ⟨_, rfl, p1.rtn s1⟩
theorem dt_cmp {op : CmpOp} {fn : D → D → Option D} (ho : OpR X (compareOp op) (rF2 X fn)) (ha : DE X E a f) (hb : DE X E b g) (hm : behindInMarks op b = false) : DT X E (.Compare a [op] [b] pos) (eB (eOp2 fn f g)) :=
  ⟨PT.imp (pt_cmpR ho ha.pe hb.pe hm) (tst_core op2_core)⟩
end

/-! ### the operations -/
def fAdd : D → D → Option D
  | .int i, .int j => some (.int (i + j))
  | .int i, .bl b => some (.int (i + if b = true then 1 else 0))
  | .tup xs, .tup ys => if xs.length + ys.length ≤ big then some (.tup (xs ++ ys)) else none
  | .lst xs, .lst ys => if xs.length + ys.length ≤ big then some (.lst (xs ++ ys)) else none
  | .str x, .str y => if x.length + y.length ≤ big then some (.str (x ++ y)) else none
  | _, _ => none
def fSub : D → D → Option D
  | .int i, .int j => some (.int (i - j))
  | _, _ => none
def fMul : D → D → Option D
  | .int i, .int j => if i.natAbs < 2 ^ 64 ∨ j.natAbs < 2 ^ 64 then some (.int (i * j)) else none
  | .lst xs, .int k => if k.natAbs < 2 ^ 62 ∧ xs.length * k.toNat ≤ big then some (.lst (List.replicate k.toNat xs).flatten) else none
  | _, _ => none
def fDiv : D → D → Option D
  | .int i, .int j => if 0 < j ∧ j < 1073741824 then some (.int (i / j)) else none
  | _, _ => none
def fMod : D → D → Option D
  | .int i, .int j => if 0 < j then some (.int (i % j)) else none
  | _, _ => none
def fPow : D → D → Option D
  | .int i, .int j => if 0 ≤ j ∧ j ≤ 1000000 ∧ i.natAbs < 2 ^ 64 then some (.int (i ^ j.toNat)) else none
  | _, _ => none
def fNeg : D → Option D
  | .int i => some (.int (-i))
  | _ => none
def fEq (d e : D) : Option D := if okd dmax d = true ∧ okd dmax e = true then some (.bl (PyData.eqv (py d) (py e))) else none
def fNe (d e : D) : Option D := if okd dmax d = true ∧ okd dmax e = true then some (.bl (!PyData.eqv (py d) (py e))) else none
def cmpOk (d e : D) : Bool := okd dmax d && okd dmax e && PySem.W.alike (py d) (py e) && (match d with | .non => false | _ => true)
def fLt : D → D → Option D
  | .int i, .int j => some (.bl (decide (i < j)))
  | d, e => if cmpOk d e = true then some (.bl (PySem.W.dataLt (py d) (py e))) else none
def fGt : D → D → Option D
  | .int i, .int j => some (.bl (decide (j < i)))
  | d, e => if cmpOk d e = true then some (.bl (PySem.W.dataLt (py e) (py d))) else none
def fLe : D → D → Option D
  | .int i, .int j => some (.bl (decide (i ≤ j)))
  | d, e => if cmpOk d e = true then some (.bl (!PySem.W.dataLt (py e) (py d))) else none
def fGe : D → D → Option D
  | .int i, .int j => some (.bl (decide (j ≤ i)))
  | d, e => if cmpOk d e = true then some (.bl (!PySem.W.dataLt (py d) (py e))) else none
section
variable {X : Cx}
theorem or_add : OpR X (binaryOp .Add) (rF2 X fAdd) := by
  rintro pins s σ H x y v u Q I rx ry ⟨F, d, e, z, le, r1, r2, hf, q⟩
  cases d <;> cases e <;> first | (cases hf; done) | skip
  · rename_i i b
    cases r1; cases r2; cases hf
    exact op_add_ib pins s σ H _ _ v u Q I rx ry ⟨_, _, rfl, rfl, q _ _ _ grow0 (.int _)⟩
  · cases r1; cases r2; cases hf
    exact op_add pins s σ H _ _ v u Q I rx ry ⟨_, _, rfl, rfl, q _ _ _ grow0 (.int _)⟩
  · cases r1; cases r2
    simp only [fAdd] at hf
    split at hf
    · cases hf
      rename_i hl
      exact op_add_str pins s σ H _ _ v u Q I rx ry ⟨_, _, rfl, rfl, big_line hl, q _ _ _ grow0 (.str _)⟩
    · cases hf
  · rename_i ds es
    cases r1 with
    | tup h1 rs1 =>
      cases r2 with
      | tup h2 rs2 =>
        simp only [fAdd] at hf
        split at hf
        · cases hf
          rename_i hl
          have k : Keeps F H := .of_same le
          refine op_catA pins s σ H _ _ v u Q I rx ry ⟨_, _, _, _, rfl, rfl, sqt le h1, sqt le h2, big_line (by rw [← rs1.length, ← rs2.length]; exact hl), fun z => ?_, fun _ z => ?_, fun _ _ p hp => ?_⟩
          · subst z; cases rs1
            exact q _ _ _ grow0 (.tup h2 rs2)
          · subst z; cases rs2
            rw [List.append_nil] at q
            exact q _ _ _ grow0 (.tup h1 rs1)
          · exact q _ _ _ (grow1 hp) (new_tup hp le (rs1.append rs2))
        · cases hf
  · rename_i ds es
    cases r1 with
    | lst h1 rs1 =>
      cases r2 with
      | lst h2 rs2 =>
        simp only [fAdd] at hf
        split at hf
        · cases hf
          rename_i hl
          exact op_cat pins s σ H _ _ v u Q I rx ry ⟨_, _, _, _, rfl, rfl, le _ _ h1, le _ _ h2, big_line (by rw [← rs1.length, ← rs2.length]; exact hl), fun p hp => q _ _ _ (grow1 hp) (new_lst hp le (rs1.append rs2))⟩
        · cases hf
theorem or_sub : OpR X (binaryOp .Sub) (rF2 X fSub) := by
  rintro pins s σ H x y v u Q I rx ry ⟨F, d, e, z, le, r1, r2, hf, q⟩
  cases d <;> cases e <;> first | (cases hf; done) | skip
  cases r1; cases r2; cases hf
  exact op_sub pins s σ H _ _ v u Q I rx ry ⟨_, _, rfl, rfl, q _ _ _ grow0 (.int _)⟩
theorem or_mul : OpR X (binaryOp .Mult) (rF2 X fMul) := by
  rintro pins s σ H x y v u Q I rx ry ⟨F, d, e, z, le, r1, r2, hf, q⟩
  cases d <;> cases e <;> first | (cases hf; done) | skip
  · cases r1; cases r2
    simp only [fMul] at hf
    split at hf
    · cases hf
      rename_i hl
      refine op_mul pins s σ H _ _ v u Q I rx ry ⟨_, _, rfl, rfl, ?_, q _ _ _ grow0 (.int _)⟩
      unfold CMul
      omega
    · cases hf
  · rename_i ds k
    cases r1 with
    | lst h1 rs1 =>
      cases r2
      simp only [fMul] at hf
      split at hf
      · cases hf
        rename_i hl
        obtain ⟨hl1, hl2⟩ := hl
        refine op_rep pins s σ H _ _ v u Q I rx ry ⟨_, _, _, rfl, rfl, le _ _ h1, by omega, by omega, big_line (by rw [← rs1.length]; exact hl2), fun p hp => q _ _ _ (grow1 hp) (new_lst hp le ?_)⟩
        generalize k.toNat = m
        clear hl2 q rx ry hl1
        induction m with
        | zero => exact .nil
        | succ m ih =>
          rw [List.replicate_succ, List.replicate_succ, List.flatten_cons, List.flatten_cons]
          exact rs1.append ih
      · cases hf
theorem or_div : OpR X (binaryOp .FloorDiv) (rF2 X fDiv) := by
  rintro pins s σ H x y v u Q I rx ry ⟨F, d, e, z, le, r1, r2, hf, q⟩
  cases d <;> cases e <;> first | (cases hf; done) | skip
  cases r1; cases r2
  simp only [fDiv] at hf
  split at hf
  · cases hf
    rename_i hl
    exact op_fdiv pins s σ H _ _ v u Q I rx ry ⟨_, _, rfl, rfl, hl, q _ _ _ grow0 (.int _)⟩
  · cases hf
theorem or_mod : OpR X (binaryOp .Mod) (rF2 X fMod) := by
  rintro pins s σ H x y v u Q I rx ry ⟨F, d, e, z, le, r1, r2, hf, q⟩
  cases d <;> cases e <;> first | (cases hf; done) | skip
  cases r1; cases r2
  simp only [fMod] at hf
  split at hf
  · cases hf
    rename_i hl
    exact op_mod pins s σ H _ _ v u Q I rx ry ⟨_, _, rfl, rfl, hl, q _ _ _ grow0 (.int _)⟩
  · cases hf
theorem or_pow : OpR X (binaryOp .Pow) (rF2 X fPow) := by
  rintro pins s σ H x y v u Q I rx ry ⟨F, d, e, z, le, r1, r2, hf, q⟩
  cases d <;> cases e <;> first | (cases hf; done) | skip
  cases r1; cases r2
  simp only [fPow] at hf
  split at hf
  · cases hf
    rename_i hl
    exact op_pow pins s σ H _ _ v u Q I rx ry ⟨_, _, rfl, rfl, hl, q _ _ _ grow0 (.int _)⟩
  · cases hf
theorem ur_neg : UnR X (unaryOp .USub) (rF1 X fNeg) := by
  rintro pins s σ H x v Q I rx ⟨F, d, z, le, r1, hf, q⟩
  cases d <;> first | (cases hf; done) | skip
  cases r1; cases hf
  exact un_neg pins s σ H _ v Q I rx ⟨_, rfl, q _ _ _ grow0 (.int _)⟩
variable (hu : X.A.units + 64 < cLine)
include hu
theorem room_py {d e : D} (h : okd dmax d = true) : X.A.units + min (py d).depth (py e).depth < cLine := by
  have := (py_ok _ d h).2
  have : (py d).depth ≤ 12 := this
  omega
theorem or_eq : OpR X (compareOp .Eq) (rF2 X fEq) := by
  rintro pins s σ H x y v u Q I rx ry ⟨F, d, e, z, le, r1, r2, hf, q⟩
  unfold fEq at hf
  split at hf
  · rename_i hl
    cases hf
    obtain ⟨as, ra⟩ := (r1.same le).reads I hl.1 rx
    obtain ⟨bs, rb⟩ := (r2.same le).reads I hl.2 ry
    exact PySem.SeqAt.eq_plain ra rb (py_ok _ d hl.1).1 (py_ok _ e hl.2).1 (room_py hu hl.1) ⟨.bl _, H, I, rfl, q _ _ _ grow0 (.bl _)⟩
  · cases hf
theorem or_ne : OpR X (compareOp .NotEq) (rF2 X fNe) := by
  rintro pins s σ H x y v u Q I rx ry ⟨F, d, e, z, le, r1, r2, hf, q⟩
  unfold fNe at hf
  split at hf
  · rename_i hl
    cases hf
    obtain ⟨as, ra⟩ := (r1.same le).reads I hl.1 rx
    obtain ⟨bs, rb⟩ := (r2.same le).reads I hl.2 ry
    exact PySem.SeqAt.ne_plain ra rb (py_ok _ d hl.1).1 (py_ok _ e hl.2).1 (room_py hu hl.1) ⟨.bl _, H, I, rfl, q _ _ _ grow0 (.bl _)⟩
  · cases hf
end
theorem cmpOk_and {d e : D} (h : cmpOk d e = true) : okd dmax d = true ∧ okd dmax e = true ∧ PySem.W.alike (py d) (py e) = true ∧ py d ≠ .none := by
  unfold cmpOk at h
  simp only [Bool.and_eq_true] at h
  obtain ⟨⟨⟨h1, h2⟩, h3⟩, h4⟩ := h
  refine ⟨h1, h2, h3, ?_⟩
  cases d <;> first | (cases h4; done) | (simp [py]; done) | (simp [okd] at h1; done)
section
variable {X : Cx} (hu : X.A.units + 64 < cLine)
include hu
theorem or_lt : OpR X (compareOp .Lt) (rF2 X fLt) := by
  rintro pins s σ H x y v u Q I rx ry ⟨F, d, e, z, le, r1, r2, hf, q⟩
  unfold fLt at hf
  split at hf
  · cases r1; cases r2; cases hf
    exact op_lt pins s σ H _ _ v u Q I rx ry ⟨_, _, rfl, rfl, q _ _ _ grow0 (.bl _)⟩
  · split at hf
    · rename_i hl
      cases hf
      obtain ⟨h1, h2, h3, h4⟩ := cmpOk_and hl
      obtain ⟨as, ra⟩ := (r1.same le).reads I h1 rx
      obtain ⟨bs, rb⟩ := (r2.same le).reads I h2 ry
      exact PySem.W.lt_data ra rb h3 h4 (room_py hu h1) ⟨.bl _, H, I, rfl, q _ _ _ grow0 (.bl _)⟩
    · cases hf
theorem or_gt : OpR X (compareOp .Gt) (rF2 X fGt) := by
  rintro pins s σ H x y v u Q I rx ry ⟨F, d, e, z, le, r1, r2, hf, q⟩
  unfold fGt at hf
  split at hf
  · cases r1; cases r2; cases hf
    exact op_gt pins s σ H _ _ v u Q I rx ry ⟨_, _, rfl, rfl, q _ _ _ grow0 (.bl _)⟩
  · split at hf
    · rename_i hl
      cases hf
      obtain ⟨h1, h2, h3, h4⟩ := cmpOk_and hl
      obtain ⟨as, ra⟩ := (r1.same le).reads I h1 rx
      obtain ⟨bs, rb⟩ := (r2.same le).reads I h2 ry
      exact PySem.W.gt_data ra rb h3 h4 (room_py hu h1) ⟨.bl _, H, I, rfl, q _ _ _ grow0 (.bl _)⟩
    · cases hf
theorem or_le : OpR X (compareOp .LtE) (rF2 X fLe) := by
  rintro pins s σ H x y v u Q I rx ry ⟨F, d, e, z, le, r1, r2, hf, q⟩
  unfold fLe at hf
  split at hf
  · cases r1; cases r2; cases hf
    exact op_le pins s σ H _ _ v u Q I rx ry ⟨_, _, rfl, rfl, q _ _ _ grow0 (.bl _)⟩
  · split at hf
    · rename_i hl
      cases hf
      obtain ⟨h1, h2, h3, h4⟩ := cmpOk_and hl
      obtain ⟨as, ra⟩ := (r1.same le).reads I h1 rx
      obtain ⟨bs, rb⟩ := (r2.same le).reads I h2 ry
      exact PySem.W.le_data ra rb h3 h4 (room_py hu h1) ⟨.bl _, H, I, rfl, q _ _ _ grow0 (.bl _)⟩
    · cases hf
theorem or_ge : OpR X (compareOp .GtE) (rF2 X fGe) := by
  rintro pins s σ H x y v u Q I rx ry ⟨F, d, e, z, le, r1, r2, hf, q⟩
  unfold fGe at hf
  split at hf
  · cases r1; cases r2; cases hf
    exact op_ge pins s σ H _ _ v u Q I rx ry ⟨_, _, rfl, rfl, q _ _ _ grow0 (.bl _)⟩
  · split at hf
    · rename_i hl
      cases hf
      obtain ⟨h1, h2, h3, h4⟩ := cmpOk_and hl
      obtain ⟨as, ra⟩ := (r1.same le).reads I h1 rx
      obtain ⟨bs, rb⟩ := (r2.same le).reads I h2 ry
      exact PySem.W.ge_data ra rb h3 h4 (room_py hu h1) ⟨.bl _, H, I, rfl, q _ _ _ grow0 (.bl _)⟩
    · cases hf
end

/-! ### names, constants -/
def eVar (i : Nat) : Ef D := fun e => match e.s[i]? with
  | some (.val d) => .ok d e
  | some (.own d) => .ok d ⟨e.s.set i (.val d), e.b⟩
  | _ => .stuck
section
variable {X : Cx} {E : SK} {a b : Expr} {f g : Ef D} {pos : Pos}
theorem de_var (i : Nat) {x : Str} (hN : X.N[i]? = some x := by rfl) (hv : Vis X.env.scope x := by first | exact Or.inl rfl | exact Or.inr (Or.inl rfl) | exact Or.inr (Or.inr rfl)) (hd : (x == ("__debug__" : Str)) = false := by decide)
    (hcd : (x == ("__classdict__" : Str)) = false := by decide) : DE X E (.Name x pos) (eVar i) := by
  refine ⟨PE.imp (pv i hN hv hd hcd) ?_⟩
  rintro σ H Q ⟨bs, ex, F, e, s, p⟩
  unfold eVar at p
  split at p
  · rename_i d h
    obtain ⟨v, h1, h2⟩ := s.val i d h
    exact ⟨v, h1, p H F s (Step.refl _ _ _) v h2⟩
  · rename_i d h
    obtain ⟨F', a, h1, s', st, r⟩ := s.freeze h
    exact ⟨_, h1, p H F' s' st _ r⟩
  · exact p.elim
theorem de_const {x : Expr} {v : V} {d : D} (h : PE X x (tC v)) (r : ∀ F, Rep X.K F d v) : DE X E x (rtn d) := by
  refine ⟨PE.imp h ?_⟩
  rintro σ H Q ⟨bs, ex, F, e, s, p⟩
  exact p.rtn s v (r F)
theorem de_int {i : Int} {j : Nat} : DE X E (.Constant (.int i) j pos) (rtn (.int i)) := de_const pe_int fun _ => .int i
theorem de_bl {b : Bool} {j : Nat} : DE X E (.Constant (.bool b) j pos) (rtn (.bl b)) := de_const pe_bl fun _ => .bl b
theorem de_non {j : Nat} : DE X E (.Constant .none j pos) (rtn .non) := de_const pe_non fun _ => .non
theorem de_str {x : Str} {j : Nat} : DE X E (.Constant (.str x) j pos) (rtn (.str x)) := de_const pe_str fun _ => .str x
/-- a module's constant -/
theorem de_glob {x : Str} {v : V} {u : Value} {d : D} (hm : X.mg x = some u) (r : RelV v u) (rd : ∀ F, Rep X.K F d v) (hg : Gl X x := by rfl) (hd : (x == ("__debug__" : Str)) = false := by decide) : DE X E (.Name x pos) (rtn d) :=
  de_const (pe_glob hg hm r hd) rd
theorem de_globInt {x : Str} {i : Int} {t : Tok} (hm : X.mg x = some (.int i t)) (hg : Gl X x := by rfl) (hd : (x == ("__debug__" : Str)) = false := by decide) : DE X E (.Name x pos) (rtn (.int i)) :=
  de_glob hm (v := .int i) ⟨t, rfl⟩ (fun _ => .int i) hg hd
/-- a built-in class as a value -/
theorem de_type {x : Str} {n : String} (hm : X.mg x = none) (hv : bootBuiltins x = some (.type n)) (hg : Gl X x := by rfl) (hn : x ≠ "__name__" := by decide) (hd : (x == ("__debug__" : Str)) = false := by decide) : DE X E (.Name x pos) (rtn (.ty n)) :=
  de_const (pe_bltn (v := .ty n) hg hm hv rfl hn hd) fun _ => .ty n

/-! ### and, or, not, if -/
variable {fa fb : Ef Bool} {rest : List Expr}
def tAndF (f g : Ef Bool) : Ef Bool := bnd f fun b => if b = true then g else rtn false
def tOrF (f g : Ef Bool) : Ef Bool := bnd f fun b => if b = true then rtn true else g
def tNotF (f : Ef Bool) : Ef Bool := bnd f fun b => rtn (!b)
/-- chains of and, or as tests -/
structure DW (X : Cx) (E : SK) (x : Expr) (f : Ef Bool) : Prop where
  pw : PW X x (tDT X.K E f)
theorem PW.imp {X : Cx} {x : Expr} {t t' : TT} (h : PW X x t) (i : ∀ σ H Q, t' σ H Q → t σ H Q) : PW X x t' := ⟨fun wh pins s σ H Q I hw => h.run wh pins s σ H Q I (i σ H Q hw)⟩
theorem dw_and1 (h : DT X E a fa) : DW X E (.BoolOp .And [a] pos) fa := ⟨pw_and1 h.pt⟩
theorem dw_or1 (h : DT X E a fa) : DW X E (.BoolOp .Or [a] pos) fa := ⟨pw_or1 h.pt⟩
theorem dw_and (h : DT X E a fa) (h2 : DW X E (.BoolOp .And (b :: rest) pos) fb) : DW X E (.BoolOp .And (a :: b :: rest) pos) (tAndF fa fb) := by
  refine ⟨PW.imp (pw_and h.pt h2.pw) ?_⟩
  rintro σ H Q ⟨bs, ex, F, e, s, p⟩
  refine ⟨bs, ex, F, e, s, p.bnd.imp fun c e1 H1 F1 _ s1 st1 p1 => ?_⟩
  cases c with
  | true => exact ⟨bs, ex, F1, e1, s1, p1⟩
  | false => exact p1.rtn s1
theorem dw_or (h : DT X E a fa) (h2 : DW X E (.BoolOp .Or (b :: rest) pos) fb) : DW X E (.BoolOp .Or (a :: b :: rest) pos) (tOrF fa fb) := by
  refine ⟨PW.imp (pw_or h.pt h2.pw) ?_⟩
  rintro σ H Q ⟨bs, ex, F, e, s, p⟩
  refine ⟨bs, ex, F, e, s, p.bnd.imp fun c e1 H1 F1 _ s1 st1 p1 => ?_⟩
  cases c with
  | true => exact p1.rtn s1
  | false => exact ⟨bs, ex, F1, e1, s1, p1⟩
theorem dt_w (h : DW X E a fa) : DT X E a fa := ⟨h.pw.pt⟩
theorem dt_not (h : DT X E a fa) : DT X E (.UnaryOp .Not a pos) (tNotF fa) := by
  refine ⟨PT.imp (pt_not h.pt) ?_⟩
  rintro σ H Q ⟨bs, ex, F, e, s, p⟩
  exact ⟨bs, ex, F, e, s, p.bnd.imp fun c e1 H1 F1 _ s1 st1 p1 => p1.rtn s1⟩
/-- truth of any data -/
def truth : D → Option Bool
  | .non => some false
  | .bl b => some b
  | .int i => some (i != 0)
  | .str x => if x.length ≤ big then some (x.length != 0) else none
  | .tup xs => some (!xs.isEmpty)
  | .ktp xs => some (!xs.isEmpty)
  | .lst xs => some (!xs.isEmpty)
  | _ => none
def eTru (f : Ef D) : Ef Bool := bnd f fun d => lift (truth d)
/-- .. as values -/
def eAnd (f g : Ef D) : Ef D := bnd f fun d => match d with
  | .bl true => g
  | .bl false => rtn (.bl false)
  | _ => stk
def eOr (f g : Ef D) : Ef D := bnd f fun d => match d with
  | .bl true => rtn (.bl true)
  | .bl false => g
  | _ => stk
def eNot (f : Ef D) : Ef D := bnd f fun d => match d with
  | .bl b => rtn (.bl (!b))
  | _ => stk
theorem de_one {op : BoolOp} (h : DE X E a f) : DE X E (.BoolOp op [a] pos) f := ⟨pe_one h.pe⟩
theorem de_and (h : DE X E a f) (h2 : DE X E (.BoolOp .And (b :: rest) pos) g) : DE X E (.BoolOp .And (a :: b :: rest) pos) (eAnd f g) := by
  refine ⟨PE.imp (pe_and h.pe h2.pe) ?_⟩
  rintro σ H Q ⟨bs, ex, F, e, s, p⟩
  refine ⟨bs, ex, F, e, s, p.bnd.imp fun c e1 H1 F1 _ s1 st1 p1 v r => ?_⟩
  cases r <;> first | exact p1.elim | skip
  rename_i kk _
  refine ⟨kk, rfl, ?_⟩
  cases kk with
  | true => exact ⟨bs, ex, F1, e1, s1, p1⟩
  | false => exact p1.rtn s1 _ (.bl false)
theorem de_not (h : DE X E a f) : DE X E (.UnaryOp .Not a pos) (eNot f) := by
  refine ⟨PE.imp (pe_not h.pe) ?_⟩
  rintro σ H Q ⟨bs, ex, F, e, s, p⟩
  refine ⟨bs, ex, F, e, s, p.bnd.imp fun c e1 H1 F1 _ s1 st1 p1 v r => ?_⟩
  cases r <;> first | exact p1.elim | skip
  rename_i kk _
  exact ⟨kk, rfl, p1.rtn s1 _ (.bl _)⟩
def eIf (t : Ef Bool) (f g : Ef D) : Ef D := bnd t fun b => if b = true then f else g
theorem de_if {c : Expr} (h : DT X E c fa) (ha : DE X E a f) (hb : DE X E b g) : DE X E (.IfExp c a b pos) (eIf fa f g) := by
  refine ⟨PE.imp (pe_ifExp h.pt ha.pe hb.pe) ?_⟩
  rintro σ H Q ⟨bs, ex, F, e, s, p⟩
  refine ⟨bs, ex, F, e, s, p.bnd.imp fun c e1 H1 F1 _ s1 st1 p1 => ?_⟩
  cases c with
  | true => exact ⟨bs, ex, F1, e1, s1, p1⟩
  | false => exact ⟨bs, ex, F1, e1, s1, p1⟩
/-- a < b < c -/
def eChain (fn fm : D → D → Option D) (f g h : Ef D) : Ef D := bnd f fun x => bnd g fun y => bnd (lift (fn x y)) fun z => match z with
  | .bl true => bnd h fun w => lift (fm y w)
  | .bl false => rtn (.bl false)
  | _ => stk
theorem chain_core {fn fm : D → D → Option D} {c : Expr} {h : Ef D} : ∀ σ H Q, tD X.K E (eChain fn fm f g h) σ H Q → tChain (rF2 X fn) (rF2 X fm) (tD X.K E f) (tD X.K E g) (tD X.K E h) σ H Q := by
  rintro σ H Q ⟨bs, ex, F, e, s, p⟩
  refine ⟨bs, ex, F, e, s, p.bnd.imp fun d1 e1 H1 F1 _ s1 st1 p1 v1 r1 => ⟨bs, ex, F1, e1, s1, p1.bnd.imp fun d2 e2 H2 F2 _ s2 st2 p2 v2 r2 => ?_⟩⟩
  obtain ⟨d, hd, q⟩ := p2.bnd.lift
  refine ⟨F2, d1, d2, d, s2.le, r1.same st2.1, r2, hd, fun v F' H' gr rv => ?_⟩
  obtain ⟨s3, st3⟩ := s2.grow gr
  have q3 := q H' F' s3 st3
  cases rv <;> first | exact q3.elim | skip
  rename_i k
  refine ⟨k, rfl, ?_⟩
  cases k with
  | false => exact q3.rtn s3 _ (.bl false)
  | true =>
    refine ⟨bs, ex, F', _, s3, q3.bnd.imp fun d4 e4 H4 F4 _ s4 st4 p4 v4 r4 => ?_⟩
    obtain ⟨z, hz, q5⟩ := p4.lift
    refine ⟨F4, d2, d4, z, s4.le, (r2.same st3.1).same st4.1, r4, hz, fun v F5 H5 gr5 rv5 => ?_⟩
    obtain ⟨s5, st5⟩ := s4.grow gr5
    exact q5 H5 F5 s5 st5 v rv5
end

/-! ### argument lists, displays -/
def aCons (f : Ef D) (g : Ef (List D)) : Ef (List D) := bnd f fun d => bnd g fun ds => rtn (d :: ds)
def items : D → Option (List D)
  | .tup xs => some xs
  | .ktp xs => some xs
  | .lst xs => some xs
  | _ => none
def aStar (f : Ef D) (g : Ef (List D)) : Ef (List D) := bnd f fun d => bnd (lift (items d)) fun xs => bnd g fun ds => rtn (xs ++ ds)
def eTup (f : Ef (List D)) : Ef D := bnd f fun ds => lift (if ds.length ≤ big then some (.tup ds) else none)
def eLst (f : Ef (List D)) : Ef D := bnd f fun ds => lift (if ds.length ≤ big then some (.lst ds) else none)
def eFn (fn : List D → Option D) (f : Ef (List D)) : Ef D := bnd f fun ds => lift (fn ds)
section
variable {X : Cx} {E : SK} {a b : Expr} {es : List Expr} {f g : Ef D} {h : Ef (List D)} {pos : Pos}
theorem da_nil : DA X E [] (rtn []) := by
  refine ⟨PA.imp pa_nil ?_⟩
  rintro σ H Q ⟨bs, ex, F, e, s, p⟩
  exact p.rtn s _ .nil
theorem da_cons (ha : DE X E a f) (hb : DA X E es h) (hs : starEach (a :: es) X.env = (false, eval a X.env) :: starEach es X.env := by rfl) : DA X E (a :: es) (aCons f h) := by
  refine ⟨PA.imp (pa_cons ha.pe hb.pa hs) ?_⟩
  rintro σ H Q ⟨bs, ex, F, e, s, p⟩
  refine ⟨bs, ex, F, e, s, p.bnd.imp fun d e1 H1 F1 _ s1 st1 p1 v r => ⟨bs, ex, F1, e1, s1, p1.bnd.imp fun ds e2 H2 F2 _ s2 st2 p2 vs rs => ?_⟩⟩
  exact p2.rtn s2 _ (.cons (r.same st2.1) rs)
theorem da_star {p : Pos} (ha : DE X E a f) (hb : DA X E es h) (hs : starEach (.Starred a p :: es) X.env = (true, eval a X.env) :: starEach es X.env := by rfl) : DA X E (.Starred a p :: es) (aStar f h) := by
  refine ⟨PA.imp (StX.pa_star ha.pe hb.pa hs) ?_⟩
  rintro σ H Q ⟨bs, ex, F, e, s, p⟩
  refine ⟨bs, ex, F, e, s, p.bnd.imp fun d e1 H1 F1 _ s1 st1 p1 v r => ?_⟩
  obtain ⟨xs, hx, p1⟩ := p1.bnd.lift
  have p1 := p1 H1 F1 s1 (Step.refl _ _ _)
  have go : ∀ ws, Reps X.K F1 xs ws → tDA X.K E h σ H1 fun ys H2 => Q (ws ++ ys) H2 := fun ws rw' => ⟨bs, ex, F1, e1, s1, p1.bnd.imp fun ds e2 H2 F2 _ s2 st2 p2 vs rs => p2.rtn s2 _ ((rw'.same st2.1).append rs)⟩
  cases r with
  | tup hs1 rs1 => cases hx; exact ⟨_, _, rfl, .inl (sqt s1.le hs1), go _ rs1⟩
  | ktp hs1 rs1 => cases hx; exact ⟨_, _, rfl, .inl (hs1.sq s1.le), go _ rs1⟩
  | lst hs1 rs1 => cases hx; exact ⟨_, _, rfl, .inr (.of (s1.le _ _ hs1)), go _ rs1⟩
  | _ => cases hx
theorem de_tup {k : Nat} (hh : DA X E es h) : DE X E (.Tuple es k pos) (eTup h) := by
  refine ⟨PE.imp (pe_tup hh.pa) ?_⟩
  rintro σ H Q ⟨bs, ex, F, e, s, p⟩
  refine ⟨bs, ex, F, e, s, p.bnd.imp fun ds e1 H1 F1 _ s1 st1 p1 vs r => ?_⟩
  obtain ⟨d, hd, q⟩ := p1.lift
  split at hd
  · rename_i hl
    cases hd
    refine ⟨big_line (by rw [← r.length]; exact hl), fun p hp => ?_⟩
    obtain ⟨s2, st2⟩ := s1.grow (grow1 (o := .tup vs) hp)
    exact q _ _ s2 st2 _ (new_tup hp s1.le r)
  · cases hd
/-- a new object comes in, nobody else's -/
theorem StR.alloc {K : PySem.W.Frag} {bs ex : List Addr} {σ : L2.St} {H F : Hp} {e : En} (s : StR K bs ex σ H F e) {p : Addr} {o : HO} (hp : H p = none) (w : Wr o) :
    StR K bs (p :: ex) σ (upd H p o) F e ∧ Step ex H F (upd H p o) F := by
  have np : ∀ a, Hid e.s σ bs ex a → a ≠ p := fun a q z => s.fresh hp (z ▸ q)
  refine ⟨⟨s.len, s.val, fun i d q => ?_, s.bor, s.inj, fun a h => ⟨(s.out a h).1, fun z => ?_⟩, fun a h => ?_, fun a h => ?_, s.bl, fun j d q => ?_, s.bn, fun a h z => ?_, fun a h => ?_, s.tb.new hp⟩, Same.refl _, fun a h => upd_ne (np a (.inr (.inr h)))⟩
  · obtain ⟨a, h1, h2⟩ := s.own i d q
    exact ⟨a, h1, h2.same (Same.refl _) (upd_ne (np a (.inl ⟨i, d, q, h1⟩)))⟩
  · rcases List.mem_cons.mp z with z | z
    · exact np a (.inl h) z
    · exact (s.out a h).2 z
  · rcases h with h | h | h
    · exact s.hid a (.inl h)
    · exact s.hid a (.inr (.inl h))
    · rcases List.mem_cons.mp h with rfl | h
      · exact s.le.free hp
      · exact s.hid a (.inr (.inr h))
  · have : a ≠ p := fun z => h (.inr (.inr (z ▸ List.mem_cons_self)))
    rw [msk_congr (upd_ne this)]
    exact s.vis a fun z => h (z.imp id (.imp id (List.mem_cons_of_mem _)))
  · obtain ⟨a, h1, h2⟩ := s.br j d q
    exact ⟨a, h1, h2.same (Same.refl _) (upd_ne (np a (.inr (.inl (List.mem_of_getElem? h1)))))⟩
  · rcases List.mem_cons.mp z with z | z
    · exact np a (.inr (.inl h)) z
    · exact s.bx a h z
  · rcases List.mem_cons.mp h with rfl | h
    · exact ⟨o, upd_same, w⟩
    · obtain ⟨o', h1, h2⟩ := s.mu a h
      exact ⟨o', by rw [upd_ne (np a (.inr (.inr h)))]; exact h1, h2⟩
theorem StR.nex {K : PySem.W.Frag} {bs ex : List Addr} {σ : L2.St} {H F : Hp} {e : En} (s : StR K bs ex σ H F e) {p : Addr} (hp : H p = none) : p ∉ ex := fun z => s.fresh hp (.inr (.inr z))
theorem dn_lst (hh : DA X E es h) : DN X E (.List es pos) (eLst h) := by
  refine ⟨PE.imp (pe_lst hh.pa) ?_⟩
  rintro σ H Q ⟨bs, ex, F, e, s, p⟩
  refine ⟨bs, ex, F, e, s, p.bnd.imp fun ds e1 H1 F1 _ s1 st1 p1 vs r => ?_⟩
  obtain ⟨d, hd, q⟩ := p1.lift
  split at hd
  · rename_i hl
    cases hd
    refine ⟨big_line (by rw [← r.length]; exact hl), fun p hp => ?_⟩
    obtain ⟨s2, st2⟩ := s1.alloc (o := .lst vs) hp trivial
    exact q p _ _ s2 st2 (s1.nex hp) (.lst upd_same r)
  · cases hd
/-- a new object as a value -/
theorem DN.de (hn : DN X E a f) : DE X E a f := by
  refine ⟨PE.imp hn.pe ?_⟩
  rintro σ H Q ⟨bs, ex, F, e, s, p⟩
  refine ⟨bs, ex, F, e, s, ?_⟩
  unfold Post at p
  unfold PostN
  generalize f e = r at p ⊢
  cases r with
  | ok d e' =>
    refine fun a H' F' s' st' na o => ?_
    obtain ⟨F2, s2, st2, r2⟩ := s'.release o na
    exact p H' F2 s2 (st'.trans st2) _ r2
  | exc c as e' => exact p
  | stuck => exact p
end

/-! ### calls of built-ins -/
section
variable {X : Cx} {E : SK} {a : Expr} {es : List Expr} {h : Ef (List D)} {pos p : Pos} {x : Str} {id T : String} {fn : List D → Option D}
theorem fn_core : ∀ σ H Q, tD X.K E (eFn fn h) σ H Q → tCB (rFs X fn) (tDA X.K E h) σ H Q := by
  rintro σ H Q ⟨bs, ex, F, e, s, p⟩
  refine ⟨bs, ex, F, e, s, p.bnd.imp fun ds e1 H1 F1 _ s1 st1 p1 vs r => ?_⟩
  obtain ⟨d, hd, q⟩ := p1.lift
  refine ⟨F1, ds, d, s1.le, r, hd, fun v F' H' gr rv => ?_⟩
  obtain ⟨s3, st3⟩ := s1.grow gr
  exact q H' F' s3 st3 v rv
theorem de_callB (hc : CallR X (.builtin id) (rFs X fn)) (hm : X.mg x = none) (hv : bootBuiltins x = some (.builtin id)) (ha : DA X E (a :: es) h) (hg : Gl X x := by rfl) (hn : x ≠ "__name__" := by decide) (hdb : (x == ("__debug__" : Str)) = false := by decide)
    (he : starEach (a :: es) X.env = (false, eval a X.env) :: starEach es X.env := by rfl) (hpl : (backTo pos (starEach es X.env)).any (·.1) = false := by rfl) : DE X E (.Call (.Name x p) (a :: es) [] pos) (eFn fn h) :=
  ⟨PE.imp (pe_callB hc hg hm hv ha.pa hn hdb he hpl) fn_core⟩
theorem de_callTy (hc : CallR X (.type T) (rFs X fn)) (hm : X.mg x = none) (hv : bootBuiltins x = some (.type T)) (ha : DA X E (a :: es) h) (hg : Gl X x := by rfl) (hn : x ≠ "__name__" := by decide) (hdb : (x == ("__debug__" : Str)) = false := by decide)
    (he : starEach (a :: es) X.env = (false, eval a X.env) :: starEach es X.env := by rfl) (hpl : (backTo pos (starEach es X.env)).any (·.1) = false := by rfl) : DE X E (.Call (.Name x p) (a :: es) [] pos) (eFn fn h) :=
  ⟨PE.imp (pe_callTy hc hg hm hv ha.pa hn hdb he hpl) fn_core⟩
end

/-! ### defs -/
/-- what a def promises: g of the arguments (values, or one borrowed object) and of the borrowed object -/
def ArgsOk (n : Nat) (e : En) : Prop := e.s.length = n ∧ ∀ (i : Nat) (s : DL.Slot), e.s[i]? = some s → (∃ d, s = .val d) ∨ ∃ j, s = .bor j
def spD (K : PySem.W.Frag) (n : Nat) (g : Ef D) : Sp := fun vs H Q E => ∃ bs ex F e, StR K bs ex (vs.map some) H F e ∧ ArgsOk n e ∧ match g e with
  | .ok d e' => ∀ v H' F', StR K bs ex [] H' F' ⟨[], e'.b⟩ → Step ex H F H' F' → Rep K F' d v → Q v H'
  | .exc c as e' => ∀ dx H' F', StR K bs ex [] H' F' ⟨[], e'.b⟩ → Step ex H F H' F' → ExcR K F' as dx → E (.ref c) dx H'
  | .stuck => False
/-- a body as a function of the arguments -/
def runB (n : Nat) (body : Ef Fl) : Ef D := fun e => match body ⟨e.s ++ List.replicate (n - e.s.length) .und, e.b⟩ with
  | .ok .nx e' => .ok .non e'
  | .ok (.rt d) e' => .ok d e'
  | .ok _ _ => .stuck
  | .exc c as e' => .exc c as e'
  | .stuck => .stuck
/-- a def that may be called by its name -/
structure Cal (P : Program) (w : World) (K : PySem.W.Frag) (mg : Str → Option Value) (base : Heap) (k : Nat) (x : Str) (n : Nat) (g : Ef D) : Prop where
  ex : ∃ (f : Addr) (fd : FuncData) (ps : List Str) (sp : Sp) (ds : List Value) (dvs : List V), Vals dvs ds ∧ FnOk P w K mg base (L2.CX P w) k f fd ps sp ∧ mg x = some (.ref f) ∧ PySem.W.keepIn K (.ref f) = true ∧ Binds K fd ps ds ∧
    ∀ vs H Q E, spD K n g vs H Q E → sp (vs ++ dvs) H Q E

/-- the slots are left behind -/
theorem StR.leave {K : PySem.W.Frag} {bs ex : List Addr} {σ : L2.St} {H F : Hp} {e : En} (s : StR K bs ex σ H F e) : ∃ F', StR K bs ex [] H F' ⟨[], e.b⟩ ∧ Step ex H F H F' := by
  have hid' : ∀ a, Hid [] [] bs ex a → Hid e.s σ bs ex a := fun a h => by
    rcases h with ⟨i, d, h, _⟩ | h
    · simp at h
    · exact .inr h
  have k := seen_same (ss := []) (σ' := []) (bs' := bs) (ex' := ex) s hid'
  refine ⟨_, ⟨rfl, fun i d h => by simp at h, fun i d h => by simp at h, fun i j h => by simp at h, fun i j d d' a h => by simp at h, fun a ⟨i, d, h, _⟩ => by simp at h, fun a h => seen_hid h, fun a h => seen_vis h, s.bl, fun j d h => ?_, s.bn, s.bx, s.mu, s.tb⟩, k, fun _ _ => rfl⟩
  obtain ⟨a, h1, h2⟩ := s.br j d h
  exact ⟨a, h1, h2.same k rfl⟩
/-- more slots, not bound -/
theorem StR.more {K : PySem.W.Frag} {bs ex : List Addr} {σ : L2.St} {H F : Hp} {e : En} (s : StR K bs ex σ H F e) (m : Nat) : StR K bs ex (σ ++ List.replicate m none) H F ⟨e.s ++ List.replicate m .und, e.b⟩ := by
  have g1 : ∀ {i : Nat} {x : Slot}, (e.s ++ List.replicate m .und)[i]? = some x → x ≠ .und → e.s[i]? = some x := fun {i x} h n => by
    rw [List.getElem?_append] at h
    split at h
    · exact h
    · rw [List.getElem?_replicate] at h
      split at h
      · cases h; exact absurd rfl n
      · cases h
  have g2 : ∀ {i : Nat} {x : Slot}, e.s[i]? = some x → (σ ++ List.replicate m none)[i]? = σ[i]? := fun {i x} h => by
    rw [List.getElem?_append_left]
    rw [← s.len]; exact (List.getElem?_eq_some_iff.mp h).1
  have g3 : ∀ {i : Nat} {x : Slot}, e.s[i]? = some x → (e.s ++ List.replicate m .und)[i]? = some x := fun {i x} h => by
    rw [List.getElem?_append_left (List.getElem?_eq_some_iff.mp h).1]; exact h
  have own' : ∀ a, IsOwn (e.s ++ List.replicate m .und) (σ ++ List.replicate m none) a ↔ IsOwn e.s σ a := fun a => by
    constructor
    · rintro ⟨i, d, h1, h2⟩
      have h := g1 h1 (fun z => by cases z)
      rw [g2 h] at h2
      exact ⟨i, d, h, h2⟩
    · rintro ⟨i, d, h1, h2⟩
      exact ⟨i, d, g3 h1, by rw [g2 h1]; exact h2⟩
  have hid' : ∀ a, Hid (e.s ++ List.replicate m .und) (σ ++ List.replicate m none) bs ex a ↔ Hid e.s σ bs ex a := fun a => by unfold Hid; rw [own' a]
  refine ⟨by simp [s.len], fun i d h => ?_, fun i d h => ?_, fun i j h => ?_, fun i j d d' a h1 h2 h3 h4 => ?_, fun a h => s.out a ((own' a).mp h), fun a h => s.hid a ((hid' a).mp h), fun a h => s.vis a fun z => h ((hid' a).mpr z), s.bl, s.br, s.bn, s.bx, s.mu, s.tb⟩
  · have h := g1 h (fun z => by cases z)
    rw [g2 h]; exact s.val i d h
  · have h := g1 h (fun z => by cases z)
    rw [g2 h]; exact s.own i d h
  · have h := g1 h (fun z => by cases z)
    rw [g2 h]; exact s.bor i j h
  · have h1 := g1 h1 (fun z => by cases z)
    have h2 := g1 h2 (fun z => by cases z)
    rw [g2 h1] at h3
    rw [g2 h2] at h4
    exact s.inj i j d d' a h1 h2 h3 h4

theorem StR.cast {K : PySem.W.Frag} {bs ex : List Addr} {vs : List V} {H F : Hp} {e : En} {n m : Nat} (s : StR K bs ex (vs.map some ++ List.replicate (n - m) none) H F e) (h : vs.length = m) {N : List Str} (hN : N.length = n := by rfl) : StR K bs ex (L2.start N vs) H F e := by
  unfold L2.start
  rw [h, hN]
  exact s
theorem ExcR.same {K : PySem.W.Frag} {F F' : Hp} {as : List D} {dx : Option Addr} (k : Same F F') (h : ExcR K F as dx) : ExcR K F' as dx := by
  cases as with
  | nil => exact h
  | cons a r =>
    obtain ⟨d, fs, h1, h2, h3⟩ := h
    exact ⟨d, fs, h1, k _ _ h2, h3.same k⟩

section
variable {P : Program} {w : World} {K : PySem.W.Frag} {mg : Str → Option Value} {base : Heap}
/-- the context of a def's body -/
theorem DC.of {qual : Str} {scope : Scope} {f : Addr} {cdv : Value} {A : Around} {outer : List PySem.Env} {s : Shared} {H : Hp} {E : XK} {N : List Str} (nd : N.Nodup) : DC (cxOf (L2.CX P w) P w K mg base N qual scope f cdv A outer s H E) (sk E) :=
  ⟨passes_of rfl, fun σ pins H s e s' => passes_call (takes_of rfl rfl rfl rfl) (fun _ _ _ _ h => h) pins σ H s e s', rfl, nd, takes_of rfl rfl rfl rfl⟩
/-- THE RULE for a def -/
theorem fnok_of {x qual : Str} {st : Stmt} {f : Addr} {fd : FuncData} {N ps : List Str} {dvs : List V} {kws : List (Str × V)} {n k : Nat} {body : Ef Fl} (F : FunD K x qual (defArgs st) (defBody st) (defScope st) dvs kws f fd) (S : FnScope N ps (defScope st)) (hn : ps.length = n)
    (hbody : ∀ (X : Cx) (E : XK) (cdv : Value) (A : Around) (outer : List PySem.Env) (s : Shared) (H : Hp), X = cxOf (L2.CX P w) P w K mg base N qual (defScope st) f cdv A outer s H E → DC X (sk E) → Room k X.A → DSs X (sk E) (defBody st) body) :
    FnOk P w K mg base (L2.CX P w) (k + 1) f fd ps (spD K n (runB N.length body)) := by
  refine F.ok S (fun vs H Q E h => ?_) (fun cdv A outer s H vs Q E hr h => ?_)
  · obtain ⟨bs, ex, F0, e, s, ⟨a, _⟩, _⟩ := h
    have := s.len
    rw [List.length_map] at this
    omega
  · obtain ⟨bs, ex, F0, e, s0, ⟨a, a2⟩, hq⟩ := h
    refine ⟨_, (hbody _ E cdv A outer s H rfl (DC.of S.nd) hr).ps, ?_⟩
    have hvs : vs.length = e.s.length := by have := s0.len; rw [List.length_map] at this; omega
    refine ⟨bs, ex, F0, _, (s0.more (N.length - e.s.length)).cast hvs, ?_⟩
    unfold runB at hq
    generalize hb : body ⟨e.s ++ List.replicate (N.length - e.s.length) .und, e.b⟩ = r at hq ⊢
    cases r with
    | ok fl e' =>
      refine fun σ' H' F' s' st' => ?_
      obtain ⟨F2, s2, st2⟩ := s'.leave
      cases fl with
      | nx => exact hq .non H' F2 s2 (st'.trans st2) .non
      | rt d => exact fun v r => hq v H' F2 s2 (st'.trans st2) (r.same st2.1)
      | bk => exact hq.elim
      | ct => exact hq.elim
    | exc c as e' =>
      refine fun σ' dx H' F' s' st' x => ?_
      obtain ⟨F2, s2, st2⟩ := s'.leave
      exact hq dx H' F2 s2 (st'.trans st2) (x.same st2.1)
    | stuck => exact hq
theorem cal_of {x : Str} {st : Stmt} {f : Addr} {fd : FuncData} {N ps : List Str} {dvs : List V} {kws : List (Str × V)} {n k : Nat} {body : Ef Fl} (F : FunD K x x (defArgs st) (defBody st) (defScope st) dvs kws f fd) (hm : mg x = some (.ref f)) (b : Binds K fd ps []) (S : FnScope N ps (defScope st)) (hn : ps.length = n)
    (hbody : ∀ (X : Cx) (E : XK) (cdv : Value) (A : Around) (outer : List PySem.Env) (s : Shared) (H : Hp), X = cxOf (L2.CX P w) P w K mg base N x (defScope st) f cdv A outer s H E → DC X (sk E) → Room k X.A → DSs X (sk E) (defBody st) body) :
    Cal P w K mg base (k + 1) x n (runB N.length body) :=
  ⟨f, fd, ps, _, [], [], .nil, fnok_of F S hn hbody, hm, F.kp, b, fun vs H Q E h => by rw [List.append_nil]; exact h⟩
/-- values put behind the arguments -/
theorem StR.moreV {bs ex : List Addr} {vs us : List V} {H F : Hp} {e : En} {ds : List D} (s : StR K bs ex (vs.map some) H F e) (r : Reps K F ds us) : StR K bs ex ((vs ++ us).map some) H F ⟨e.s ++ ds.map .val, e.b⟩ := by
  have hl : e.s.length = vs.length := by rw [s.len, List.length_map]
  have g1 : ∀ {i : Nat} {x : Slot}, (e.s ++ ds.map .val)[i]? = some x → (i < vs.length ∧ e.s[i]? = some x) ∨ (vs.length ≤ i ∧ ∃ d, ds[i - vs.length]? = some d ∧ x = .val d) := fun {i x} h => by
    rw [List.getElem?_append] at h
    split at h
    · rename_i hi; exact .inl ⟨by omega, h⟩
    · rename_i hi
      rw [List.getElem?_map, hl] at h
      cases hd : ds[i - vs.length]? with
      | none => rw [hd] at h; cases h
      | some d => rw [hd] at h; cases h; exact .inr ⟨by omega, d, rfl, rfl⟩
  have g2 : ∀ {i : Nat}, i < vs.length → ((vs ++ us).map some)[i]? = (vs.map some)[i]? := fun {i} h => by
    rw [List.map_append, List.getElem?_append_left (by simpa using h)]
  have own' : ∀ a, IsOwn (e.s ++ ds.map .val) ((vs ++ us).map some) a ↔ IsOwn e.s (vs.map some) a := fun a => by
    constructor
    · rintro ⟨i, d, h1, h2⟩
      rcases g1 h1 with ⟨hi, h⟩ | ⟨_, d', _, h⟩
      · rw [g2 hi] at h2; exact ⟨i, d, h, h2⟩
      · cases h
    · rintro ⟨i, d, h1, h2⟩
      have hi : i < e.s.length := (List.getElem?_eq_some_iff.mp h1).1
      exact ⟨i, d, by rw [List.getElem?_append_left hi]; exact h1, by rw [g2 (by omega)]; exact h2⟩
  have hid' : ∀ a, Hid (e.s ++ ds.map .val) ((vs ++ us).map some) bs ex a ↔ Hid e.s (vs.map some) bs ex a := fun a => by unfold Hid; rw [own' a]
  refine ⟨by simp [hl, r.length], fun i d h => ?_, fun i d h => ?_, fun i j h => ?_, fun i j d d' a h1 h2 h3 h4 => ?_, fun a h => s.out a ((own' a).mp h), fun a h => s.hid a ((hid' a).mp h), fun a h => s.vis a fun z => h ((hid' a).mpr z), s.bl, s.br, s.bn, s.bx, s.mu, s.tb⟩
  · rcases g1 h with ⟨hi, h⟩ | ⟨hi, d', h1, h⟩
    · rw [g2 hi]; exact s.val i d h
    · cases h
      obtain ⟨v, h2, h3⟩ := r.get h1
      exact ⟨v, by rw [List.map_append, List.getElem?_append_right (by simpa using hi), List.length_map, List.getElem?_map, h2]; rfl, h3⟩
  · rcases g1 h with ⟨hi, h⟩ | ⟨hi, d', h1, h⟩
    · rw [g2 hi]; exact s.own i d h
    · cases h
  · rcases g1 h with ⟨hi, h⟩ | ⟨hi, d', h1, h⟩
    · rw [g2 hi]; exact s.bor i j h
    · cases h
  · rcases g1 h1 with ⟨hi, h1⟩ | ⟨_, _, _, h⟩
    · rcases g1 h2 with ⟨hj, h2⟩ | ⟨_, _, _, h⟩
      · rw [g2 hi] at h3
        rw [g2 hj] at h4
        exact s.inj i j d d' a h1 h2 h3 h4
      · cases h
    · cases h
/-- a def called without its last arguments -/
theorem cal_ofD {x : Str} {st : Stmt} {f : Addr} {fd : FuncData} {N ps : List Str} {dvs us : List V} {kws : List (Str × V)} {ds : List Value} {dd : List D} {n k : Nat} {body : Ef Fl} (F : FunD K x x (defArgs st) (defBody st) (defScope st) dvs kws f fd) (hm : mg x = some (.ref f)) (hv : Vals us ds) (b : Binds K fd ps ds)
    (hd : ∀ F, Reps K F dd us) (S : FnScope N ps (defScope st)) (hn : ps.length = n + dd.length)
    (hbody : ∀ (X : Cx) (E : XK) (cdv : Value) (A : Around) (outer : List PySem.Env) (s : Shared) (H : Hp), X = cxOf (L2.CX P w) P w K mg base N x (defScope st) f cdv A outer s H E → DC X (sk E) → Room k X.A → DSs X (sk E) (defBody st) body) :
    Cal P w K mg base (k + 1) x n (fun e => runB N.length body ⟨e.s ++ dd.map .val, e.b⟩) := by
  refine ⟨f, fd, ps, _, ds, us, hv, fnok_of F S hn hbody, hm, F.kp, b, fun vs H Q E h => ?_⟩
  obtain ⟨bs, ex, F0, e, s, ⟨a1, a2⟩, q⟩ := h
  refine ⟨bs, ex, F0, _, s.moreV (hd F0), ⟨by simp [a1], fun i t ht => ?_⟩, q⟩
  rw [List.getElem?_append] at ht
  split at ht
  · exact a2 i t ht
  · rw [List.getElem?_map] at ht
    cases hq : dd[i - e.s.length]? with
    | none => rw [hq] at ht; cases ht
    | some d => rw [hq] at ht; cases ht; exact .inl ⟨d, rfl⟩
end

section
variable {K : PySem.W.Frag} {bs ex : List Addr} {σ : L2.St} {H F H' F' : Hp} {e : En}
/-- what is hidden, as a list -/
theorem hid_list (ss : List DL.Slot) (σ : L2.St) (bs ex : List Addr) : ∃ L : List Addr, ∀ a, a ∈ L ↔ Hid ss σ bs ex a := by
  refine ⟨((List.range ss.length).filterMap fun (i : Nat) => match ss[i]?, σ[i]? with
    | some (DL.Slot.own _), some (some (V.ref a)) => some a
    | _, _ => none) ++ (bs ++ ex), fun a => ?_⟩
  rw [List.mem_append, List.mem_append, List.mem_filterMap]
  refine or_congr ⟨?_, ?_⟩ Iff.rfl
  · rintro ⟨i, hi, h⟩
    split at h
    · rename_i d b h1 h2
      cases h
      exact ⟨i, d, h1, h2⟩
    · cases h
  · rintro ⟨i, d, h1, h2⟩
    refine ⟨i, List.mem_range.mpr (List.getElem?_eq_some_iff.mp h1).1, ?_⟩
    rw [h1, h2]
theorem reps_vals_at {ds : List D} {vs : List V} (r : Reps K F ds vs) {i : Nat} {d : D} (h : (ds.map DL.Slot.val)[i]? = some (.val d)) : ∃ v, (vs.map some)[i]? = some (some v) ∧ Rep K F d v := by
  rw [List.getElem?_map] at h
  cases hd : ds[i]? with
  | none => rw [hd] at h; cases h
  | some d' =>
    rw [hd] at h; cases h
    obtain ⟨v, h1, h2⟩ := r.get hd
    exact ⟨v, by rw [List.getElem?_map, h1]; rfl, h2⟩
theorem map_val_at {ds : List D} {i : Nat} {s : DL.Slot} (h : (ds.map DL.Slot.val)[i]? = some s) : ∃ d, s = .val d := by
  rw [List.getElem?_map] at h
  cases hd : ds[i]? with
  | none => rw [hd] at h; cases h
  | some d' => rw [hd] at h; cases h; exact ⟨_, rfl⟩
theorem map_val_own {ds : List D} {i : Nat} {d : D} (h : (ds.map DL.Slot.val)[i]? = some (.own d)) : False := by
  obtain ⟨d', h'⟩ := map_val_at h; cases h'
theorem map_val_bor {ds : List D} {i j : Nat} (h : (ds.map DL.Slot.val)[i]? = some (.bor j)) : False := by
  obtain ⟨d', h'⟩ := map_val_at h; cases h'
theorem StR.callee0 (s : StR K bs ex σ H F e) {L : List Addr} (hL : ∀ a, a ∈ L ↔ Hid e.s σ bs ex a) {ds : List D} {vs : List V} (r : Reps K F ds vs) : StR K [] L (vs.map some) H F ⟨ds.map .val, []⟩ := by
  have no : ∀ a, ¬ IsOwn (ds.map DL.Slot.val) (vs.map some) a := fun a ⟨i, d, h, _⟩ => by
    obtain ⟨d', h'⟩ := map_val_at h; cases h'
  have hh : ∀ a, Hid (ds.map DL.Slot.val) (vs.map some) [] L a ↔ Hid e.s σ bs ex a := fun a => by
    rw [← hL a]
    exact ⟨fun h => h.elim (fun z => (no a z).elim) (·.elim (fun z => nomatch z) id), fun h => .inr (.inr h)⟩
  refine ⟨by simp [r.length], fun i d h => reps_vals_at r h, fun i d h => ?_, fun i j h => ?_, fun i j d d' a h => ?_, fun a h => (no a h).elim, fun a h => s.hid a ((hh a).mp h), fun a h => s.vis a (fun z => h ((hh a).mpr z)), rfl, (fun j d h => by simp at h), List.nodup_nil, (fun a h => nomatch h), fun a h => s.wr ((hL a).mp h), s.tb⟩
  · exact (map_val_own h).elim
  · exact (map_val_bor h).elim
  · exact (map_val_own h).elim
/-- the caller's state behind a call that left its own objects as they were -/
theorem StR.back0 (s : StR K bs ex σ H F e) {L : List Addr} (hL : ∀ a, a ∈ L ↔ Hid e.s σ bs ex a) {b : List D} (t : StR K [] L [] H' F' ⟨[], b⟩) (st : Step L H F H' F') : StR K bs ex σ H' F' e ∧ Step ex H F H' F' := by
  have hh : ∀ a, Hid [] [] [] L a ↔ Hid e.s σ bs ex a := fun a => by
    rw [← hL a]
    exact ⟨fun h => h.elim (fun ⟨i, d, z, _⟩ => by simp at z) (·.elim (fun z => nomatch z) id), fun h => .inr (.inr h)⟩
  have eq : ∀ a, Hid e.s σ bs ex a → H' a = H a := fun a h => st.2 a ((hL a).mpr h)
  refine ⟨⟨s.len, fun i d h => ?_, fun i d h => ?_, s.bor, s.inj, s.out, fun a h => t.hid a ((hh a).mpr h), fun a h => t.vis a fun z => h ((hh a).mp z), s.bl, fun j d h => ?_, s.bn, s.bx, fun a h => ?_, t.tb⟩, st.1, fun a h => eq a (.inr (.inr h))⟩
  · obtain ⟨v, h1, h2⟩ := s.val i d h
    exact ⟨v, h1, h2.same st.1⟩
  · obtain ⟨a, h1, h2⟩ := s.own i d h
    exact ⟨a, h1, h2.same st.1 (eq a (.inl ⟨i, d, h, h1⟩))⟩
  · obtain ⟨a, h1, h2⟩ := s.br j d h
    exact ⟨a, h1, h2.same st.1 (eq a (.inr (.inl (List.mem_of_getElem? h1))))⟩
  · obtain ⟨o, h1, h2⟩ := s.mu a h
    exact ⟨o, by rw [eq a (.inr (.inr h))]; exact h1, h2⟩
theorem StR.callee1 (s : StR K bs ex σ H F e) {L : List Addr} (hL : ∀ a, a ∈ L ↔ Hid e.s σ bs ex a) {ds : List D} {vs : List V} (r : Reps K F ds vs) {a : Addr} {d : D} (ha : Hid e.s σ bs ex a) (o : OwnR K F H d a) :
    StR K [a] (L.filter (· ≠ a)) ((V.ref a :: vs).map some) H F ⟨.bor 0 :: ds.map .val, [d]⟩ := by
  have no : ∀ b, ¬ IsOwn (DL.Slot.bor 0 :: ds.map DL.Slot.val) ((V.ref a :: vs).map some) b := fun b ⟨i, d, h, _⟩ => by
    cases i with
    | zero => cases h
    | succ i => rw [List.getElem?_cons_succ] at h; exact map_val_own h
  have hh : ∀ b, Hid (DL.Slot.bor 0 :: ds.map DL.Slot.val) ((V.ref a :: vs).map some) [a] (L.filter (· ≠ a)) b ↔ Hid e.s σ bs ex b := fun b => by
    rw [← hL b]
    constructor
    · intro h
      rcases h with h | h | h
      · exact (no b h).elim
      · have : b = a := by simpa using h
        rw [this]; exact (hL a).mpr ha
      · exact (List.mem_filter.mp h).1
    · intro h
      by_cases z : b = a
      · exact .inr (.inl (by simp [z]))
      · exact .inr (.inr (List.mem_filter.mpr ⟨h, by simpa using z⟩))
  refine ⟨by simp [r.length], fun i d h => ?_, fun i d h => ?_, fun i j h => ?_, fun i j d d' b h => ?_, fun b h => (no b h).elim, fun b h => s.hid b ((hh b).mp h), fun b h => s.vis b fun z => h ((hh b).mpr z), rfl, fun j d h => ?_, by simp, fun b h z => ?_, fun b h => s.wr ((hL b).mp (List.mem_filter.mp h).1), s.tb⟩
  · cases i with
    | zero => cases h
    | succ i =>
      obtain ⟨v, h1, h2⟩ := reps_vals_at r (show (ds.map DL.Slot.val)[i]? = _ from by simpa using h)
      exact ⟨v, by simpa using h1, h2⟩
  · cases i with
    | zero => cases h
    | succ i => rw [List.getElem?_cons_succ] at h; exact (map_val_own h).elim
  · cases i with
    | zero => cases h; exact ⟨a, rfl, rfl⟩
    | succ i => rw [List.getElem?_cons_succ] at h; exact (map_val_bor h).elim
  · cases i with
    | zero => cases h
    | succ i => rw [List.getElem?_cons_succ] at h; exact (map_val_own h).elim
  · cases j with
    | zero => cases h; exact ⟨a, rfl, o⟩
    | succ j => simp at h
  · have e1 : b = a := by simpa using h
    have e2 := (List.mem_filter.mp z).2
    simp [e1] at e2
/-- .. behind a call that wrote the object at a -/
theorem StR.back1 (s : StR K bs ex σ H F e) {L : List Addr} (hL : ∀ a, a ∈ L ↔ Hid e.s σ bs ex a) {a : Addr} (ha : Hid e.s σ bs ex a) {b : List D} (t : StR K [a] (L.filter (· ≠ a)) [] H' F' ⟨[], b⟩) (st : Step (L.filter (· ≠ a)) H F H' F') :
    (∀ c, Hid e.s σ bs ex c → F' c = none) ∧ ((∀ c, ¬ Hid e.s σ bs ex c → F' c = msk H' c) ∧ TabOk H') ∧ (∀ c, Hid e.s σ bs ex c → c ≠ a → H' c = H c) ∧ ∃ d', b = [d'] ∧ OwnR K F' H' d' a := by
  have hh : ∀ c, Hid [] [] [a] (L.filter (· ≠ a)) c ↔ Hid e.s σ bs ex c := fun c => by
    rw [← hL c]
    constructor
    · intro h
      rcases h with ⟨i, d, z, _⟩ | h | h
      · simp at z
      · have : c = a := by simpa using h
        rw [this]; exact (hL a).mpr ha
      · exact (List.mem_filter.mp h).1
    · intro h
      by_cases z : c = a
      · exact .inr (.inl (by simp [z]))
      · exact .inr (.inr (List.mem_filter.mpr ⟨h, by simpa using z⟩))
  refine ⟨fun c h => t.hid c ((hh c).mpr h), ⟨fun c h => t.vis c fun z => h ((hh c).mp z), t.tb⟩, fun c h z => st.2 c (List.mem_filter.mpr ⟨(hL c).mpr h, by simpa using z⟩), ?_⟩
  have l : b.length = 1 := t.bl
  match b, l with
  | [d'], _ =>
    obtain ⟨c, h1, h2⟩ := t.br 0 d' rfl
    cases h1
    exact ⟨d', rfl, h2⟩
theorem StR.back1own (s : StR K bs ex σ H F e) {i : Nat} {a : Addr} {d d' : D} (hi : e.s[i]? = some (.own d)) (ha : σ[i]? = some (some (.ref a))) (st1 : Same F F') (q1 : ∀ c, Hid e.s σ bs ex c → F' c = none) (q2 : (∀ c, ¬ Hid e.s σ bs ex c → F' c = msk H' c) ∧ TabOk H')
    (q3 : ∀ c, Hid e.s σ bs ex c → c ≠ a → H' c = H c) (o : OwnR K F' H' d' a) : StR K bs ex σ H' F' ⟨e.s.set i (.own d'), e.b⟩ ∧ Step ex H F H' F' := by
  have isA : IsOwn e.s σ a := ⟨i, d, hi, ha⟩
  have hl : i < e.s.length := (List.getElem?_eq_some_iff.mp hi).1
  have own' : ∀ b, IsOwn (e.s.set i (.own d')) σ b ↔ IsOwn e.s σ b := fun b => by
    constructor
    · rintro ⟨j, d'', h1, h2⟩
      rcases get_set h1 with ⟨rfl, _, h⟩ | ⟨hj, h⟩
      · exact ⟨_, d, hi, h2⟩
      · exact ⟨j, d'', h, h2⟩
    · rintro ⟨j, d'', h1, h2⟩
      by_cases z : j = i
      · subst z; exact ⟨j, d', List.getElem?_set_self hl, h2⟩
      · exact ⟨j, d'', by rw [List.getElem?_set_ne (Ne.symm z)]; exact h1, h2⟩
  have hid' : ∀ b, Hid (e.s.set i (.own d')) σ bs ex b ↔ Hid e.s σ bs ex b := fun b => by unfold Hid; rw [own' b]
  have na : a ∉ bs ∧ a ∉ ex := s.out a isA
  refine ⟨⟨by simpa using s.len, fun j d'' h => ?_, fun j d'' h => ?_, fun j j' h => ?_, fun j j' d1 d2 b h1 h2 h3 h4 => ?_, fun b h => s.out b ((own' b).mp h), fun b h => q1 b ((hid' b).mp h), fun b h => q2.1 b fun z => h ((hid' b).mpr z), s.bl, fun j d'' h => ?_, s.bn, s.bx, fun b hb => ?_, q2.2⟩, st1, fun b hb => q3 b (.inr (.inr hb)) fun z => na.2 (z ▸ hb)⟩
  · rcases get_set h with ⟨_, _, h⟩ | ⟨hj, h⟩
    · cases h
    · obtain ⟨v, h1, h2⟩ := s.val j d'' h
      exact ⟨v, h1, h2.same st1⟩
  · rcases get_set h with ⟨rfl, _, h⟩ | ⟨hj, h⟩
    · cases h; exact ⟨a, ha, o⟩
    · obtain ⟨b, h1, h2⟩ := s.own j d'' h
      exact ⟨b, h1, h2.same st1 (q3 b (.inl ⟨j, d'', h, h1⟩) (fun z : b = a => hj (s.inj j i d'' d a h hi (z ▸ h1) ha)))⟩
  · rcases get_set h with ⟨_, _, h⟩ | ⟨hj, h⟩
    · cases h
    · exact s.bor j j' h
  · have c1 : ∃ d1, e.s[j]? = some (.own d1) := by
      rcases get_set h1 with ⟨rfl, _, _⟩ | ⟨_, h⟩
      · exact ⟨d, hi⟩
      · exact ⟨d1, h⟩
    have c2 : ∃ d2, e.s[j']? = some (.own d2) := by
      rcases get_set h2 with ⟨rfl, _, _⟩ | ⟨_, h⟩
      · exact ⟨d, hi⟩
      · exact ⟨d2, h⟩
    obtain ⟨d1, h1⟩ := c1
    obtain ⟨d2, h2⟩ := c2
    exact s.inj j j' d1 d2 b h1 h2 h3 h4
  · obtain ⟨b, h1, h2⟩ := s.br j d'' h
    exact ⟨b, h1, h2.same st1 (q3 b (.inr (.inl (List.mem_of_getElem? h1))) (fun z : b = a => na.1 (z ▸ List.mem_of_getElem? h1)))⟩
  · obtain ⟨o', h1, h2⟩ := s.mu b hb
    exact ⟨o', by rw [q3 b (.inr (.inr hb)) (fun z : b = a => na.2 (z ▸ hb))]; exact h1, h2⟩
theorem StR.back1bor (s : StR K bs ex σ H F e) {j : Nat} {a : Addr} {d' : D} (ha : bs[j]? = some a) (st1 : Same F F') (q1 : ∀ c, Hid e.s σ bs ex c → F' c = none) (q2 : (∀ c, ¬ Hid e.s σ bs ex c → F' c = msk H' c) ∧ TabOk H')
    (q3 : ∀ c, Hid e.s σ bs ex c → c ≠ a → H' c = H c) (o : OwnR K F' H' d' a) : StR K bs ex σ H' F' ⟨e.s, e.b.set j d'⟩ ∧ Step ex H F H' F' := by
  have mA : a ∈ bs := List.mem_of_getElem? ha
  have nx : a ∉ ex := s.bx a mA
  have nO : ∀ b, IsOwn e.s σ b → b ≠ a := fun b h z => (s.out b h).1 (by rw [z]; exact mA)
  refine ⟨⟨s.len, fun i d h => ?_, fun i d'' h => ?_, s.bor, s.inj, s.out, q1, q2.1, by simpa using s.bl, fun i d'' h => ?_, s.bn, s.bx, fun b hb => ?_, q2.2⟩, st1, fun b hb => q3 b (.inr (.inr hb)) fun z => nx (z ▸ hb)⟩
  · obtain ⟨v, h1, h2⟩ := s.val i d h
    exact ⟨v, h1, h2.same st1⟩
  · obtain ⟨b, h1, h2⟩ := s.own i d'' h
    exact ⟨b, h1, h2.same st1 (q3 b (.inl ⟨i, d'', h, h1⟩) (nO b ⟨i, d'', h, h1⟩))⟩
  · rcases get_set h with ⟨rfl, _, h⟩ | ⟨hj, h⟩
    · subst h; exact ⟨a, ha, o⟩
    · obtain ⟨b, h1, h2⟩ := s.br i d'' h
      exact ⟨b, h1, h2.same st1 (q3 b (.inr (.inl (List.mem_of_getElem? h1))) (fun z : b = a => hj (nd_ix s.bn h1 (by rw [z]; exact ha))))⟩
  · obtain ⟨o', h1, h2⟩ := s.mu b hb
    exact ⟨o', by rw [q3 b (.inr (.inr hb)) (fun z : b = a => nx (z ▸ hb))]; exact h1, h2⟩
end

/-! ### calls -/
def callG (n : Nat) (g : Ef D) (ds : List D) : Ef D := fun e => if ds.length = n then (match g ⟨ds.map .val, []⟩ with
  | .ok d _ => .ok d e
  | .exc c as _ => .exc c as e
  | .stuck => .stuck) else .stuck
def eCall (n : Nat) (g : Ef D) (h : Ef (List D)) : Ef D := bnd h (callG n g)
/-- the object of slot i, written over -/
def putS (i : Nat) (d : D) (e : En) : En := match e.s[i]? with
  | some (.own _) => ⟨e.s.set i (.own d), e.b⟩
  | some (.bor j) => ⟨e.s, e.b.set j d⟩
  | _ => e
/-- the own or borrowed object of slot i -/
def objS (i : Nat) (e : En) : Option D := match e.s[i]? with
  | some (.own d) => some d
  | some (.bor j) => e.b[j]?
  | _ => none
def callR (n : Nat) (g : Ef D) (i : Nat) (ds : List D) : Ef D := fun e => match objS i e with
  | some d => if ds.length + 1 = n then (match g ⟨.bor 0 :: ds.map .val, [d]⟩ with
    | .ok r e' => .ok r (putS i (e'.b.headD .non) e)
    | .exc c as e' => .exc c as (putS i (e'.b.headD .non) e)
    | .stuck => .stuck) else .stuck
  | none => .stuck
/-- slot i holds an object of one's own, or a borrowed one -/
def chk (i : Nat) : Ef Unit := fun e => match objS i e with
  | some _ => .ok () e
  | none => .stuck
def eCallR (n : Nat) (g : Ef D) (i : Nat) (h : Ef (List D)) : Ef D := bnd (chk i) fun _ => bnd h (callR n g i)
theorem chk_post {K : PySem.W.Frag} {E : SK} {bs ex : List Addr} {σ : L2.St} {H F : Hp} {e : En} {i : Nat} {P : Unit → En → Hp → Hp → Prop} (s : StR K bs ex σ H F e) (p : Post K E bs ex σ H F (chk i e) P) : (∃ a, σ[i]? = some (some (.ref a))) ∧ P () e H F := by
  unfold chk at p
  cases ho : objS i e with
  | none => rw [ho] at p; exact p.elim
  | some d =>
    rw [ho] at p
    refine ⟨?_, p H F s (Step.refl _ _ _)⟩
    unfold objS at ho
    split at ho
    · rename_i d0 h0
      obtain ⟨a, h1, _⟩ := s.own i _ h0
      exact ⟨a, h1⟩
    · rename_i j0 h0
      obtain ⟨a, _, h2⟩ := s.bor i _ h0
      exact ⟨a, h2⟩
    · cases ho
section
variable {X : Cx} {E : SK} {a : Expr} {es : List Expr} {g : Ef D} {h : Ef (List D)} {pos p : Pos} {x y : Str} {k j n : Nat}
theorem call_core {σ : L2.St} {H F : Hp} {bs ex : List Addr} {e : En} {ds : List D} {vs : List V} {Q : VK} (s : StR X.K bs ex σ H F e) (p : Post X.K E bs ex σ H F (callG n g ds e) fun d _ H' F' => ∀ v, Rep X.K F' d v → Q v H') (r : Reps X.K F ds vs) :
    spD X.K n g vs H Q (E σ) := by
  unfold callG at p
  split at p
  · rename_i hl
    obtain ⟨L, hL⟩ := hid_list e.s σ bs ex
    refine ⟨[], L, F, _, s.callee0 hL r, ⟨by simpa using hl, fun i t ht => .inl (map_val_at ht)⟩, ?_⟩
    generalize g ⟨ds.map .val, []⟩ = q at p ⊢
    cases q with
    | ok d e' =>
      refine fun v H' F' t st rv => ?_
      obtain ⟨s', st'⟩ := s.back0 hL t st
      exact p H' F' s' st' v rv
    | exc c as e' =>
      refine fun dx H' F' t st rx => ?_
      obtain ⟨s', st'⟩ := s.back0 hL t st
      exact p dx H' F' s' st' rx
    | stuck => exact p
  · exact p.elim
theorem de_call (C : DC X E) (c : Cal X.prog X.w X.K X.mg X.base k x n g) (hr : Room j X.A) (hk : k ≤ j) (ha : DA X E (a :: es) h) (hg : Gl X x := by rfl)
    (hdb : (x == ("__debug__" : Str)) = false := by decide) (he : starEach (a :: es) X.env = (false, eval a X.env) :: starEach es X.env := by rfl) (hpl : (backTo pos (starEach es X.env)).any (·.1) = false := by rfl) :
    DE X E (.Call (.Name x p) (a :: es) [] pos) (eCall n g h) := by
  obtain ⟨f, fd, ps, sp, dvl, dvs, hd, Fn, hm, kp, b, hsp⟩ := c.ex
  refine ⟨PE.imp (pe_callSD Fn (hr.mono hk) hg hm kp b hd C.tk ha.pa hdb he hpl) ?_⟩
  rintro σ H Q ⟨bs, ex, F, e, s, p⟩
  refine ⟨bs, ex, F, e, s, p.bnd.imp fun ds e1 H1 F1 q s1 st1 p1 vs r => ?_⟩
  exact hsp _ _ _ _ (call_core s1 p1 r)
theorem callR_core {σ : L2.St} {H F : Hp} {bs ex : List Addr} {e : En} {i : Nat} {u : V} {ds : List D} {vs : List V} {Q : VK} (s : StR X.K bs ex σ H F e) (p : Post X.K E bs ex σ H F (callR n g i ds e) fun d _ H' F' => ∀ v, Rep X.K F' d v → Q v H')
    (r : Reps X.K F ds vs) (hu : σ[i]? = some (some u)) : spD X.K n g (u :: vs) H Q (E σ) := by
  unfold callR at p
  cases ho : objS i e with
  | none => rw [ho] at p; exact p.elim
  | some d =>
    rw [ho] at p
    dsimp only at p
    split at p
    · rename_i hl
      obtain ⟨L, hL⟩ := hid_list e.s σ bs ex
      -- where it stands
      have key : ∃ a, u = .ref a ∧ Hid e.s σ bs ex a ∧ OwnR X.K F H d a ∧ ∀ (H' F' : Hp) (d' : D), Same F F' → (∀ c, Hid e.s σ bs ex c → F' c = none) → ((∀ c, ¬ Hid e.s σ bs ex c → F' c = msk H' c) ∧ TabOk H') →
          (∀ c, Hid e.s σ bs ex c → c ≠ a → H' c = H c) → OwnR X.K F' H' d' a → StR X.K bs ex σ H' F' (putS i d' e) ∧ Step ex H F H' F' := by
        unfold objS at ho
        split at ho
        · rename_i d0 h0
          cases ho
          obtain ⟨a, h1, h2⟩ := s.own i _ h0
          rw [hu] at h1; cases h1
          refine ⟨a, rfl, .inl ⟨i, _, h0, hu⟩, h2, fun H' F' d' k q1 q2 q3 o => ?_⟩
          unfold putS
          rw [h0]
          exact s.back1own h0 hu k q1 q2 q3 o
        · rename_i j0 h0
          obtain ⟨a, h1, h2⟩ := s.bor i _ h0
          rw [hu] at h2; cases h2
          obtain ⟨a', h3, h4⟩ := s.br j0 d ho
          rw [h1] at h3; cases h3
          refine ⟨a, rfl, .inr (.inl (List.mem_of_getElem? h1)), h4, fun H' F' d' k q1 q2 q3 o => ?_⟩
          unfold putS
          rw [h0]
          exact s.back1bor h1 k q1 q2 q3 o
        · cases ho
      obtain ⟨a, rfl, hid, own, back⟩ := key
      refine ⟨[a], L.filter (· ≠ a), F, _, s.callee1 hL r hid own, ⟨by simpa using hl, fun i t ht => ?_⟩, ?_⟩
      · cases i with
        | zero => cases ht; exact .inr ⟨0, rfl⟩
        | succ i => rw [List.getElem?_cons_succ] at ht; exact .inl (map_val_at ht)
      · generalize g ⟨.bor 0 :: ds.map .val, [d]⟩ = q at p ⊢
        cases q with
        | ok d1 e' =>
          refine fun v H' F' t st rv => ?_
          obtain ⟨q1, q2, q3, d', eb, o⟩ := s.back1 hL hid t st
          obtain ⟨s', st'⟩ := back H' F' d' st.1 q1 q2 q3 o
          have e1 : e'.b.headD .non = d' := by rw [eb]; rfl
          rw [← e1] at s'
          exact p H' F' s' st' v rv
        | exc c as e' =>
          refine fun dx H' F' t st rx => ?_
          obtain ⟨q1, q2, q3, d', eb, o⟩ := s.back1 hL hid t st
          obtain ⟨s', st'⟩ := back H' F' d' st.1 q1 q2 q3 o
          have e1 : e'.b.headD .non = d' := by rw [eb]; rfl
          rw [← e1] at s'
          exact p dx H' F' s' st' rx
        | stuck => exact p
    · exact p.elim
/-- f(y, ..), the first argument's object lent -/
theorem de_callR (C : DC X E) (c : Cal X.prog X.w X.K X.mg X.base k x n g) (hr : Room j X.A) (hk : k ≤ j) (i : Nat) {py : Pos} (ha : DA X E es h) (hN : X.N[i]? = some y := by rfl)
    (hv : Vis X.env.scope y := by first | exact Or.inl rfl | exact Or.inr (Or.inl rfl) | exact Or.inr (Or.inr rfl)) (hg : Gl X x := by rfl)
    (hdb : (x == ("__debug__" : Str)) = false := by decide) (hdy : (y == ("__debug__" : Str)) = false := by decide) (hcd : (y == ("__classdict__" : Str)) = false := by decide)
    (he : starEach (.Name y py :: es) X.env = (false, eval (.Name y py) X.env) :: starEach es X.env := by rfl) (hpl : (backTo pos (starEach es X.env)).any (·.1) = false := by rfl) :
    DE X E (.Call (.Name x p) (.Name y py :: es) [] pos) (eCallR n g i h) := by
  obtain ⟨f, fd, ps, sp, dvl, dvs, hd, Fn, hm, kp, b, hsp⟩ := c.ex
  refine ⟨PE.imp (pe_callSD Fn (hr.mono hk) hg hm kp b hd C.tk (pa_cons (pv i hN hv hdy hcd) ha.pa he) hdb he hpl) ?_⟩
  rintro σ H Q ⟨bs, ex, F, e, s, p⟩
  obtain ⟨⟨a0, hu⟩, p⟩ := chk_post s p.bnd
  refine ⟨_, hu, bs, ex, F, e, s, p.bnd.imp fun ds e1 H1 F1 q s1 st1 p1 vs r => ?_⟩
  exact hsp _ _ _ _ (callR_core s1 p1 r hu)
end

/-! ### statements -/
def sSeq (f g : Ef Fl) : Ef Fl := bnd f fun fl => match fl with
  | .nx => g
  | x => rtn x
def setV (i : Nat) (d : D) : Ef Unit := fun e => .ok () ⟨e.s.set i (.val d), e.b⟩
def setO (i : Nat) (d : D) : Ef Unit := fun e => .ok () ⟨e.s.set i (.own d), e.b⟩
def sSet (i : Nat) (f : Ef D) : Ef Fl := bnd f fun d => bnd (setV i d) fun _ => rtn .nx
def sSetN (i : Nat) (f : Ef D) : Ef Fl := bnd f fun d => bnd (setO i d) fun _ => rtn .nx
def sExpr (f : Ef D) : Ef Fl := bnd f fun _ => rtn .nx
def sRet (f : Ef D) : Ef Fl := bnd f fun d => rtn (.rt d)
def sIf (t : Ef Bool) (f g : Ef Fl) : Ef Fl := bnd t fun b => if b = true then f else g
section
variable {X : Cx} {E : SK} {a : Expr} {st : Stmt} {rest : List Stmt} {f : Ef D} {ft : Ef Bool} {fs gs : Ef Fl} {pos : Pos}
theorem dss_nil : DSs X E [] (rtn .nx) := by
  refine ⟨PSs.imp pss_nil ?_⟩
  rintro D σ H ⟨bs, ex, F, e, s, p⟩
  exact p σ H F s (Step.refl _ _ _)
theorem dss_cons (h1 : DS X E st fs) (h2 : DSs X E rest gs) : DSs X E (st :: rest) (sSeq fs gs) := by
  refine ⟨PSs.imp (pss_cons h1.ps h2.ps) ?_⟩
  rintro D σ H ⟨bs, ex, F, e, s, p⟩
  refine ⟨bs, ex, F, e, s, p.bnd.imp fun fl e1 σ1 H1 F1 _ s1 st1 p1 => ?_⟩
  cases fl with
  | nx => exact ⟨bs, ex, F1, e1, s1, p1⟩
  | rt d => exact p1 σ1 H1 F1 s1 (Step.refl _ _ _)
  | bk => exact p1 σ1 H1 F1 s1 (Step.refl _ _ _)
  | ct => exact p1 σ1 H1 F1 s1 (Step.refl _ _ _)
theorem dss_one (h1 : DS X E st fs) : DSs X E [st] fs := ⟨pss_one h1.ps⟩
theorem ds_expr (h : DE X E a f) (hs : swapsWith a none pos.line X.env = pure false := by rfl) : DS X E (.Expr a pos) (sExpr f) := by
  refine ⟨PS.imp (ps_expr h.pe hs) ?_⟩
  rintro D σ H ⟨bs, ex, F, e, s, p⟩
  exact ⟨bs, ex, F, e, s, p.bndE.imp fun d e1 H1 F1 _ s1 st1 p1 v r => p1 σ H1 F1 s1 (Step.refl _ _ _)⟩
theorem ds_ret (h : DE X E a f) : DS X E (.Return (some a) pos) (sRet f) := by
  refine ⟨PS.imp (ps_ret h.pe) ?_⟩
  rintro D σ H ⟨bs, ex, F, e, s, p⟩
  exact ⟨bs, ex, F, e, s, p.bndE.imp fun d e1 H1 F1 _ s1 st1 p1 v r => p1 σ H1 F1 s1 (Step.refl _ _ _) v r⟩
theorem ds_if {c : Expr} {A B : List Stmt} (hc : DT X E c ft) (ha : DSs X E A fs) (hb : DSs X E B gs) : DS X E (.If c A B pos) (sIf ft fs gs) := by
  refine ⟨PS.imp (ps_if hc.pt ha.ps hb.ps) ?_⟩
  rintro D σ H ⟨bs, ex, F, e, s, p⟩
  refine ⟨bs, ex, F, e, s, p.bndE.imp fun b e1 H1 F1 _ s1 st1 p1 => ?_⟩
  cases b with
  | true => exact ⟨bs, ex, F1, e1, s1, p1⟩
  | false => exact ⟨bs, ex, F1, e1, s1, p1⟩
theorem ds_set (C : DC X E) (i : Nat) {x : Str} {pos' : Pos} (h : DE X E a f) (hi : X.N[i]? = some x := by rfl) (hx : Loc X.env.scope x := by first | exact Or.inl rfl | exact Or.inr rfl) (hs : swapsWith a (some (.Name x pos')) pos.line X.env = pure false := by rfl)
    (hf : X.fn x = true ∨ X.env.scope.names.lookup x = some .local := by first | exact .inl rfl | exact .inr rfl) : DS X E (.Assign [.Name x pos'] a pos) (sSet i f) := by
  refine ⟨PS.imp (ps_set C.nd hi hx h.pe hs hf) ?_⟩
  rintro D σ H ⟨bs, ex, F, e, s, p⟩
  refine ⟨bs, ex, F, e, s, p.bndE.imp fun d e1 H1 F1 _ s1 st1 p1 v r => ?_⟩
  obtain ⟨F2, s2, st2⟩ := s1.setVal i r
  exact p1 _ H1 F2 s2 st2
theorem ds_setN (C : DC X E) (i : Nat) {x : Str} {pos' : Pos} (h : DN X E a f) (hi : X.N[i]? = some x := by rfl) (hx : Loc X.env.scope x := by first | exact Or.inl rfl | exact Or.inr rfl) (hs : swapsWith a (some (.Name x pos')) pos.line X.env = pure false := by rfl)
    (hf : X.fn x = true ∨ X.env.scope.names.lookup x = some .local := by first | exact .inl rfl | exact .inr rfl) : DS X E (.Assign [.Name x pos'] a pos) (sSetN i f) := by
  refine ⟨PS.imp (ps_set C.nd hi hx h.pe hs hf) ?_⟩
  rintro D σ H ⟨bs, ex, F, e, s, p⟩
  refine ⟨bs, ex, F, e, s, ?_⟩
  have p' := p
  unfold sSetN DL.bnd at p'
  unfold PostN
  generalize f e = r at p' ⊢
  cases r with
  | ok d e1 =>
    refine fun a' H1 F1 s1 st1 na o => ?_
    obtain ⟨F2, s2, st2⟩ := s1.setOwn i o na
    exact p' _ H1 F2 s2 (st1.trans st2)
  | exc c as e' => exact fun dx H' F' s t x => p' σ dx H' F' s t x
  | stuck => exact p'
end

/-! ### targets -/
def Agree (ts : List Nat) (σ σ' : L2.St) : Prop := σ'.length = σ.length ∧ ∀ j : Nat, j ∉ ts → σ'[j]? = σ[j]?
def tDG (K : PySem.W.Frag) (E : SK) (ts : List Nat) (g : D → Ef Unit) : TG := fun v σ H Q => ∃ bs ex F e d, StR K bs ex σ H F e ∧ Rep K F d v ∧ PostS K E bs ex H F (g d e) fun _ _ σ' H' _ => Agree ts σ σ' → Q σ' H'
def tDGs (K : PySem.W.Frag) (E : SK) (ts : List Nat) (g : List D → Ef Unit) : TGs := fun vs σ H Q => ∃ bs ex F e ds, StR K bs ex σ H F e ∧ Reps K F ds vs ∧ PostS K E bs ex H F (g ds e) fun _ _ σ' H' _ => Agree ts σ σ' → Q σ' H'
structure DG (X : Cx) (E : SK) (ts : List Nat) (x : Expr) (g : D → Ef Unit) : Prop where
  pg : PG X x (tDG X.K E ts g)
structure DGs (X : Cx) (E : SK) (ts : List Nat) (xs : List Expr) (g : List D → Ef Unit) : Prop where
  pgs : PGs X xs (tDGs X.K E ts g)
theorem PG.imp {X : Cx} {x : Expr} {t t' : TG} (h : PG X x t) (i : ∀ v σ H Q, t' v σ H Q → t v σ H Q) : PG X x t' := ⟨fun pins s σ H v u Q I r hw => h.run pins s σ H v u Q I r (i v σ H Q hw)⟩
theorem PGs.imp {X : Cx} {x : List Expr} {t t' : TGs} (h : PGs X x t) (i : ∀ v σ H Q, t' v σ H Q → t v σ H Q) : PGs X x t' := ⟨fun pins s σ H v u Q I r hw => h.run pins s σ H v u Q I r (i v σ H Q hw)⟩
def gsNil : List D → Ef Unit
  | [] => rtn ()
  | _ => stk
def gsCons (g : D → Ef Unit) (gs : List D → Ef Unit) : List D → Ef Unit
  | d :: ds => bnd (g d) fun _ => gs ds
  | [] => stk
def gTupD (n : Nat) (gs : List D → Ef Unit) : D → Ef Unit
  | .tup ds => if ds.length = n then gs ds else stk
  | .ktp ds => if ds.length = n then gs ds else stk
  | _ => stk
section
variable {X : Cx} {E : SK} {ts us : List Nat} {a : Expr} {es : List Expr} {g : D → Ef Unit} {gs : List D → Ef Unit} {pos : Pos}
theorem dg_name (C : DC X E) (i : Nat) {x : Str} (hi : X.N[i]? = some x := by rfl) (hx : Loc X.env.scope x := by first | exact Or.inl rfl | exact Or.inr rfl)
    (hf : X.fn x = true ∨ X.env.scope.names.lookup x = some .local := by first | exact .inl rfl | exact .inr rfl) : DG X E [i] (.Name x pos) (setV i) := by
  refine ⟨PG.imp (pg_name C.nd hi hx hf) ?_⟩
  rintro v σ H Q ⟨bs, ex, F, e, d, s, r, p⟩
  obtain ⟨F2, s2, st2⟩ := s.setVal i r
  exact p _ H F2 s2 st2 ⟨by simp, fun j hj => List.getElem?_set_ne (fun z => hj (by simp [z]))⟩
theorem dgs_nil : DGs X E [] [] gsNil := by
  refine ⟨PGs.imp pgs_nil ?_⟩
  rintro vs σ H Q ⟨bs, ex, F, e, ds, s, r, p⟩
  cases r with
  | nil => exact ⟨rfl, p σ H F s (Step.refl _ _ _) ⟨rfl, fun _ _ => rfl⟩⟩
  | cons h t => exact p.elim
theorem dgs_cons (h1 : DG X E ts a g) (h2 : DGs X E us es gs) (hs : (assignEach (a :: es) X.env).map (·.2) = assign a X.env :: (assignEach es X.env).map (·.2) := by rfl) : DGs X E (ts ++ us) (a :: es) (gsCons g gs) := by
  refine ⟨PGs.imp (pgs_cons h1.pg h2.pgs hs) ?_⟩
  rintro vs σ H Q ⟨bs, ex, F, e, ds, s, r, p⟩
  cases r with
  | nil => exact p.elim
  | cons hd tl =>
    refine ⟨_, _, rfl, bs, ex, F, e, _, s, hd, p.bnd.imp fun _ e1 σ1 H1 F1 _ s1 st1 p1 ag => ?_⟩
    refine ⟨bs, ex, F1, e1, _, s1, tl.same st1.1, p1.imp fun _ e2 σ2 H2 F2 _ s2 st2 p2 ag2 => p2 ⟨ag2.1.trans ag.1, fun j hj => ?_⟩⟩
    rw [List.mem_append, not_or] at hj
    exact (ag2.2 j hj.2).trans (ag.2 j hj.1)
theorem dg_tup (C : DC X E) {k n : Nat} (h : DGs X E ts es gs) (hn : (assignEach es X.env).length = n := by rfl) (hst : (assignEach es X.env).findIdx? (·.1) = none := by rfl) : DG X E ts (.Tuple es k pos) (gTupD n gs) := by
  refine ⟨PG.imp (pg_tup C.calm h.pgs hn hst) ?_⟩
  rintro v σ H Q ⟨bs, ex, F, e, d, s, r, p⟩
  cases r with
  | tup hq rs =>
    simp only [gTupD] at p
    split at p
    · rename_i hl
      exact ⟨_, _, rfl, sqt s.le hq, by rw [← rs.length]; exact hl, bs, ex, F, e, _, s, rs, p⟩
    · exact p.elim
  | ktp hq rs =>
    simp only [gTupD] at p
    split at p
    · rename_i hl
      exact ⟨_, _, rfl, hq.sq s.le, by rw [← rs.length]; exact hl, bs, ex, F, e, _, s, rs, p⟩
    · exact p.elim
  | _ => exact p.elim
/-- target = value -/
def sAsg (f : Ef D) (g : D → Ef Unit) : Ef Fl := bnd f fun d => bnd (g d) fun _ => rtn .nx
theorem ds_asg {tg : Expr} {f : Ef D} (h : DE X E a f) (hg : DG X E ts tg g) (hs : swapsWithSole [tg] a pos.line X.env = pure false := by rfl) (hw : swappedStores [tg] a X.env = pure none := by rfl)
    (h1 : (assignEach [tg] X.env).map (·.2) = [assign tg X.env] := by rfl) : DS X E (.Assign [tg] a pos) (sAsg f g) := by
  refine ⟨PS.imp (ps_asg h.pe hg.pg hs hw h1) ?_⟩
  rintro D σ H ⟨bs, ex, F, e, s, p⟩
  refine ⟨bs, ex, F, e, s, p.bndE.imp fun d e1 H1 F1 _ s1 st1 p1 v r => ⟨bs, ex, F1, e1, d, s1, r, p1.bnd.imp fun _ e2 σ2 H2 F2 _ s2 st2 p2 _ => p2 σ2 H2 F2 s2 (Step.refl _ _ _)⟩⟩
end

/-! ### what is walked -/
structure WalkD (K : PySem.W.Frag) (J : It) (ds : List D) (F : Hp) : Prop where
  go : ∀ i H, i < ds.length → Same F H → J.go i H
  stop : ∀ H, Same F H → J.stop ds.length H
  yld : ∀ i H v H' d, ds[i]? = some d → Same F H → J.yld i H v H' → (H' = H ∧ Rep K F d v) ∨ (∃ T xs es, v = .ref T ∧ H T = none ∧ H' = upd H T (.tup xs) ∧ d = .tup es ∧ Reps K F es xs) ∨ (H' = H ∧ ∃ q ks, v = .ref q ∧ d = keyT ks ∧ H q = some (.tup (ks.map kV)))
theorem rep_key {K : PySem.W.Frag} {F : Hp} (k : Key) : Rep K F (keyD k) (kV k) := by
  cases k with
  | inl i => exact .int i
  | inr x => exact .str x
theorem reps_key {K : PySem.W.Frag} {F : Hp} : ∀ ks : List Key, Reps K F (ks.map keyD) (ks.map kV)
  | [] => .nil
  | k :: r => .cons (rep_key k) (reps_key r)
theorem WalkD.next {K : PySem.W.Frag} {J : It} {ds : List D} {F F1 : Hp} {bs ex : List Addr} {σ : L2.St} {e : En} (w : WalkD K J ds F) {i : Nat} {H H' : Hp} {v : V} {d : D} (hd : ds[i]? = some d) (k : Same F F1) (s : StR K bs ex σ H F1 e) (y : J.yld i H v H') : ∃ F2, Grow F1 H F2 H' ∧ Rep K F2 d v := by
  rcases w.yld i H v H' d hd (k.trans s.le) y with ⟨rfl, r⟩ | ⟨T, xs, es, rfl, hT, rfl, rfl, r⟩ | ⟨rfl, q, ks, rfl, rfl, hq⟩
  · exact ⟨F1, grow0, r.same k⟩
  · exact ⟨_, grow1 hT, new_tup hT s.le (r.same k)⟩
  · have nh : ¬ Hid e.s σ bs ex q := fun z => by
      obtain ⟨o, h1, h2⟩ := s.wr z
      rw [hq] at h1; cases h1
      exact h2
    exact ⟨F1, grow0, .tup (s.visO nh hq (fun _ z => by cases z)) (reps_key ks)⟩
def tDI (K : PySem.W.Frag) (E : SK) (f : Ef (List D)) : TI := fun σ H R => ∃ bs ex F e, StR K bs ex σ H F e ∧ Post K E bs ex σ H F (f e) fun ds _ H' F' => ∀ J, WalkD K J ds F' → R J H'
structure DI (X : Cx) (E : SK) (tg x : Expr) (f : Ef (List D)) : Prop where
  pi : PI X tg x (tDI X.K E f)
theorem PI.imp {X : Cx} {tg x : Expr} {t t' : TI} (h : PI X tg x t) (i : ∀ σ H R, t' σ H R → t σ H R) : PI X tg x t' := ⟨fun pins s σ H R I hw => h.run pins s σ H R I (i σ H R hw)⟩

/-! ### for, while -/
def loopF (g : D → Ef Unit) (body : Ef Fl) : List D → Ef Fl
  | [] => rtn .nx
  | d :: ds => bnd (g d) fun _ => bnd body fun fl => match fl with
    | .nx => loopF g body ds
    | .ct => loopF g body ds
    | .bk => rtn .nx
    | .rt r => rtn (.rt r)
def sFor (fi : Ef (List D)) (g : D → Ef Unit) (body : Ef Fl) : Ef Fl := bnd fi fun ds => loopF g body ds
def whileN (c : Ef Bool) (body : Ef Fl) : Nat → Ef Fl
  | 0 => stk
  | n + 1 => bnd c fun t => if t = true then (bnd body fun fl => match fl with
    | .nx => whileN c body n
    | .ct => whileN c body n
    | .bk => rtn .nx
    | .rt r => rtn (.rt r)) else rtn .nx
open Classical in
noncomputable def sWhile (c : Ef Bool) (body : Ef Fl) : Ef Fl := fun e => if h : ∃ n, whileN c body n e ≠ .stuck then whileN c body (choose h) e else .stuck
section
variable {X : Cx} {E : SK} {ts : List Nat} {tg iter : Expr} {body : List Stmt} {fi : Ef (List D)} {g : D → Ef Unit} {fb : Ef Fl} {c : Expr} {fc : Ef Bool} {pos : Pos}
theorem ds_for (C : DC X E) (hi : DI X E tg iter fi) (hg : DG X E ts tg g) (hb : DSs X E body fb) (hs : ∀ x, foldedSetIterable iter X.env x = pure x := by intro _; rfl) : DS X E (.For tg iter body [] pos) (sFor fi g fb) := by
  refine ⟨PS.imp (ps_for C.po C.calm hi.pi hg.pg hb.ps hs) ?_⟩
  rintro D σ H ⟨bs, ex, F, e, s, p⟩
  refine ⟨bs, ex, F, e, s, p.bndE.imp fun ds e1 H1 F1 _ s1 st1 p1 J w => ?_⟩
  refine ⟨fun i m σ' H' => i ≤ ds.length ∧ m = ds.length - i ∧ ∃ F' e', StR X.K bs ex σ' H' F' e' ∧ Same F1 F' ∧ PostS X.K E bs ex H' F' (loopF g fb (ds.drop i) e') fun fl _ σ' H' F' => FlP X.K D fl σ' H' F',
    ⟨ds.length, Nat.zero_le _, rfl, F1, e1, s1, Same.refl _, p1⟩, ?_⟩
  rintro i m σ' H' ⟨hi, rfl, F', e', s', k', p'⟩
  by_cases hlt : i < ds.length
  · have hd : ds[i]? = some ds[i] := List.getElem?_eq_getElem hlt
    rw [List.drop_eq_getElem_cons hlt] at p'
    refine .inr ⟨w.go i H' hlt (k'.trans s'.le), fun σ2 H2 => ∃ F2 e2, StR X.K bs ex σ2 H2 F2 e2 ∧ Same F1 F2 ∧ PostS X.K E bs ex H2 F2 (loopF g fb (ds.drop (i + 1)) e2) fun fl _ σ' H' F' => FlP X.K D fl σ' H' F',
      fun σ2 H2 ⟨F2, e2, s2, k2, p2⟩ => ⟨ds.length - (i + 1), by omega, hlt, rfl, F2, e2, s2, k2, p2⟩, fun x H2 y => ?_⟩
    obtain ⟨F2, gr, r⟩ := w.next hd k' s' y
    obtain ⟨s2, st2⟩ := s'.grow gr
    refine ⟨bs, ex, F2, e', _, s2, r, (p'.shift st2).bnd.imp fun _ e3 σ3 H3 F3 _ s3 st3 p3 _ => ?_⟩
    refine ⟨bs, ex, F3, e3, s3, p3.bnd.imp fun fl e4 σ4 H4 F4 _ s4 st4 p4 => ?_⟩
    have k4 := ((k'.trans st2.1).trans st3.1).trans st4.1
    cases fl with
    | nx => exact ⟨F4, e4, s4, k4, p4⟩
    | ct => exact ⟨F4, e4, s4, k4, p4⟩
    | bk => exact p4 σ4 H4 F4 s4 (Step.refl _ _ _)
    | rt d => exact p4 σ4 H4 F4 s4 (Step.refl _ _ _)
  · have ei : i = ds.length := by omega
    subst ei
    rw [List.drop_length] at p'
    exact .inl ⟨w.stop H' (k'.trans s'.le), p' σ' H' F' s' (Step.refl _ _ _)⟩
theorem ds_while (C : DC X E) (hc : DT X E c fc) (hb : DSs X E body fb) : DS X E (.While c body [] pos) (sWhile fc fb) := by
  refine ⟨PS.imp (ps_while C.po hc.pt hb.ps) ?_⟩
  rintro D σ H ⟨bs, ex, F, e, s, p⟩
  unfold sWhile at p
  split at p
  · rename_i hn
    refine ⟨fun m σ' H' => ∃ F' e', StR X.K bs ex σ' H' F' e' ∧ PostS X.K E bs ex H' F' (whileN fc fb m e') fun fl _ σ' H' F' => FlP X.K D fl σ' H' F', ⟨_, F, e, s, p⟩, ?_⟩
    rintro m σ' H' ⟨F', e', s', p'⟩
    cases m with
    | zero => exact p'.elim
    | succ m =>
      refine ⟨bs, ex, F', e', s', p'.bndE.imp fun b e1 H1 F1 _ s1 st1 p1 => ?_⟩
      cases b with
      | false => exact p1 σ' H1 F1 s1 (Step.refl _ _ _)
      | true =>
        rw [if_pos rfl] at p1 ⊢
        refine ⟨fun σ2 H2 => ∃ F2 e2, StR X.K bs ex σ2 H2 F2 e2 ∧ PostS X.K E bs ex H2 F2 (whileN fc fb m e2) fun fl _ σ' H' F' => FlP X.K D fl σ' H' F', fun σ2 H2 h => ⟨m, Nat.lt_succ_self _, h⟩, ?_⟩
        refine ⟨bs, ex, F1, e1, s1, p1.bnd.imp fun fl e4 σ4 H4 F4 _ s4 st4 p4 => ?_⟩
        cases fl with
        | nx => exact ⟨F4, e4, s4, p4⟩
        | ct => exact ⟨F4, e4, s4, p4⟩
        | bk => exact p4 σ4 H4 F4 s4 (Step.refl _ _ _)
        | rt d => exact p4 σ4 H4 F4 s4 (Step.refl _ _ _)
  · exact p.elim
end
/-- more turns than enough change nothing -/
theorem whileN_more {c : Ef Bool} {body : Ef Fl} : ∀ (n : Nat) (e : En), whileN c body n e ≠ .stuck → whileN c body (n + 1) e = whileN c body n e
  | 0, e, h => (h rfl).elim
  | n + 1, e, h => by
    unfold whileN at h ⊢
    unfold DL.bnd at h ⊢
    cases hc : c e with
    | stuck => rfl
    | exc _ _ _ => rfl
    | ok t e1 =>
      rw [hc] at h
      dsimp only at h ⊢
      cases t with
      | false => rfl
      | true =>
        rw [if_pos rfl] at h
        rw [if_pos rfl, if_pos rfl]
        cases hb : body e1 with
        | stuck => rfl
        | exc _ _ _ => rfl
        | ok fl e2 =>
          rw [hb] at h
          cases fl with
          | nx => exact whileN_more n e2 h
          | ct => exact whileN_more n e2 h
          | bk => rfl
          | rt _ => rfl
theorem whileN_le {c : Ef Bool} {body : Ef Fl} {n : Nat} {e : En} (h : whileN c body n e ≠ .stuck) : ∀ m, n ≤ m → whileN c body m e = whileN c body n e := by
  intro m hm
  induction m with
  | zero => have : n = 0 := by omega
            subst this; rfl
  | succ m ih =>
    by_cases z : n = m + 1
    · subst z; rfl
    · have := ih (by omega)
      rw [whileN_more m e (by rw [this]; exact h), this]
theorem sWhile_eq {c : Ef Bool} {body : Ef Fl} {n : Nat} {e : En} {r : Res Fl} (h : whileN c body n e = r) (hr : r ≠ .stuck) : sWhile c body e = r := by
  have hn : ∃ n, whileN c body n e ≠ .stuck := ⟨n, by rw [h]; exact hr⟩
  unfold sWhile
  rw [dif_pos hn]
  have h1 := Classical.choose_spec hn
  rcases Nat.le_total (Classical.choose hn) n with z | z
  · rw [← whileN_le h1 n z, h]
  · rw [whileN_le (by rw [h]; exact hr) _ z, h]

/-! ### enumerate and zip over lists and tuples -/
inductive Sk where
  | L | T
def sqK (k : Sk) (K : PySem.W.Frag) (H : Hp) (a : Addr) (xs : List V) : Prop := match k with
  | .L => SqL K H a xs
  | .T => SqT K H a xs
def itK (k : Sk) (h : Heap) (it a : Addr) (i : Nat) : Prop := match k with
  | .L => h.IsListIter it a i
  | .T => h.IsTupleIter it a i
def isK (k : Sk) (h : Heap) (a : Addr) (items : Array Value) : Prop := match k with
  | .L => h.IsList a items
  | .T => h.IsTuple a items
def objK (k : Sk) (a : Addr) : Obj := match k with
  | .L => { cls := .type "list_iterator", data := .fields #[.ref a, .int 0 0] }
  | .T => { cls := .type "tuple_iterator", data := .fields #[.ref a, .int 0 0] }
theorem begins_K (k : Sk) (a : Addr) (items : Array Value) : Begins (.ref a) (objK k a) fun h => isK k h a items := by
  cases k
  · exact begins_list a items
  · exact begins_tuple a items
theorem draws_K (k : Sk) {prog : Program} {w : World} {A : Around} (hh : A.handled = none) (it l : Addr) (hne : l ≠ it) (items : Array Value) :
    Draws prog w A it [it, l] items.size (fun i v => items[i]? = some v) (fun i h => itK k h it l i ∧ isK k h l items) := by
  cases k
  · exact Draws.list hh it l hne items
  · exact Draws.tuple hh it l hne items
theorem itK_obj {k : Sk} {h : Heap} {it a : Addr} {i : Nat} (x : itK k h it a i) : ∃ o, h.get? it = some o ∧ ∀ v, o.data ≠ .cell v := by
  cases k
  · obtain ⟨o, e, _, d⟩ := x
    exact ⟨o, e, fun v q => by rw [d] at q; cases q⟩
  · obtain ⟨o, e, _, d⟩ := x
    exact ⟨o, e, fun v q => by rw [d] at q; cases q⟩
theorem itK_at {k : Sk} {h h' : Heap} {it a : Addr} {i : Nat} (x : itK k h it a i) (e : ∀ o, h.get? it = some o → h'.get? it = some o) : itK k h' it a i := by
  cases k
  · exact Heap.IsListIter.at x e
  · exact Heap.IsTupleIter.at x e
theorem itK_new {k : Sk} {h : Heap} {it a : Addr} (e : h.get? it = some (objK k a)) : itK k h it a 0 := by
  cases k
  · exact ⟨_, e, rfl, rfl⟩
  · exact ⟨_, e, rfl, rfl⟩
section
variable {X : Cx} {pins : List (Addr × Obj)} {σ : L2.St} {H : Hp} {s : Shared} {a : Addr} {xs ys : List V} {k : Sk}
theorem inv_sqK (I : Inv X pins σ H s) (h : sqK k X.K H a xs) : ∃ its : List Value, Vals xs its ∧ isK k s.heap a its.toArray ∧ a < s.heap.objs.size := by
  cases k
  · obtain ⟨its, r, p, _⟩ := I.list h
    exact ⟨its, r, p.isList, p.lt⟩
  · obtain ⟨its, r, p, _⟩ := I.tuple h
    exact ⟨its, r, p, p.lt⟩
theorem sqK_inj (I : Inv X pins σ H s) (h : sqK k X.K H a xs) (h' : sqK k X.K H a ys) : xs = ys := by
  cases k
  · exact I.list_inj h h'
  · exact I.tuple_inj h h'
end
/-- enumerate(x) -/
def ItE (k : Sk) (K : PySem.W.Frag) (a : Addr) : It :=
  ⟨fun i H => ∃ (xs : List V) (x : V), sqK k K H a xs ∧ xs[i]? = some x, fun i H v H' => ∃ T x, v = .ref T ∧ H T = none ∧ H' = upd H T (.tup [.int (i : Nat), x]) ∧ ∀ xs, sqK k K H a xs → xs[i]? = some x, fun i H => ∃ xs : List V, sqK k K H a xs ∧ xs.length = i⟩
theorem turn_E (k : Sk) {P : Program} {w : World} {K : PySem.W.Frag} {elts : List Expr} {kk : Nat} {tpos : Pos} (a e it : Addr) :
    Turn P w K (.Tuple elts kk tpos) (ItE k K a) [e, it] e (fun i h => (∃ old, IsEnum h e it ((0 : Int) + (i : Nat)) old) ∧ itK k h it a i ∧ e ≠ it ∧ a ≠ it ∧ a ≠ e) where
  mem := by simp
  obj := fun i h st b hb => by
    obtain ⟨⟨old, he⟩, hi, _⟩ := st
    have e' : b = e ∨ b = it := by simpa using hb
    rcases e' with z | z
    · rw [z]; exact ⟨_, he, fun v q => nomatch q⟩
    · rw [z]; exact itK_obj hi
  keep := fun i h h' st kp => let ⟨⟨old, he⟩, hi, hne⟩ := st; ⟨⟨old, kp e (by simp) _ he⟩, itK_at hi fun o q => kp it (by simp) o q, hne⟩
  item := by
    intro X hP hw hK hc i pins s σ H E I hf st hg
    subst hP hw hK
    obtain ⟨⟨old, he⟩, hit, hne, hai, hae⟩ := st
    obtain ⟨xs, x, hq, hx⟩ := hg
    obtain ⟨its, rv, p, hal⟩ := inv_sqK I hq
    obtain ⟨u, hu, ru⟩ := rv.get hx
    have hel : e < s.heap.objs.size := Heap.lt_size he
    have hil : it < s.heap.objs.size := by obtain ⟨_, q, _⟩ := itK_obj hit; exact Heap.lt_size q
    have hilt : i < its.toArray.size := by
      rw [List.size_toArray]; exact (List.getElem?_eq_some_iff.mp hu).1
    refine wpAny_pyNext_enum_itemC (draws_K k (A := X.A.in1) (I.ok.hd hc) it a hai its.toArray) he ⟨hit, p⟩ hilt hne (by simp [hne, Ne.symm hae]) fun x' h' tk hP ho hst' hT hsz hk => ?_
    have ex : x' = u := by
      have : its[i]? = some x' := by simpa using hP
      rw [hu] at this; exact (Option.some.inj this).symm
    subst ex
    refine ⟨_, rfl, wpAny_letOwnedTupleGo_enum (s := { s with heap := h', toks := tk + 1 }) ho fun h'' he' sb => ?_⟩
    have hT2 : h''.get? s.heap.objs.size = some { cls := .type "tuple", data := .seq #[.int ((0 : Int) + (i : Nat)) tk, x'] } := (sb.2 _ (Nat.ne_of_gt hel)).trans hT
    have new : ObjOk X.prog X.w (upd H s.heap.objs.size (.tup [.int (i : Nat), x])) h'' s.heap.objs.size (.tup [.int (i : Nat), x]) :=
      ⟨by show 2 ≤ sizeLine; decide, [.int ((0 : Int) + (i : Nat)) tk, x'], .cons ⟨tk, by rw [Int.zero_add]⟩ (.cons ru .nil), ⟨_, hT2, rfl, _, rfl⟩⟩
    have I1 : Inv X pins σ (upd H s.heap.objs.size (.tup [.int (i : Nat), x])) { s with heap := h'', toks := tk + 1 } :=
      I.turnedNew (ch := [e, it]) (fun b ob hb q => (sb.2 b (fun z => hb (by simp [z]))).trans (hk b ob (fun z => hb (by simp [z])) (fun z => hb (by simp [z])) q)) hf (Nat.le_refl _) new
    refine ⟨.ref s.heap.objs.size, _, I1, rfl, ⟨_, x, rfl, I.hok.fresh (Nat.le_refl _), rfl, fun ys hy => by rw [sqK_inj I hy hq]; exact hx⟩, ⟨⟨x', ?_⟩, itK_at hst'.1 fun o q => (sb.2 it (Ne.symm hne)).trans q, hne, hai, hae⟩, fun b hb => ?_⟩
    · have e1 : (0 : Int) + ((i + 1 : Nat) : Int) = (0 : Int) + (i : Nat) + 1 := by omega
      rw [e1]; exact he'
    · have hb' : b < s.heap.objs.size := by
        have e' : b = e ∨ b = it := by simpa using hb
        rcases e' with z | z
        · rw [z]; exact hel
        · rw [z]; exact hil
      rw [upd_ne (Nat.ne_of_lt hb')]
      exact (hf b hb).1
  done := by
    intro X hP hw hK hc i pins s σ H E I hf st hg
    subst hP hw hK
    obtain ⟨⟨old, he⟩, hit, hne, hai, hae⟩ := st
    obtain ⟨xs, hq, hx⟩ := hg
    obtain ⟨its, rv, p, hal⟩ := inv_sqK I hq
    obtain ⟨f0, f1, f2, f3, f4, f5⟩ := hf it (by simp)
    have hl := rv.length
    have ei : i = its.toArray.size := by rw [List.size_toArray]; omega
    subst ei
    refine wpAny_pyNext_enum_endD (draws_K k (A := X.A.in1) (I.ok.hd hc) it a hai its.toArray) he ⟨hit, p⟩ fun h' eb => ⟨rfl, I.turned (t' := s.toks) (fun b o hb q => eb b o hb q) f0 f1 f3 f4 f5⟩
  self := fun A i s Q E st h => let ⟨⟨_, he⟩, _⟩ := st; wpAny_pyIter_enum he h

theorem meets_enumerate_new1 {v : Value} {o : Obj} {H : Heap → Prop} (B : Begins v o H) :
    Meets (Builtin.«enumerate.__new__» ⟨[.type "enumerate", v], []⟩) (fun _ R s => H s.heap ∧
      R (.ok (.ret (.ref (s.heap.push o).objs.size))) { s with heap := (s.heap.push o).push { cls := .type "enumerate", data := .fields #[.none, .bool false, .ref s.heap.objs.size, rawInt 0, .none, .none] } }) :=
  .of_wp fun prog w A R s h => by
    obtain ⟨hp, g, d, tk, os⟩ := s; obtain ⟨h1, h⟩ := h
    have hsub := sub_enumerate
    have q1 : ∀ {A' : Around} {E : Value → Shared → Prop} {Q : Value → Shared → Prop}, Q (.ref hp.objs.size) ⟨hp.push o, g, d, tk, os⟩ → wpAny (model prog w) A' (pyIter v) Q E ⟨hp, g, d, tk, os⟩ :=
      fun q => B.iter prog w _ _ ⟨hp, g, d, tk, os⟩ _ h1 q
    wp_walk using q1
    refine wpAny_stack_any fun st => wpAny_pure ?_
    split
    · rename_i c _ _ _ _ _
      cases (c == Value.type "enumerate")
      · wp_walk using q1
        exact ⟨_, rfl, h⟩
      · wp_walk using q1
        exact ⟨_, rfl, h⟩
    · wp_walk using q1
      exact ⟨_, rfl, h⟩
theorem enum_begins1 {prog : Program} {w : World} {A : Around} {E : Value → Shared → Prop} {s : Shared} {v : Value} {o : Obj} {H : Heap → Prop} {Q : Value → Shared → Prop} (B : Begins v o H) (h1 : H s.heap)
    (h : ∀ h', IsEnum h' (s.heap.objs.size + 1) s.heap.objs.size 0 .none → h'.get? s.heap.objs.size = some o → h'.objs.size = s.heap.objs.size + 2 →
      (∀ b o, s.heap.get? b = some o → h'.get? b = some o) → Q (.ref (s.heap.objs.size + 1)) { s with heap := h' }) :
    wpAny (model prog w) A (call (.type "enumerate") [v]) Q E s := by
  refine callType_new F.called_enumerate (by decide) (F.typeCall_enumerate_1 _) (F.newCall_enumerate_1 _) (fun obj => F.args_object_init_2 obj _) F.entry_enumerate_new
    (meets_enumerate_new1 B) ⟨h1, ?_⟩
  have hz : (s.heap.push o).objs.size = s.heap.objs.size + 1 := Heap.size_push ..
  show _ ∧ _
  rw [hz]
  have he : IsEnum ((s.heap.push o).push { cls := .type "enumerate", data := .fields #[.none, .bool false, .ref s.heap.objs.size, rawInt 0, .none, .none] }) (s.heap.objs.size + 1) s.heap.objs.size 0 .none := by
    have := Heap.get?_push_size (s.heap.push o) (o := { cls := .type "enumerate", data := .fields #[.none, .bool false, .ref s.heap.objs.size, rawInt 0, .none, .none] }) rfl
    rw [hz] at this; exact this
  refine ⟨⟨_, he, rfl⟩, h _ he (Heap.get?_push_of_some _ (Heap.get?_push_size _ B.free)) (by rw [Heap.size_push, hz]) fun b o x => Heap.get?_push_of_some _ (Heap.get?_push_of_some _ x)⟩
def iE (K : PySem.W.Frag) (te : TE) : TI := fun σ H R => te σ H fun v H1 => ∃ k a xs, v = .ref a ∧ sqK k K H1 a xs ∧ R (ItE k K a) H1
theorem pi_E {X : Cx} {e : Expr} {te : TE} {p pos tpos : Pos} {elts : List Expr} {kk : Nat} (hg : Gl X "enumerate") (hm : X.mg "enumerate" = none) (he : PE X e te) (hs : starEach [e] X.env = (false, eval e X.env) :: starEach [] X.env := by rfl) :
    PI X (.Tuple elts kk tpos) (.Call (.Name "enumerate" p) [e] [] pos) (iE X.K te) := by
  refine ⟨fun pins s σ H R I h => ?_⟩
  refine Call_ (ld_blt I hg hm boot_enumerate (PyProof.Rows.callWith_type1 (args_cons (thn (he.run pins s σ H _ I h) fun u s1 ⟨v, H1, I1, r1, q1⟩ => args_nil ?_) hs) hs rfl))
  obtain ⟨k, a, xs, ev, hq, q⟩ := q1
  subst ev
  obtain rfl : u = Value.ref a := r1
  obtain ⟨its, rv, p', hal⟩ := inv_sqK I1 hq
  refine enum_begins1 (begins_K k a its.toArray) p' fun h' he hit hsz hk => wpAny_pyIter_enum he ?_
  have I2 : Inv X pins σ H1 { s1 with heap := h' } := I1.kept (t' := s1.toks) hk
  refine ⟨s1.heap.objs.size + 1, [s1.heap.objs.size + 1, s1.heap.objs.size], _, _, H1, rfl, I2, turn_E k a (s1.heap.objs.size + 1) s1.heap.objs.size, ⟨⟨.none, he⟩, itK_new hit, Nat.succ_ne_self _, Nat.ne_of_lt hal, Nat.ne_of_lt (Nat.lt_succ_of_lt hal)⟩, fun b hb => ?_, q⟩
  have e' : b = s1.heap.objs.size + 1 ∨ b = s1.heap.objs.size := by simpa using hb
  have hle : s1.heap.objs.size ≤ b := by
    rcases e' with z | z
    · rw [z]; exact Nat.le_add_right _ _
    · rw [z]; exact Nat.le_refl _
  exact I1.fpOk hle (I1.hok.fresh hle)

/-! ### zip -/
/-- the cells of a zip stand apart -/
structure ZApart (z TI TO i1 i2 a b : Addr) : Prop where
  s : ZipSep2 z TI TO i1 i2 [i1, a] [i2, b]
  a1 : a ≠ i1
  b2 : b ≠ i2
/-! ### walks as data -/
def ditems : D → Option (List D)
  | .tup xs => some xs
  | .ktp xs => some xs
  | .lst xs => some xs
  | .scr ns => some (ns.map D.int)
  | _ => none
def eIter (f : Ef D) : Ef (List D) := bnd f fun d => lift (ditems d)
def rng (a : Int) (n : Nat) : List D := (List.range n).map fun i => .int (a + (i : Nat))
def smallI (i : Int) : Bool := decide (i.natAbs < 2 ^ 60)
def eRange1 (f : Ef D) : Ef (List D) := bnd f fun d => lift (match d with
  | .int n => if smallI n = true then some (rng 0 n.toNat) else none
  | _ => none)
def eRange2 (f g : Ef D) : Ef (List D) := bnd f fun d => bnd g fun e => lift (match d, e with
  | .int a, .int b => if smallI a = true ∧ smallI b = true then some (rng a (b - a).toNat) else none
  | _, _ => none)
/-- range(a, b, -1) -/
def rngD (a : Int) (n : Nat) : List D := (List.range n).map fun i => .int (a + (i : Nat) * (-1))
def eRangeD (f g : Ef D) : Ef (List D) := bnd f fun d => bnd g fun e => lift (match d, e with
  | .int a, .int b => if smallI a = true ∧ smallI b = true then some (rngD a (a - b).toNat) else none
  | _, _ => none)
def enumL (xs : List D) : List D := (List.range xs.length).map fun i => .tup [.int (i : Nat), xs.getD i .non]
def eEnum (f : Ef D) : Ef (List D) := bnd f fun d => lift ((items d).map enumL)
def zipL (xs ys : List D) : List D := (xs.zip ys).map fun p => .tup [p.1, p.2]
def eZip (f g : Ef D) : Ef (List D) := bnd f fun d => bnd g fun e => lift (match items d, items e with
  | some xs, some ys => some (zipL xs ys)
  | _, _ => none)
def eRev (f : Ef D) : Ef (List D) := bnd f fun d => lift ((items d).map List.reverse)
section
variable {X : Cx} {E : SK} {tg a b : Expr} {f g : Ef D} {pos p : Pos}
theorem sq_of {K : PySem.W.Frag} {F H : Hp} {d : D} {v : V} {xs : List D} (r : Rep K F d v) (h : items d = some xs) (le : Same F H) : ∃ k a vs, v = .ref a ∧ Reps K F xs vs ∧ ∀ H', Same F H' → sqK k K H' a vs := by
  cases r with
  | tup hs rs => cases h; exact ⟨.T, _, _, rfl, rs, fun H' le => sqt le hs⟩
  | ktp hs rs => cases h; exact ⟨.T, _, _, rfl, rs, fun H' le => hs.sq le⟩
  | lst hs rs => cases h; exact ⟨.L, _, _, rfl, rs, fun H' le => .of (le _ _ hs)⟩
  | _ => cases h
theorem di_any (ha : DE X E a f) : DI X E tg a (eIter f) := by
  refine ⟨⟨fun pins s σ H R I ⟨bs, ex, F, e, s0, p⟩ => ?_⟩⟩
  have p1 := p.bnd
  -- which kind it is, is known ahead
  by_cases hT : ∃ xs e1, f e = .ok (.tup xs) e1 ∨ f e = .ok (.ktp xs) e1
  · refine (pi_tup (tg := tg) ha.pe).run pins s σ H R I ⟨bs, ex, F, e, s0, p1.imp fun d e1 H1 F1 q s1 st1 p2 v r => ?_⟩
    obtain ⟨xs, e2, h2 | h2⟩ := hT
    · rw [h2] at q; cases q
      obtain ⟨ds, hd, p3⟩ := p2.lift
      cases hd
      cases r with
      | tup hs rs =>
        refine ⟨_, rfl, ⟨_, sqt s1.le hs⟩, p3 H1 F1 s1 (Step.refl _ _ _) _ ⟨fun i H hi le => ?_, fun H le => ?_, fun i H v H' d hd le y => ?_⟩⟩
        · exact ⟨_, _, sqt le hs, by rw [List.getElem?_eq_getElem (by rw [← rs.length]; exact hi)]⟩
        · exact ⟨_, sqt le hs, by rw [rs.length]; exact Nat.le_refl _⟩
        · obtain ⟨e1, e2⟩ := y
          obtain ⟨v', h1, h2⟩ := rs.get hd
          have := e2 _ (sqt le hs)
          rw [h1] at this; cases this
          exact .inl ⟨e1, h2⟩
    · rw [h2] at q; cases q
      obtain ⟨ds, hd, p3⟩ := p2.lift
      cases hd
      cases r with
      | ktp hs rs =>
        refine ⟨_, rfl, ⟨_, hs.sq s1.le⟩, p3 H1 F1 s1 (Step.refl _ _ _) _ ⟨fun i H hi le => ?_, fun H le => ?_, fun i H v H' d hd le y => ?_⟩⟩
        · exact ⟨_, _, hs.sq le, by rw [List.getElem?_eq_getElem (by rw [← rs.length]; exact hi)]⟩
        · exact ⟨_, hs.sq le, by rw [rs.length]; exact Nat.le_refl _⟩
        · obtain ⟨e1, e2⟩ := y
          obtain ⟨v', h1, h2⟩ := rs.get hd
          have := e2 _ (hs.sq le)
          rw [h1] at this; cases this
          exact .inl ⟨e1, h2⟩
  · refine (pi_list (tg := tg) ha.pe).run pins s σ H R I ⟨bs, ex, F, e, s0, p1.imp fun d e1 H1 F1 q s1 st1 p2 v r => ?_⟩
    obtain ⟨ds, hd, p3⟩ := p2.lift
    have p3 := p3 H1 F1 s1 (Step.refl _ _ _)
    cases r with
    | tup hs rs => exact (hT ⟨_, _, .inl q⟩).elim
    | ktp hs rs => exact (hT ⟨_, _, .inr q⟩).elim
    | lst hs rs =>
      cases hd
      refine ⟨_, rfl, ⟨_, .of (s1.le _ _ hs)⟩, p3 _ ⟨fun i H hi le => ?_, fun H le => ?_, fun i H v H' d hd le y => ?_⟩⟩
      · exact ⟨_, _, .of (le _ _ hs), by rw [List.getElem?_eq_getElem (by rw [← rs.length]; exact hi)]⟩
      · exact ⟨_, .of (le _ _ hs), by rw [rs.length]; exact Nat.le_refl _⟩
      · obtain ⟨e1, e2⟩ := y
        obtain ⟨v', h1, h2⟩ := rs.get hd
        have := e2 _ (.of (le _ _ hs))
        rw [h1] at this; cases this
        exact .inl ⟨e1, h2⟩
    | scr hs =>
      cases hd
      refine ⟨_, rfl, ⟨_, (Keeps.of_same s1.le).sqL hs⟩, p3 _ ⟨fun i H hi le => ?_, fun H le => ?_, fun i H v H' d hd le y => ?_⟩⟩
      · exact ⟨_, _, (Keeps.of_same le).sqL hs, by rw [List.getElem?_eq_getElem (by simpa using hi)]⟩
      · exact ⟨_, (Keeps.of_same le).sqL hs, by simp⟩
      · obtain ⟨e1, e2⟩ := y
        obtain ⟨v', h1, h2⟩ := (Reps.of_ints _).get hd
        have := e2 _ ((Keeps.of_same le).sqL hs)
        rw [h1] at this; cases this
        exact .inl ⟨e1, h2⟩
    | _ => cases hd
theorem rng_get {a : Int} {n i : Nat} {d : D} (h : (rng a n)[i]? = some d) : i < n ∧ d = .int (a + (i : Nat)) := by
  unfold rng at h
  rw [List.getElem?_map] at h
  by_cases hi : i < n
  · rw [List.getElem?_range hi] at h
    cases h; exact ⟨hi, rfl⟩
  · rw [List.getElem?_eq_none (by simpa using hi)] at h; cases h
theorem smallI_62 {i : Int} (h : smallI i = true) : -(2 ^ 62) ≤ i ∧ i < 2 ^ 62 := by
  have := of_decide_eq_true h
  omega
theorem walk_rng {K : PySem.W.Frag} {F : Hp} {a : Int} {n : Nat} : WalkD K (Itr a n) (rng a n) F := by
  refine ⟨fun i H hi le => by rw [show (rng a n).length = n by simp [rng]] at hi; exact hi, fun H le => by rw [show (rng a n).length = n by simp [rng]]; exact Nat.le_refl _, fun i H v H' d hd le y => ?_⟩
  obtain ⟨h1, rfl⟩ := rng_get hd
  obtain ⟨rfl, rfl⟩ := y
  exact .inl ⟨rfl, .int _⟩
theorem di_range1 (ha : DE X E a f) (hm : X.mg "range" = none) (hg : Gl X "range" := by rfl) (hs : starEach (a :: []) X.env = (false, eval a X.env) :: starEach [] X.env := by rfl) : DI X E tg (.Call (.Name "range" p) [a] [] pos) (eRange1 f) := by
  refine ⟨PI.imp (pi_range1 hg hm (pa_cons ha.pe pa_nil hs) (by rw [hs]; rfl)) ?_⟩
  rintro σ H R ⟨bs, ex, F, e, s, p⟩
  refine ⟨bs, ex, F, e, s, p.bnd.imp fun d e1 H1 F1 _ s1 st1 p1 v r => ?_⟩
  obtain ⟨ds, hd, p2⟩ := p1.lift
  cases r with
  | int i =>
    dsimp only at hd
    split at hd
    · rename_i hl
      cases hd
      obtain ⟨b1, b2⟩ := smallI_62 hl
      exact ⟨i, rfl, b1, b2, p2 H1 F1 s1 (Step.refl _ _ _) _ walk_rng⟩
    · cases hd
  | _ => cases hd
theorem di_range2 (ha : DE X E a f) (hb : DE X E b g) (hm : X.mg "range" = none) (hg : Gl X "range" := by rfl) (hs : starEach (a :: [b]) X.env = (false, eval a X.env) :: starEach [b] X.env := by rfl) (hs2 : starEach (b :: []) X.env = (false, eval b X.env) :: starEach [] X.env := by rfl) :
    DI X E tg (.Call (.Name "range" p) [a, b] [] pos) (eRange2 f g) := by
  refine ⟨PI.imp (pi_range2 hg hm (pa_cons ha.pe (pa_cons hb.pe pa_nil hs2) hs) (by rw [hs, hs2]; rfl) (by rw [hs2]; rfl)) ?_⟩
  rintro σ H R ⟨bs, ex, F, e, s, p⟩
  refine ⟨bs, ex, F, e, s, p.bnd.imp fun d e1 H1 F1 _ s1 st1 p1 v r => ⟨bs, ex, F1, e1, s1, p1.bnd.imp fun d2 e2 H2 F2 _ s2 st2 p2 v2 r2 => ?_⟩⟩
  obtain ⟨ds, hd, p3⟩ := p2.lift
  cases r with
  | int i =>
    cases r2 with
    | int j =>
      dsimp only at hd
      split at hd
      · rename_i hl
        cases hd
        obtain ⟨b1, b2⟩ := smallI_62 hl.1
        obtain ⟨b3, b4⟩ := smallI_62 hl.2
        exact ⟨i, j, rfl, ⟨b1, b2, b3, b4⟩, p3 H2 F2 s2 (Step.refl _ _ _) _ walk_rng⟩
      · cases hd
    | _ => cases hd
  | _ => cases hd
/-- the written step -1 -/
theorem minus1 {k : Nat} {p1 p2 : Pos} : PE X (.UnaryOp .USub (.Constant (.int 1) k p1) p2) (tUn (rU fun i => .int (-i)) (tC (.int 1))) := pe_un un_neg pe_int
theorem minus1q : ∀ (σ : L2.St) (H : Hp) (Q : VK), Q (.int (-1)) H → (tUn (rU fun i => .int (-i)) (tC (.int 1))) σ H Q := fun σ H Q q => ⟨1, rfl, q⟩
theorem di_enum {elts : List Expr} {kk : Nat} {tpos : Pos} (ha : DE X E a f) (hm : X.mg "enumerate" = none) (hg : Gl X "enumerate" := by rfl) (hs : starEach [a] X.env = (false, eval a X.env) :: starEach [] X.env := by rfl) : DI X E (.Tuple elts kk tpos) (.Call (.Name "enumerate" p) [a] [] pos) (eEnum f) := by
  refine ⟨PI.imp (pi_E hg hm ha.pe hs) ?_⟩
  rintro σ H R ⟨bs, ex, F, e, s, p⟩
  refine ⟨bs, ex, F, e, s, p.bnd.imp fun d e1 H1 F1 _ s1 st1 p1 v r => ?_⟩
  obtain ⟨ds, hd, p2⟩ := p1.lift
  obtain ⟨xs, hx, rfl⟩ := Option.map_eq_some_iff.mp hd
  obtain ⟨k, a', vs, rfl, rs, sq⟩ := sq_of r hx s1.le
  refine ⟨k, a', vs, rfl, sq _ s1.le, p2 H1 F1 s1 (Step.refl _ _ _) _ ⟨fun i H hi le => ?_, fun H le => ?_, fun i H v H' d hd le y => ?_⟩⟩
  · have hi : i < vs.length := by rw [← rs.length]; simpa [enumL] using hi
    exact ⟨vs, vs[i], sq _ le, List.getElem?_eq_getElem hi⟩
  · exact ⟨vs, sq _ le, by rw [← rs.length]; simp [enumL]⟩
  · obtain ⟨T, x, rfl, hT, rfl, hx⟩ := y
    have hx := hx _ (sq _ le)
    have hi : i < xs.length := by rw [rs.length]; exact (List.getElem?_eq_some_iff.mp hx).1
    have hd' : d = .tup [.int (i : Nat), xs[i]] := by
      unfold enumL at hd
      rw [List.getElem?_map, List.getElem?_range hi] at hd
      simp only [Option.map_some, Option.some.injEq] at hd
      rw [← hd, List.getD_eq_getElem?_getD, List.getElem?_eq_getElem hi]
      rfl
    obtain ⟨v', h1, h2⟩ := rs.get (List.getElem?_eq_getElem hi)
    rw [hx] at h1; cases h1
    exact .inr (.inl ⟨T, _, _, rfl, hT, rfl, hd', .cons (.int _) (.cons h2 .nil)⟩)
theorem di_rev (ha : DE X E a f) (hm : X.mg "reversed" = none) (hg : Gl X "reversed" := by rfl) (hs : starEach [a] X.env = (false, eval a X.env) :: starEach [] X.env := by rfl) : DI X E tg (.Call (.Name "reversed" p) [a] [] pos) (eRev f) := by
  refine ⟨PI.imp (RT.pi_revA hg hm ha.pe hs) ?_⟩
  rintro σ H R ⟨bs, ex, F, e, s, p⟩
  refine ⟨bs, ex, F, e, s, p.bnd.imp fun d e1 H1 F1 _ s1 st1 p1 v r => ?_⟩
  obtain ⟨ds, hd, p2⟩ := p1.lift
  obtain ⟨xs, hx, rfl⟩ := Option.map_eq_some_iff.mp hd
  have p2 := p2 H1 F1 s1 (Step.refl _ _ _)
  have rev : ∀ {vs : List V} {i : Nat} {d : D}, Reps X.K F1 xs vs → xs.reverse[i]? = some d → ∃ v, vs[vs.length - 1 - i]? = some v ∧ Rep X.K F1 d v := fun {vs i d} rs hd => by
    obtain ⟨v, h1, h2⟩ := rs.reverse.get hd
    have hi : i < vs.length := by have := (List.getElem?_eq_some_iff.mp h1).1; simpa using this
    rw [List.getElem?_reverse hi] at h1
    exact ⟨v, h1, h2⟩
  cases r with
  | tup hs rs =>
    cases hx
    refine ⟨_, _, rfl, .inr ⟨sqt s1.le hs, p2 _ ⟨fun i H hi le => ?_, fun H le => ?_, fun i H v H' d hd le y => ?_⟩⟩⟩
    · rw [List.length_reverse, rs.length] at hi
      exact ⟨hi, _, _, sqt le hs, List.getElem?_eq_getElem (by omega)⟩
    · show _ ≤ _
      rw [List.length_reverse, rs.length]; exact Nat.le_refl _
    · obtain ⟨e1, e2⟩ := y
      obtain ⟨v', h1, h2⟩ := rev rs hd
      have := e2 _ (sqt le hs)
      rw [h1] at this; cases this
      exact .inl ⟨e1, h2⟩
  | ktp hs rs =>
    cases hx
    refine ⟨_, _, rfl, .inr ⟨hs.sq s1.le, p2 _ ⟨fun i H hi le => ?_, fun H le => ?_, fun i H v H' d hd le y => ?_⟩⟩⟩
    · rw [List.length_reverse, rs.length] at hi
      exact ⟨hi, _, _, hs.sq le, List.getElem?_eq_getElem (by omega)⟩
    · show _ ≤ _
      rw [List.length_reverse, rs.length]; exact Nat.le_refl _
    · obtain ⟨e1, e2⟩ := y
      obtain ⟨v', h1, h2⟩ := rev rs hd
      have := e2 _ (hs.sq le)
      rw [h1] at this; cases this
      exact .inl ⟨e1, h2⟩
  | lst hs rs =>
    cases hx
    refine ⟨_, _, rfl, .inl ⟨.of (s1.le _ _ hs), p2 _ ⟨fun i H hi le => ?_, fun H le => ?_, fun i H v H' d hd le y => ?_⟩⟩⟩
    · rw [List.length_reverse, rs.length] at hi
      exact ⟨hi, _, _, .of (le _ _ hs), List.getElem?_eq_getElem (by omega)⟩
    · show _ ≤ _
      rw [List.length_reverse, rs.length]; exact Nat.le_refl _
    · obtain ⟨e1, e2⟩ := y
      obtain ⟨v', h1, h2⟩ := rev rs hd
      have := e2 _ (.of (le _ _ hs))
      rw [h1] at this; cases this
      exact .inl ⟨e1, h2⟩
  | _ => cases hx
end

/-! ### list comprehensions -/
def wipeS (ss : List DL.Slot) : List Nat → List DL.Slot
  | [] => ss
  | v :: vs => (wipeS ss vs).set v .und
def wipeD (vs : List Nat) : Ef Unit := fun e => .ok () ⟨wipeS e.s vs, e.b⟩
def backS (s0 ss : List DL.Slot) : List Nat → List DL.Slot
  | [] => ss
  | v :: vs => (backS s0 ss vs).set v (s0.getD v .und)
/-- the slots vs hold no object of one's own -/
def freeS (ss : List DL.Slot) (vs : List Nat) : Bool := vs.all fun v => match ss[v]? with
  | some (.own _) => false
  | some (.bor _) => false
  | _ => true
def lcLoop (g : D → Ef Unit) (ft : Ef Bool) (fe : Ef D) (vs : List Nat) : List D → List D → Ef (List D)
  | [], acc => rtn acc
  | d :: ds, acc => bnd (g d) fun _ => bnd ft fun t => if t = true then (bnd fe fun y => bnd (wipeD vs) fun _ => if acc.length < big then lcLoop g ft fe vs ds (acc ++ [y]) else stk) else bnd (wipeD vs) fun _ => lcLoop g ft fe vs ds acc
/-- nothing is raised within -/
def lcRun (g : D → Ef Unit) (ft : Ef Bool) (fe : Ef D) (vs : List Nat) (ds : List D) : Ef D := fun e => if freeS e.s vs = true then (match lcLoop g ft fe vs ds [] ⟨wipeS e.s vs, e.b⟩ with
  | .ok acc e' => .ok (.lst acc) ⟨backS e.s e'.s vs, e'.b⟩
  | _ => .stuck) else .stuck
def eLc (fi : Ef (List D)) (g : D → Ef Unit) (ft : Ef Bool) (fe : Ef D) (vs : List Nat) : Ef D := bnd fi (lcRun g ft fe vs)

theorem wipe_get : ∀ (vs : List Nat) (σ : L2.St) (j : Nat), (wipe σ vs)[j]? = if j ∈ vs then (if j < σ.length then some none else none) else σ[j]?
  | [], σ, j => by simp [wipe]
  | v :: vs, σ, j => by
    unfold wipe
    by_cases hj : j = v
    · subst hj
      rw [if_pos List.mem_cons_self]
      by_cases hl : j < σ.length
      · rw [if_pos hl, List.getElem?_set_self (by rw [wipe_length]; exact hl)]
      · rw [if_neg hl, List.getElem?_eq_none (by rw [List.length_set, wipe_length]; omega)]
    · rw [List.getElem?_set_ne (Ne.symm hj), wipe_get vs σ j]
      by_cases h : j ∈ vs
      · rw [if_pos h, if_pos (List.mem_cons_of_mem _ h)]
      · rw [if_neg h, if_neg (by simp [hj, h])]
theorem wipeS_length (ss : List DL.Slot) : ∀ vs, (wipeS ss vs).length = ss.length
  | [] => rfl
  | v :: vs => by unfold wipeS; rw [List.length_set, wipeS_length ss vs]
theorem wipeS_get : ∀ (vs : List Nat) (ss : List DL.Slot) (j : Nat), (wipeS ss vs)[j]? = if j ∈ vs then (if j < ss.length then some .und else none) else ss[j]?
  | [], ss, j => by simp [wipeS]
  | v :: vs, ss, j => by
    unfold wipeS
    by_cases hj : j = v
    · subst hj
      rw [if_pos List.mem_cons_self]
      by_cases hl : j < ss.length
      · rw [if_pos hl, List.getElem?_set_self (by rw [wipeS_length]; exact hl)]
      · rw [if_neg hl, List.getElem?_eq_none (by rw [List.length_set, wipeS_length]; omega)]
    · rw [List.getElem?_set_ne (Ne.symm hj), wipeS_get vs ss j]
      by_cases h : j ∈ vs
      · rw [if_pos h, if_pos (List.mem_cons_of_mem _ h)]
      · rw [if_neg h, if_neg (by simp [hj, h])]
theorem backS_length (s0 ss : List DL.Slot) : ∀ vs, (backS s0 ss vs).length = ss.length
  | [] => rfl
  | v :: vs => by unfold backS; rw [List.length_set, backS_length s0 ss vs]
theorem backS_get : ∀ (vs : List Nat) (s0 ss : List DL.Slot) (j : Nat), (backS s0 ss vs)[j]? = if j ∈ vs then (if j < ss.length then some (s0.getD j .und) else none) else ss[j]?
  | [], s0, ss, j => by simp [backS]
  | v :: vs, s0, ss, j => by
    unfold backS
    by_cases hj : j = v
    · subst hj
      rw [if_pos List.mem_cons_self]
      by_cases hl : j < ss.length
      · rw [if_pos hl, List.getElem?_set_self (by rw [backS_length]; exact hl)]
      · rw [if_neg hl, List.getElem?_eq_none (by rw [List.length_set, backS_length]; omega)]
    · rw [List.getElem?_set_ne (Ne.symm hj), backS_get vs s0 ss j]
      by_cases h : j ∈ vs
      · rw [if_pos h, if_pos (List.mem_cons_of_mem _ h)]
      · rw [if_neg h, if_neg (by simp [hj, h])]
theorem wipe_agree {vs ts : List Nat} {σ σ' : L2.St} (h : Agree ts σ σ') (sub : ∀ j ∈ ts, j ∈ vs) : wipe σ' vs = wipe σ vs := by
  apply List.ext_getElem?
  intro j
  rw [wipe_get, wipe_get]
  by_cases hj : j ∈ vs
  · rw [if_pos hj, if_pos hj, h.1]
  · rw [if_neg hj, if_neg hj, h.2 j fun z => hj (sub j z)]
theorem wipe_wipe (vs : List Nat) (σ : L2.St) : wipe (wipe σ vs) vs = wipe σ vs := by
  apply List.ext_getElem?
  intro j
  rw [wipe_get, wipe_get, wipe_length]
  by_cases hj : j ∈ vs
  · rw [if_pos hj, if_pos hj]
  · rw [if_neg hj, if_neg hj]
section
variable {K : PySem.W.Frag} {bs ex : List Addr} {σ : L2.St} {H F : Hp} {e : En}
/-- slots forgotten -/
theorem StR.wipe (s : StR K bs ex σ H F e) (vs : List Nat) : ∃ F', StR K bs ex (wipe σ vs) H F' ⟨wipeS e.s vs, e.b⟩ ∧ Step ex H F H F' := by
  have g1 : ∀ {j : Nat} {x : DL.Slot}, (wipeS e.s vs)[j]? = some x → x ≠ .und → e.s[j]? = some x ∧ (L2.wipe σ vs)[j]? = σ[j]? := fun {j x} h n => by
    rw [wipeS_get] at h
    split at h
    · split at h <;> cases h
      exact absurd rfl n
    · rename_i hj
      exact ⟨h, by rw [wipe_get, if_neg hj]⟩
  have own' : ∀ a, IsOwn (wipeS e.s vs) (L2.wipe σ vs) a → IsOwn e.s σ a := fun a ⟨i, d, h1, h2⟩ => by
    obtain ⟨h3, h4⟩ := g1 h1 (fun z => by cases z)
    exact ⟨i, d, h3, h4 ▸ h2⟩
  have hid' : ∀ a, Hid (wipeS e.s vs) (L2.wipe σ vs) bs ex a → Hid e.s σ bs ex a := fun a h => h.imp (own' a) id
  have k := seen_same (ss := wipeS e.s vs) (σ' := L2.wipe σ vs) (bs' := bs) (ex' := ex) s hid'
  refine ⟨_, ⟨by rw [wipeS_length, wipe_length]; exact s.len, fun j d' h => ?_, fun j d' h => ?_, fun j j' h => ?_, fun j j' d1 d2 a h1 h2 h3 h4 => ?_, fun a h => s.out a (own' a h), fun a h => seen_hid h, fun a h => seen_vis h, s.bl, fun j d' h => ?_, s.bn, s.bx, s.mu, s.tb⟩, k, fun _ _ => rfl⟩
  · obtain ⟨h3, h4⟩ := g1 h (fun z => by cases z)
    obtain ⟨u, q1, q2⟩ := s.val j d' h3
    exact ⟨u, by rw [h4]; exact q1, q2.same k⟩
  · obtain ⟨h3, h4⟩ := g1 h (fun z => by cases z)
    obtain ⟨u, q1, q2⟩ := s.own j d' h3
    exact ⟨u, by rw [h4]; exact q1, q2.same k rfl⟩
  · obtain ⟨h3, h4⟩ := g1 h (fun z => by cases z)
    obtain ⟨u, q1, q2⟩ := s.bor j j' h3
    exact ⟨u, q1, by rw [h4]; exact q2⟩
  · obtain ⟨h5, h6⟩ := g1 h1 (fun z => by cases z)
    obtain ⟨h7, h8⟩ := g1 h2 (fun z => by cases z)
    rw [h6] at h3
    rw [h8] at h4
    exact s.inj j j' d1 d2 a h5 h7 h3 h4
  · obtain ⟨a, h1, h2⟩ := s.br j d' h
    exact ⟨a, h1, h2.same k rfl⟩
/-- the slots as they stood -/
theorem StR.unwipe {ex' : List Addr} {H0 F0 : Hp} {e0 : En} {vs : List Nat} (s0 : StR K bs ex' σ H0 F0 e0) (s : StR K bs ex (L2.wipe σ vs) H F e) (k : Same F0 F) (hf : freeS e0.s vs = true) : StR K bs ex σ H F ⟨backS e0.s e.s vs, e.b⟩ := by
  have hf : ∀ v ∈ vs, ∀ d, e0.s[v]? ≠ some (.own d) ∧ ∀ j, e0.s[v]? ≠ some (.bor j) := fun v hv d => by
    have := List.all_eq_true.mp hf v hv
    constructor
    · intro z; rw [z] at this; cases this
    · intro j z; rw [z] at this; cases this
  have hl : e.s.length = e0.s.length := by rw [s.len, wipe_length, ← s0.len]
  have g : ∀ {j : Nat} {x : DL.Slot}, (backS e0.s e.s vs)[j]? = some x → (j ∈ vs ∧ (e0.s[j]? = some x ∨ x = .und)) ∨ (j ∉ vs ∧ e.s[j]? = some x ∧ (L2.wipe σ vs)[j]? = σ[j]?) := fun {j x} h => by
    rw [backS_get] at h
    split at h
    · rename_i hj
      split at h
      · rename_i hjl
        cases h
        refine .inl ⟨hj, .inl ?_⟩
        rw [List.getD_eq_getElem?_getD, List.getElem?_eq_getElem (by rw [← hl]; exact hjl)]
        rfl
      · cases h
    · rename_i hj
      exact .inr ⟨hj, h, by rw [wipe_get, if_neg hj]⟩
  have own' : ∀ a, IsOwn (backS e0.s e.s vs) σ a ↔ IsOwn e.s (L2.wipe σ vs) a := fun a => by
    constructor
    · rintro ⟨i, d, h1, h2⟩
      rcases g h1 with ⟨hv, h⟩ | ⟨hv, h, h'⟩
      · rcases h with h | h
        · exact absurd h (hf i hv d).1
        · cases h
      · exact ⟨i, d, h, by rw [h']; exact h2⟩
    · rintro ⟨i, d, h1, h2⟩
      rw [wipe_get] at h2
      split at h2
      · split at h2 <;> cases h2
      · rename_i hi
        exact ⟨i, d, by rw [backS_get, if_neg hi]; exact h1, h2⟩
  have hid' : ∀ a, Hid (backS e0.s e.s vs) σ bs ex a ↔ Hid e.s (L2.wipe σ vs) bs ex a := fun a => by unfold Hid; rw [own' a]
  refine ⟨by rw [backS_length, hl]; exact s0.len, fun j d' h => ?_, fun j d' h => ?_, fun j j' h => ?_, fun j j' d1 d2 a h1 h2 h3 h4 => ?_, fun a h => s.out a ((own' a).mp h), fun a h => s.hid a ((hid' a).mp h), fun a h => s.vis a fun z => h ((hid' a).mpr z), s.bl, s.br, s.bn, s.bx, s.mu, s.tb⟩
  · rcases g h with ⟨hv, h⟩ | ⟨hv, h, h'⟩
    · rcases h with h | h
      · obtain ⟨u, q1, q2⟩ := s0.val j d' h
        exact ⟨u, q1, q2.same k⟩
      · cases h
    · obtain ⟨u, q1, q2⟩ := s.val j d' h
      exact ⟨u, by rw [← h']; exact q1, q2⟩
  · rcases g h with ⟨hv, h⟩ | ⟨hv, h, h'⟩
    · rcases h with h | h
      · exact absurd h (hf j hv d').1
      · cases h
    · obtain ⟨u, q1, q2⟩ := s.own j d' h
      exact ⟨u, by rw [← h']; exact q1, q2⟩
  · rcases g h with ⟨hv, h⟩ | ⟨hv, h, h'⟩
    · rcases h with h | h
      · exact absurd h ((hf j hv .non).2 j')
      · cases h
    · obtain ⟨u, q1, q2⟩ := s.bor j j' h
      exact ⟨u, q1, by rw [← h']; exact q2⟩
  · rcases g h1 with ⟨hv, h⟩ | ⟨hv, h5, h'⟩
    · rcases h with h | h
      · exact absurd h (hf j hv d1).1
      · cases h
    rcases g h2 with ⟨hv2, h⟩ | ⟨hv2, h6, h''⟩
    · rcases h with h | h
      · exact absurd h (hf j' hv2 d2).1
      · cases h
    exact s.inj j j' d1 d2 a h5 h6 (by rw [h']; exact h3) (by rw [h'']; exact h4)
/-- the object at a, one of ex, is written -/
theorem StR.writeEx {a : Addr} {o : HO} (s : StR K bs (a :: ex) σ H F e) (w : Wr o) (na : a ∉ ex) : StR K bs (a :: ex) σ (upd H a o) F e ∧ Step ex H F (upd H a o) F := by
  have nO : ∀ b, IsOwn e.s σ b → b ≠ a := fun b h z => (s.out b h).2 (by rw [z]; exact List.mem_cons_self)
  have nB : ∀ b, b ∈ bs → b ≠ a := fun b h z => s.bx b h (by rw [z]; exact List.mem_cons_self)
  refine ⟨⟨s.len, s.val, fun i d q => ?_, s.bor, s.inj, s.out, s.hid, fun b h => ?_, s.bl, fun j d q => ?_, s.bn, s.bx, fun b h => ?_, (s.mu a List.mem_cons_self).elim fun _ q => s.tb.put q.1 q.2⟩, Same.refl _, fun b h => upd_ne fun z => na (z ▸ h)⟩
  · obtain ⟨b, h1, h2⟩ := s.own i d q
    exact ⟨b, h1, h2.same (Same.refl _) (upd_ne (nO b ⟨i, d, q, h1⟩))⟩
  · rw [msk_congr (upd_ne fun z => h (.inr (.inr (by rw [z]; exact List.mem_cons_self))))]
    exact s.vis b h
  · obtain ⟨b, h1, h2⟩ := s.br j d q
    exact ⟨b, h1, h2.same (Same.refl _) (upd_ne (nB b (List.mem_of_getElem? h1)))⟩
  · by_cases z : b = a
    · subst z; exact ⟨o, upd_same, w⟩
    · obtain ⟨o', h1, h2⟩ := s.mu b h
      exact ⟨o', by rw [upd_ne z]; exact h1, h2⟩
end
/-- no exception leaves -/
theorem Post.mono {K : PySem.W.Frag} {E : SK} {bs ex : List Addr} {σ : L2.St} {H F : Hp} {α : Type} {r : Res α} {P : α → En → Hp → Hp → Prop} (p : Post K E bs ex σ H F r P) (h : ∀ c as e, r ≠ .exc c as e) (E' : SK) : Post K E' bs ex σ H F r P := by
  cases r with
  | ok a e => exact p
  | exc c as e => exact absurd rfl (h c as e)
  | stuck => exact p
/-- a tests' list -/
structure DTs (X : Cx) (E : SK) (xs : List Expr) (f : Ef Bool) : Prop where
  pts : PTs X xs (tDT X.K E f)
theorem dts_nil {X : Cx} {E : SK} : DTs X E [] (rtn true) := ⟨⟨fun pins s σ H Q I ⟨bs, ex, F, e, s0, p⟩ => pts_nil.run pins s σ H Q I (p H F s0 (Step.refl _ _ _))⟩⟩
theorem dts_one {X : Cx} {E : SK} {c : Expr} {f : Ef Bool} (h : DT X E c f) : DTs X E [c] f := ⟨pts_one h.pt⟩
theorem PTs.imp {X : Cx} {x : List Expr} {t t' : TT} (h : PTs X x t) (i : ∀ σ H Q, t' σ H Q → t σ H Q) : PTs X x t' := ⟨fun pins s σ H Q I hw => h.run pins s σ H Q I (i σ H Q hw)⟩
/-- the block's context -/
theorem DC.blk {X : Cx} {E : SK} (C : DC X E) (s : Shared) (H : Hp) (scope : Scope) (cenv : PySem.Env) (fp : List Addr) : DC (X.blk s H scope cenv fp) ES0 :=
  ⟨PassesOwn.never, fun σ pins H s e s' => passL pins σ H s e s', C.calm, C.nd, fun u s' ⟨_, _, _, _, _, _, _, _, _, _, _, _, _, _, _, _, w⟩ => w.elim⟩
section
variable {X : Cx} {E : SK} {tg iter elt : Expr} {ifs : List Expr} {scope : Scope} {own : List (Str × Nat)} {pos : Pos} {fi : Ef (List D)} {g : D → Ef Unit} {ft : Ef Bool} {fe : Ef D} {ts : List Nat}
theorem bnd_ok {α β : Type} {f : Ef α} {g : α → Ef β} {e e' : En} {b : β} (h : bnd f g e = .ok b e') : ∃ a e1, f e = .ok a e1 ∧ g a e1 = .ok b e' := by
  unfold bnd at h
  generalize f e = r at h ⊢
  cases r with
  | ok a e1 => exact ⟨a, e1, rfl, h⟩
  | exc c as e1 => cases h
  | stuck => cases h
theorem lc_pure {vs : List Nat} (hsub : ∀ j ∈ ts, j ∈ vs) : ∀ σ H Q, tDN X.K E (eLc fi g ft fe vs) σ H Q → tLc (tDI X.K E fi) (tDG X.K ES0 ts g) (tDT X.K ES0 ft) (tD X.K ES0 fe) vs σ H Q := by
  rintro σ H Q ⟨bs, ex, F, e, s, p⟩
  refine ⟨bs, ex, F, e, s, p.bnd.imp fun ds e1 H1 F1 _ s1 st1 p1 J w Da hDa => ?_⟩
  unfold lcRun at p1
  split at p1
  · rename_i hfree
    obtain ⟨s2, st2⟩ := s1.alloc (o := .lst []) hDa trivial
    have nD : Da ∉ ex := s1.nex hDa
    obtain ⟨F3, s3, st3⟩ := s2.wipe vs
    let Fin : List D → En → Prop := fun acc e' => ∀ a H' F', StR X.K bs (a :: ex) σ H' F' ⟨backS e1.s e'.s vs, e'.b⟩ → Step ex H1 F1 H' F' → a ∉ ex → OwnR X.K F' H' (.lst acc) a → Q (.ref a) H'
    have p0 : ∃ acc e'', lcLoop g ft fe vs ds [] ⟨wipeS e1.s vs, e1.b⟩ = .ok acc e'' ∧ Fin acc e'' := by
      generalize lcLoop g ft fe vs ds [] ⟨wipeS e1.s vs, e1.b⟩ = r at p1 ⊢
      cases r with
      | ok acc e'' => exact ⟨acc, e'', rfl, p1⟩
      | exc c as e'' => exact p1.elim
      | stuck => exact p1.elim
    clear p1
    refine ⟨fun i m H' => i ≤ ds.length ∧ m = ds.length - i ∧ ∃ F' e' accD accV, StR X.K bs (Da :: ex) (L2.wipe σ vs) H' F' e' ∧ Step ex H1 F1 H' F' ∧ H' Da = some (.lst accV) ∧ Reps X.K F' accD accV ∧ accD.length ≤ big ∧
      ∃ acc e'', lcLoop g ft fe vs (ds.drop i) accD e' = .ok acc e'' ∧ Fin acc e'', ⟨ds.length, Nat.zero_le _, rfl, F3, _, [], [], s3, st2.trans ⟨st3.1, fun a h => st3.2 a (List.mem_cons_of_mem _ h)⟩, upd_same, .nil, Nat.zero_le _, p0⟩, ?_⟩
    rintro i m H' ⟨hi, rfl, F', e', accD, accV, s', st', hD, rA, hz, p'⟩
    by_cases hlt : i < ds.length
    · have hd : ds[i]? = some ds[i] := List.getElem?_eq_getElem hlt
      rw [List.drop_eq_getElem_cons hlt] at p'
      refine .inr ⟨w.go i H' hlt (st'.1.trans s'.le), fun H2 => ∃ F2 e2 accD accV, StR X.K bs (Da :: ex) (L2.wipe σ vs) H2 F2 e2 ∧ Step ex H1 F1 H2 F2 ∧ H2 Da = some (.lst accV) ∧ Reps X.K F2 accD accV ∧ accD.length ≤ big ∧
        ∃ acc e'', lcLoop g ft fe vs (ds.drop (i + 1)) accD e2 = .ok acc e'' ∧ Fin acc e'', fun H2 ⟨F2, e2, a2, v2, h⟩ => ⟨ds.length - (i + 1), by omega, hlt, rfl, F2, e2, a2, v2, h⟩, fun x H2 y => ?_⟩
      obtain ⟨F2, gr, r⟩ := w.next hd st'.1 s' y
      obtain ⟨s2', st2'⟩ := s'.grow gr
      obtain ⟨accE, eE, hE, hFin⟩ := p'
      have stx : ∀ {Ha Fa Hb Fb}, Step (Da :: ex) Ha Fa Hb Fb → Step ex Ha Fa Hb Fb := fun h => ⟨h.1, fun a q => h.2 a (List.mem_cons_of_mem _ q)⟩
      obtain ⟨_, e3, h3, hE⟩ := bnd_ok hE
      obtain ⟨t, e4, h4, hE⟩ := bnd_ok hE
      refine ⟨bs, Da :: ex, F2, e', _, s2', r, ?_⟩
      rw [h3]
      intro σ3 H3 F3' s3' st3' ag
      have ew : L2.wipe σ3 vs = L2.wipe σ vs := (wipe_agree ag hsub).trans (wipe_wipe vs σ)
      refine ⟨ew, bs, Da :: ex, F3', e3, s3', ?_⟩
      rw [h4]
      intro H4 F4 s4 st4
      have hD4 : H4 Da = some (.lst accV) := by rw [st4.2 Da List.mem_cons_self, st3'.2 Da List.mem_cons_self, st2'.2 Da List.mem_cons_self]; exact hD
      have r4 := ((rA.same st2'.1).same st3'.1).same st4.1
      have t4 := st'.trans (stx ((st2'.trans st3').trans st4))
      cases t with
      | false =>
        rw [if_neg Bool.false_ne_true] at hE
        dsimp only
        rw [if_neg Bool.false_ne_true]
        obtain ⟨F5, s5, st5⟩ := s4.wipe vs
        rw [ew] at s5
        exact ⟨F5, _, accD, accV, s5, t4.trans (stx st5), hD4, r4.same st5.1, hz, accE, eE, hE, hFin⟩
      | true =>
        rw [if_pos rfl] at hE
        dsimp only
        rw [if_pos rfl]
        obtain ⟨y, e5, h5, hE⟩ := bnd_ok hE
        refine ⟨bs, Da :: ex, F4, e4, s4, ?_⟩
        rw [h5]
        intro H5 F5 s5 st5 v rv
        have hD5 : H5 Da = some (.lst accV) := by rw [st5.2 Da List.mem_cons_self]; exact hD4
        have hE : (if accD.length < big then lcLoop g ft fe vs (ds.drop (i + 1)) (accD ++ [y]) else stk) ⟨wipeS e5.s vs, e5.b⟩ = .ok accE eE := hE
        split at hE
        · rename_i hlen
          obtain ⟨F6, s6, st6⟩ := s5.wipe vs
          rw [ew] at s6
          obtain ⟨s7, st7⟩ := s6.writeEx (o := .lst (accV ++ [v])) trivial nD
          refine ⟨accV, hD5, by rw [← rA.length]; exact big_line' (Nat.le_of_lt hlen), F6, _, accD ++ [y], accV ++ [v], s7, (t4.trans (stx (st5.trans st6))).trans st7, upd_same, ((r4.same st5.1).append (.cons rv .nil)).same st6.1, ?_, accE, eE, hE, hFin⟩
          rw [List.length_append]
          exact hlen
        · cases hE
    · have ei : i = ds.length := by omega
      subst ei
      rw [List.drop_length] at p'
      obtain ⟨acc, e'', h1, h2⟩ := p'
      cases h1
      exact .inl ⟨w.stop H' (st'.1.trans s'.le), h2 Da H' F' (s1.unwipe s' st'.1 hfree) st' nD (.lst hD rA)⟩
  · exact p1.elim
/-- [elt for target in iter if ..] -/
theorem dn_lc (C : DC X E) (own : List (Str × Nat)) (hi : DI X E tg iter fi) (ok : BlkOk X.N X.env.scope scope own) (hg : ∀ (Y : Cx) (s : Shared) (H : Hp) (Ca : Addr) (cl : List (Str × Addr)) (fp : List Addr), Y = X.blk s H scope (compEnvC scope cl Ca X.env) fp → DC Y ES0 → DG Y ES0 ts tg g)
    (ht : ∀ (Y : Cx) (s : Shared) (H : Hp) (Ca : Addr) (cl : List (Str × Addr)) (fp : List Addr), Y = X.blk s H scope (compEnvC scope cl Ca X.env) fp → DC Y ES0 → DTs Y ES0 ifs ft)
    (he : ∀ (Y : Cx) (s : Shared) (H : Hp) (Ca : Addr) (cl : List (Str × Addr)) (fp : List Addr), Y = X.blk s H scope (compEnvC scope cl Ca X.env) fp → DC Y ES0 → DE Y ES0 elt fe)
    (hsub : ∀ j ∈ ts, j ∈ own.map (·.2) := by decide) (hs : ∀ x, foldedSetIterable iter X.env x = pure x := by intro _; rfl) : DN X E (.ListComp elt [⟨tg, iter, ifs, 0⟩] scope pos) (eLc fi g ft fe (own.map (·.2))) :=
  ⟨PE.imp (pe_lc C.calm C.nd hi.pi ok (fun s H Ca cl fp => show PG _ tg (tDG X.K ES0 ts g) from (hg _ s H Ca cl fp rfl (C.blk ..)).pg) (fun s H Ca cl fp => show PTs _ ifs (tDT X.K ES0 ft) from (ht _ s H Ca cl fp rfl (C.blk ..)).pts) (fun s H Ca cl fp => show PE _ elt (tD X.K ES0 fe) from (he _ s H Ca cl fp rfl (C.blk ..)).pe) hs) (lc_pure hsub)⟩
/-- name = [..] on one line, kept as a value or as one's own -/
theorem ds_setLc (C : DC X E) (i : Nat) {y : Str} {py spos : Pos} (own : List (Str × Nat)) (hi : DI X E tg iter fi) (ok : BlkOk X.N X.env.scope scope own) (hg : ∀ (Y : Cx) (s : Shared) (H : Hp) (Ca : Addr) (cl : List (Str × Addr)) (fp : List Addr), Y = X.blk s H scope (compEnvC scope cl Ca X.env) fp → DC Y ES0 → DG Y ES0 ts tg g)
    (ht : ∀ (Y : Cx) (s : Shared) (H : Hp) (Ca : Addr) (cl : List (Str × Addr)) (fp : List Addr), Y = X.blk s H scope (compEnvC scope cl Ca X.env) fp → DC Y ES0 → DTs Y ES0 ifs ft)
    (he : ∀ (Y : Cx) (s : Shared) (H : Hp) (Ca : Addr) (cl : List (Str × Addr)) (fp : List Addr), Y = X.blk s H scope (compEnvC scope cl Ca X.env) fp → DC Y ES0 → DE Y ES0 elt fe)
    (hy : X.N[i]? = some y := by rfl) (hyl : X.env.scope.names.lookup y = some .local := by rfl) (hsw : swapsWith (.ListComp elt [⟨tg, iter, ifs, 0⟩] scope pos) (some (.Name y py)) spos.line X.env = pure true := by exact sw_true rfl rfl rfl (by decide +kernel))
    (hsub : ∀ j ∈ ts, j ∈ own.map (·.2) := by decide) (hs : ∀ x, foldedSetIterable iter X.env x = pure x := by intro _; rfl) : DS X E (.Assign [.Name y py] (.ListComp elt [⟨tg, iter, ifs, 0⟩] scope pos) spos) (sSetN i (eLc fi g ft fe (own.map (·.2)))) := by
  refine ⟨PS.imp (ps_setLc C.calm C.nd hy hyl hsw hi.pi ok (fun s H Ca cl fp => show PG _ tg (tDG X.K ES0 ts g) from (hg _ s H Ca cl fp rfl (C.blk ..)).pg) (fun s H Ca cl fp => show PTs _ ifs (tDT X.K ES0 ft) from (ht _ s H Ca cl fp rfl (C.blk ..)).pts) (fun s H Ca cl fp => show PE _ elt (tD X.K ES0 fe) from (he _ s H Ca cl fp rfl (C.blk ..)).pe) hs) ?_⟩
  rintro D σ H ⟨bs, ex, F, e, s, p⟩
  refine lc_pure hsub σ H _ ⟨bs, ex, F, e, s, ?_⟩
  have p' := p
  unfold sSetN DL.bnd at p'
  unfold PostN
  generalize eLc fi g ft fe (own.map (·.2)) e = r at p' ⊢
  cases r with
  | ok d e1 =>
    refine fun a' H1 F1 s1 st1 na o => ?_
    obtain ⟨F2, s2, st2⟩ := s1.setOwn i o na
    exact p' _ H1 F2 s2 (st1.trans st2)
  | exc c as e' => exact fun dx H' F' s t x => p' σ dx H' F' s t x
  | stuck => exact p'
end

/-! ### a subscript -/
def keyM (d : D) : Option Key := match d with
  | .int i => some (.inl i)
  | .str x => some (.inr x)
  | _ => none
theorem keyM_eq {d : D} {k : Key} (h : keyM d = some k) : d = keyD k := by
  cases d <;> first | cases h | skip
  · rfl
  · rfl
/-- flat keys of a dict -/
def valD (kvs : List (D × D)) (k : D) : Option D := match keyM k with
  | some kk => (kvs.find? fun p => match keyM p.1 with
    | some k' => decide (k' = kk)
    | none => false).map (·.2)
  | none => none
theorem keyM_keyD (k : Key) : keyM (keyD k) = some k := by cases k <;> rfl
theorem RepK.val {K : PySem.W.Frag} {F : Hp} {k : Key} : ∀ {kds : List (D × D)} {kvs : List (Key × V)}, RepK K F kds kvs →
    (∃ d v, valD kds (keyD k) = some d ∧ valV kvs k = some v ∧ Rep K F d v) ∨ (valD kds (keyD k) = none ∧ valV kvs k = none)
  | _, _, .nil => .inr ⟨by unfold valD; rw [keyM_keyD]; rfl, rfl⟩
  | _, _, .cons (k := k') (d := d) (v := v) (ds := ds) (vs := vs) h t => by
    by_cases e : k' = k
    · refine .inl ⟨d, v, ?_, valV_pos e, h⟩
      unfold valD
      rw [keyM_keyD]
      simp [List.find?_cons, keyM_keyD, e]
    · have e1 : valD ((keyD k', d) :: ds) (keyD k) = valD ds (keyD k) := by
        unfold valD
        rw [keyM_keyD]
        simp [List.find?_cons, keyM_keyD, e]
      rw [e1, valV_neg (p := (k', v)) (r := vs) e]
      exact RepK.val t
/-- tuples of flat keys -/
def keysM : D → Option (List Key)
  | .tup xs => keysL xs
  | _ => none
where keysL : List D → Option (List Key)
  | [] => some []
  | d :: r => match keyM d, keysL r with
    | some k, some ks => some (k :: ks)
    | _, _ => none
theorem keysL_eq : ∀ {xs : List D} {ks : List Key}, keysM.keysL xs = some ks → xs = ks.map keyD
  | [], ks, h => by cases h; rfl
  | d :: r, ks, h => by
    unfold keysM.keysL at h
    cases hd : keyM d with
    | none => rw [hd] at h; cases h
    | some k =>
      cases hr : keysM.keysL r with
      | none => rw [hd, hr] at h; cases h
      | some ks' =>
        rw [hd, hr] at h; cases h
        rw [keyM_eq hd, keysL_eq hr]; rfl
theorem keysL_map : ∀ ks : List Key, keysM.keysL (ks.map keyD) = some ks
  | [] => rfl
  | k :: r => by
    show keysM.keysL (keyD k :: r.map keyD) = _
    unfold keysM.keysL
    rw [keyM_keyD, keysL_map r]
theorem keysM_eq {d : D} {ks : List Key} (h : keysM d = some ks) : d = keyT ks := by
  cases d <;> first | cases h; done | skip
  rename_i xs
  rw [keysL_eq (show keysM.keysL xs = some ks from h)]; rfl
theorem keysM_keyT (ks : List Key) : keysM (keyT ks) = some ks := keysL_map ks
def valT (kvs : List (D × D)) (k : D) : Option D := match keysM k with
  | some kk => (kvs.find? fun p => match keysM p.1 with
    | some k' => decide (k' = kk)
    | none => false).map (·.2)
  | none => none
theorem RepT.val {K : PySem.W.Frag} {F : Hp} {k : List Key} : ∀ {kds : List (D × D)} {kvs : List (List Key × V)}, RepT K F kds kvs →
    (∃ d v, valT kds (keyT k) = some d ∧ valV kvs k = some v ∧ Rep K F d v) ∨ (valT kds (keyT k) = none ∧ valV kvs k = none)
  | _, _, .nil => .inr ⟨by unfold valT; rw [keysM_keyT]; rfl, rfl⟩
  | _, _, .cons (k := k') (d := d) (v := v) (ds := ds) (vs := vs) h t => by
    by_cases e : k' = k
    · refine .inl ⟨d, v, ?_, valV_pos e, h⟩
      unfold valT
      rw [keysM_keyT]
      simp [List.find?_cons, keysM_keyT, e]
    · have e1 : valT ((keyT k', d) :: ds) (keyT k) = valT ds (keyT k) := by
        unfold valT
        rw [keysM_keyT]
        simp [List.find?_cons, keysM_keyT, e]
      rw [e1, valV_neg (p := (k', v)) (r := vs) e]
      exact RepT.val t
theorem rep_keys {K : PySem.W.Frag} {F : Hp} : ∀ {ks : List Key} {vs : List V}, Reps K F (ks.map keyD) vs → vs = ks.map kV
  | [], _, .nil => rfl
  | k :: r, _, .cons h t => by
    rw [List.map_cons, rep_keys t]
    congr 1
    cases k with
    | inl i => cases h; rfl
    | inr x => cases h; rfl
/-- what a dict's key reads -/
theorem dget_of {K : PySem.W.Frag} {F H : Hp} {d dk : D} {v x : V} (le : Same F H) (r : Rep K F d v) (rk : Rep K F dk x) :
    (∀ kds, d = .dct kds → (keyM dk).isSome = true → ∃ a o, v = .ref a ∧ DGet H a x o ∧ IsD H a ∧ ((∃ e w, valD kds dk = some e ∧ o = some w ∧ Rep K F e w) ∨ (valD kds dk = none ∧ o = none))) ∧
    (∀ kds, d = .dcT kds → (keysM dk).isSome = true → ∃ a o, v = .ref a ∧ DGet H a x o ∧ IsD H a ∧ ((∃ e w, valT kds dk = some e ∧ o = some w ∧ Rep K F e w) ∨ (valT kds dk = none ∧ o = none))) := by
  constructor
  · rintro kds rfl hk
    obtain ⟨k, hk⟩ := Option.isSome_iff_exists.mp hk
    have ed := keyM_eq hk
    subst ed
    have ex : x = kV k := by
      cases k with
      | inl i => cases rk; rfl
      | inr z => cases rk; rfl
    subst ex
    cases r with
    | dK h r =>
      have hh := (Keeps.of_same le).rd _ _ h
      refine ⟨_, _, rfl, .inl ⟨_, k, hh, rfl, rfl⟩, .inl ⟨_, hh⟩, ?_⟩
      rcases r.val (k := k) with ⟨e, w, h1, h2, h3⟩ | ⟨h1, h2⟩
      · exact .inl ⟨e, w, h1, h2, h3⟩
      · exact .inr ⟨h1, h2⟩
  · rintro kds rfl hk
    obtain ⟨k, hk⟩ := Option.isSome_iff_exists.mp hk
    have ed := keysM_eq hk
    subst ed
    cases r with
    | dT h r =>
      cases rk with
      | tup hb rs =>
        have := rep_keys rs
        subst this
        have hh := (Keeps.of_same le).rd _ _ h
        refine ⟨_, _, rfl, .inr ⟨_, k, _, hh, rfl, le _ _ hb, rfl⟩, .inr ⟨_, hh⟩, ?_⟩
        rcases r.val (k := k) with ⟨e, w, h1, h2, h3⟩ | ⟨h1, h2⟩
        · exact .inl ⟨e, w, h1, h2, h3⟩
        · exact .inr ⟨h1, h2⟩
def fGetO : D → D → Option (Option D)
  | .dct kvs, k => if (keyM k).isSome = true then some (valD kvs k) else none
  | .dcT kvs, k => if (keysM k).isSome = true then some (valT kvs k) else none
  | _, _ => none
theorem get_of {K : PySem.W.Frag} {F H : Hp} {d dk : D} {v x : V} {z : Option D} (le : Same F H) (r : Rep K F d v) (rk : Rep K F dk x) (h : fGetO d dk = some z) :
    ∃ a o, v = .ref a ∧ DGet H a x o ∧ IsD H a ∧ ((∃ e w, z = some e ∧ o = some w ∧ Rep K F e w) ∨ (z = none ∧ o = none)) := by
  obtain ⟨h1, h2⟩ := dget_of le r rk
  unfold fGetO at h
  split at h
  · split at h
    · cases h; exact h1 _ rfl (by assumption)
    · cases h
  · split at h
    · cases h; exact h2 _ rfl (by assumption)
    · cases h
  · cases h
def fIx : D → D → Option D
  | .tup xs, .int i => atI xs i
  | .ktp xs, .int i => atI xs i
  | .dct kvs, k => (fGetO (.dct kvs) k).bind id
  | .dcT kvs, k => (fGetO (.dcT kvs) k).bind id
  | .lst xs, .int i => atI xs i
  | .scr ns, .int i => (atI ns i).map D.int
  | .str z, .int i => if z.length ≤ big then (atI z.cps.toList i).map fun c => .str ⟨#[c]⟩ else none
  | _, _ => none
theorem atI_map {α β : Type} (f : α → β) (xs : List α) (i : Int) : atI (xs.map f) i = (atI xs i).map f := by
  unfold atI
  rw [List.length_map]
  cases ixN xs.length i with
  | none => rfl
  | some j => simp
theorem Reps.at {K : PySem.W.Frag} {F : Hp} {ds : List D} {vs : List V} {i : Int} {d : D} (r : Reps K F ds vs) (h : atI ds i = some d) : ∃ v, atI vs i = some v ∧ Rep K F d v := by
  unfold atI at h ⊢
  rw [r.length] at h
  cases hj : ixN vs.length i with
  | none => rw [hj] at h; cases h
  | some j =>
    rw [hj] at h
    exact r.get h
section
variable {X : Cx} {E : SK} {a b : Expr} {f g : Ef D} {pos p p2 : Pos}
theorem ixr (hu : X.A.units + 1 < cLine) : IxR X (rF2 X fIx) := by
  intro value slice pins s σ H x y v u Q I rx ry ⟨F, d, e, z, le, r1, r2, hf, q⟩ hs
  have dict : (fGetO d e).bind id = some z → wpAny (model X.prog X.w) X.A (subscriptTail value slice v u) (EP X pins σ Q) X.xe s := fun hz => by
    cases hg : fGetO d e with
    | none => rw [hg] at hz; cases hz
    | some o =>
      rw [hg] at hz
      have hz : o = some z := hz
      subst hz
      obtain ⟨a, o, rfl, g, isd, h | h⟩ := get_of le r1 r2 hg
      · obtain ⟨e', w, h1, rfl, h3⟩ := h
        cases h1
        cases rx
        exact tail_any (dict_typeIs I g) PySem.F.slot_dict_getitem.lookup (d_getItem hu I g ry fun w' s' I' rw' => ⟨w, H, I', rw', q _ _ _ grow0 h3⟩) hs
      · cases h.1
  cases r2 with
  | int i =>
    cases r1 with
    | tup h r =>
      obtain ⟨w, h1, h2⟩ := r.at hf
      exact ix_tup value slice pins s σ H _ _ v u Q I rx ry ⟨_, _, _, w, rfl, rfl, sqt le h, h1, q _ _ _ grow0 h2⟩ hs
    | ktp h r =>
      obtain ⟨w, h1, h2⟩ := r.at hf
      exact ix_tup value slice pins s σ H _ _ v u Q I rx ry ⟨_, _, _, w, rfl, rfl, h.sq le, h1, q _ _ _ grow0 h2⟩ hs
    | dK h r => exact dict hf
    | dT h r => exact dict hf
    | lst h r =>
      obtain ⟨w, h1, h2⟩ := r.at hf
      exact ix_list value slice pins s σ H _ _ v u Q I rx ry ⟨_, _, _, w, rfl, rfl, .of (le _ _ h), h1, q _ _ _ grow0 h2⟩ hs
    | @scr a ns h =>
      have hf : (atI ns i).map D.int = some z := hf
      cases hj : atI ns i with
      | none => rw [hj] at hf; cases hf
      | some j =>
        rw [hj] at hf; cases hf
        exact ix_list value slice pins s σ H _ _ v u Q I rx ry ⟨_, _, _, V.int j, rfl, rfl, (Keeps.of_same le).sqL h, by rw [atI_map, hj]; rfl, q _ _ _ grow0 (.int _)⟩ hs
    | str x =>
      have hf : (if x.length ≤ big then (atI x.cps.toList i).map fun c => D.str ⟨#[c]⟩ else none) = some z := hf
      split at hf
      · rename_i hl
        cases hj : atI x.cps.toList i with
        | none => rw [hj] at hf; cases hf
        | some j =>
          rw [hj] at hf; cases hf
          exact ix_str value slice pins s σ H _ _ v u Q I rx ry ⟨_, _, _, rfl, rfl, big_line hl, hj, q _ _ _ grow0 (.str _)⟩ hs
      · cases hf
    | _ => cases hf
  | _ => cases r1 <;> first | exact dict hf | cases hf
theorem de_ix (hu : X.A.units + 1 < cLine) (ha : DE X E a f) (hb : DE X E b g) (hs : PlainIx b := by intro _ _; rfl) : DE X E (.Subscript a b pos) (eOp2 fIx f g) :=
  ⟨PE.imp (pe_ix (ixr hu) ha.pe hb.pe hs) op2_core⟩

/-! ### slices -/
def cutD (xs : List D) (lo hi : Option Int) : List D := (xs.drop (HT.sIx xs.length 0 lo)).take (HT.sIx xs.length xs.length hi - HT.sIx xs.length 0 lo)
theorem Reps.cut {K : PySem.W.Frag} {F : Hp} {ds : List D} {vs : List V} (r : Reps K F ds vs) (lo hi : Option Int) : Reps K F (cutD ds lo hi) (cutV vs lo hi) := by
  unfold cutD cutV
  rw [r.length]
  exact (r.drop _).take _
def fSl (d : D) (lo hi : Option Int) : Option D := match d with
  | .tup xs => some (.tup (cutD xs lo hi))
  | .ktp xs => if HT.sIx xs.length 0 lo = 0 ∧ HT.sIx xs.length xs.length hi = xs.length then some (.ktp xs) else some (.tup (cutD xs lo hi))
  | .lst xs => some (.lst (cutD xs lo hi))
  | .scr ns => some (.lst (cutD (ns.map .int) lo hi))
  | .str z => if z.length ≤ big then some (.str (cutS z lo hi)) else none
  | _ => none
theorem cutD_all {xs : List D} {lo hi : Option Int} (h : HT.sIx xs.length 0 lo = 0 ∧ HT.sIx xs.length xs.length hi = xs.length) : cutD xs lo hi = xs := by
  unfold cutD
  rw [h.1, h.2]; simp
def asI : D → Ef (Option Int)
  | .int i => rtn (some i)
  | _ => stk
def eNoP : Ef (Option Int) := rtn none
def eP (f : Ef D) : Ef (Option Int) := bnd f asI
def eSl (f : Ef D) (l h : Ef (Option Int)) : Ef D := bnd f fun d => bnd l fun lo => bnd h fun hi => lift (fSl d lo hi)
def rSl (X : Cx) : V → Option Int → Option Int → Hp → VK → Prop := fun x lo hi H Q => ∃ F d z, Same F H ∧ Rep X.K F d x ∧ fSl d lo hi = some z ∧ ∀ v F' H', Grow F H F' H' → Rep X.K F' z v → Q v H'
theorem slr : SlR X (rSl X) := by
  intro pins s σ H x v vl vu lo hi sl Q I rx hs pl pu ⟨F, d, z, le, r, hf, q⟩
  cases r with
  | tup h r =>
    cases hf
    refine sl_tupA pins s σ H _ v vl vu lo hi sl Q I rx hs pl pu ⟨_, _, rfl, sqt le h, fun e => ?_, fun e p hp => ?_⟩
    · rw [cutD_all (by rw [r.length]; exact e)] at q
      exact q _ _ _ grow0 (.tup h r)
    · exact q _ _ _ (grow1 hp) (new_tup hp le (r.cut lo hi))
  | ktp h r =>
    unfold fSl at hf
    dsimp only at hf
    refine sl_tupA pins s σ H _ v vl vu lo hi sl Q I rx hs pl pu ⟨_, _, rfl, h.sq le, fun e => ?_, fun e p hp => ?_⟩
    · rw [if_pos (by rw [r.length]; exact e)] at hf
      cases hf
      exact q _ _ _ grow0 (.ktp h r)
    · rw [if_neg (by rw [r.length]; exact e)] at hf
      cases hf
      exact q _ _ _ (grow1 hp) (new_tup hp le (r.cut lo hi))
  | lst h r =>
    cases hf
    exact sl_list pins s σ H _ v vl vu lo hi sl Q I rx hs pl pu ⟨_, _, rfl, .of (le _ _ h), fun p hp => q _ _ _ (grow1 hp) (new_lst hp le (r.cut lo hi))⟩
  | @scr a ns h =>
    cases hf
    exact sl_list pins s σ H _ v vl vu lo hi sl Q I rx hs pl pu ⟨_, _, rfl, (Keeps.of_same le).sqL h, fun p hp => q _ _ _ (grow1 hp) (new_lst hp le ((Reps.of_ints ns).cut lo hi))⟩
  | str x =>
    unfold fSl at hf
    dsimp only at hf
    split at hf
    · rename_i hl
      cases hf
      exact sl_str pins s σ H _ v vl vu lo hi sl Q I rx hs pl pu ⟨_, rfl, big_line hl, q _ _ _ grow0 (.str _)⟩
    · cases hf
  | _ => cases hf
/-- the part of a slice -/
def tDO (K : PySem.W.Frag) (E : SK) (f : Ef (Option Int)) : TO := fun σ H Q => ∃ bs ex F e, StR K bs ex σ H F e ∧ Post K E bs ex σ H F (f e) fun o _ H' _ => Q o H'
structure DO (X : Cx) (E : SK) (x : Option Expr) (f : Ef (Option Int)) : Prop where
  po : PO X x (tDO X.K E f)
theorem PO.imp {X : Cx} {x : Option Expr} {t t' : TO} (h : PO X x t) (i : ∀ σ H Q, t' σ H Q → t σ H Q) : PO X x t' := ⟨fun pins s σ H Q I hw => h.run pins s σ H Q I (i σ H Q hw)⟩
theorem do_none : DO X E none eNoP := ⟨PO.imp po_none fun σ H Q ⟨bs, ex, F, e, s, p⟩ => p.rtn s⟩
theorem do_some (h : DE X E a f) : DO X E (some a) (eP f) := by
  refine ⟨PO.imp (po_some h.pe) ?_⟩
  rintro σ H Q ⟨bs, ex, F, e, s, p⟩
  refine ⟨bs, ex, F, e, s, p.bnd.imp fun d e1 H1 F1 _ s1 st1 p1 v r => ?_⟩
  cases r with
  | int i => exact ⟨i, rfl, p1.rtn s1⟩
  | _ => exact p1.elim
theorem de_sl {lo hi : Option Expr} {l h : Ef (Option Int)} (ha : DE X E a f) (hl : DO X E lo l) (hh : DO X E hi h) : DE X E (.Subscript a (.Slice lo hi none p2) pos) (eSl f l h) := by
  refine ⟨PE.imp (pe_slice slr ha.pe hl.po hh.po) ?_⟩
  rintro σ H Q ⟨bs, ex, F, e, s, p⟩
  refine ⟨bs, ex, F, e, s, p.bnd.imp fun d e1 H1 F1 _ s1 st1 p1 v r => ⟨bs, ex, F1, e1, s1, p1.bnd.imp fun lo' e2 H2 F2 _ s2 st2 p2 => ⟨bs, ex, F2, e2, s2, p2.bnd.imp fun hi' e3 H3 F3 _ s3 st3 p3 => ?_⟩⟩⟩
  obtain ⟨z, hz, q⟩ := p3.lift
  refine ⟨F3, d, z, s3.le, (r.same st2.1).same st3.1, hz, fun v F' H' gr rv => ?_⟩
  obtain ⟨s4, st4⟩ := s3.grow gr
  exact q H' F' s4 st4 v rv

/-! ### in, not in, is -/
def toInts : List D → Option (List Int)
  | [] => some []
  | .int i :: r => (toInts r).map (i :: ·)
  | _ :: _ => none
theorem toInts_eq : ∀ {xs : List D} {ns : List Int}, toInts xs = some ns → xs = ns.map D.int
  | [], ns, h => by cases h; rfl
  | d :: r, ns, h => by
    cases d <;> try (cases h; done)
    rename_i i
    have h : (toInts r).map (i :: ·) = some ns := h
    cases hr : toInts r with
    | none => rw [hr] at h; cases h
    | some ms => rw [hr] at h; cases h; rw [toInts_eq hr]; rfl
theorem toInts_map : ∀ ns : List Int, toInts (ns.map D.int) = some ns
  | [] => rfl
  | n :: r => by
    show (toInts (r.map D.int)).map (n :: ·) = _
    rw [toInts_map r]; rfl
/-- flat data -/
def flatD : D → Bool
  | .non => true
  | .bl _ => true
  | .int _ => true
  | .str _ => true
  | _ => false
def eqD : D → D → Bool
  | .non, .non => true
  | .bl a, .bl b => a == b
  | .bl a, .int b => (if a then 1 else 0) == b
  | .int a, .bl b => a == (if b then 1 else 0)
  | .int a, .int b => a == b
  | .str a, .str b => a == b
  | _, _ => false
theorem flat_rep {K : PySem.W.Frag} {F : Hp} {d : D} {v : V} (r : Rep K F d v) (h : flatD d = true) : flatV v = true := by
  cases r <;> first | rfl | cases h
theorem eq_rep {K : PySem.W.Frag} {F : Hp} {d d' : D} {v v' : V} (r : Rep K F d v) (r' : Rep K F d' v') (h : flatD d = true) (h' : flatD d' = true) : eqV v v' = eqD d d' := by
  cases r <;> first | cases h; done | skip
  all_goals (cases r' <;> first | cases h'; done | rfl)
theorem flats_rep {K : PySem.W.Frag} {F : Hp} : ∀ {ds : List D} {vs : List V}, Reps K F ds vs → ds.all flatD = true → vs.all flatV = true
  | _, _, .nil, _ => rfl
  | _, _, .cons r t, h => by
    rw [List.all_cons, Bool.and_eq_true] at h
    rw [List.all_cons, flat_rep r h.1, flats_rep t h.2]; rfl
theorem in_rep {K : PySem.W.Frag} {F : Hp} {d : D} {v : V} (r : Rep K F d v) (h : flatD d = true) : ∀ {ds : List D} {vs : List V}, Reps K F ds vs → ds.all flatD = true → inV v vs = ds.any fun e => eqD e d
  | _, _, .nil, _ => rfl
  | _, _, .cons r1 t, hh => by
    rw [List.all_cons, Bool.and_eq_true] at hh
    unfold inV
    rw [List.any_cons, List.any_cons, eq_rep r1 r hh.1 h]
    congr 1
    exact in_rep r h t hh.2
def kidsD : D → Option (List D)
  | .tup xs => some xs
  | .ktp xs => some xs
  | .lst xs => some xs
  | .scr ns => some (ns.map .int)
  | _ => none
/-- flat items -/
def fInS (x y : D) : Option Bool := match kidsD y with
  | some ys => if flatD x = true ∧ ys.all flatD = true then some (ys.any fun e => eqD e x) else none
  | none => none
/-- items of any depth: a list's -/
def fInL (x y : D) : Option Bool := match y with
  | .lst ys => if okd dmax x = true ∧ okd dmax y = true ∧ SeqAt.shaped (py x) = true ∧ SeqAt.shaped (py y) = true then some ((ys.map py).any fun z => PyData.eqv z (py x)) else none
  | _ => none
/-- a set of ints -/
def fInZ (x y : D) : Option Bool := match y with
  | .set ys => match x, toInts ys with
    | .int k, some ns => some (decide (k ∈ ns))
    | _, _ => none
  | _ => none
def fInB (x y : D) : Option Bool := match y with
  | .dct kvs => (fGetO y x).map Option.isSome
  | .dcT kvs => (fGetO y x).map Option.isSome
  | .set _ => fInZ x y
  | _ => match fInS x y with
    | some b => some b
    | none => fInL x y
def fIn (x y : D) : Option D := (fInB x y).map .bl
def fNotIn (x y : D) : Option D := (fInB x y).map fun b => .bl (!b)
theorem kids_sq {K : PySem.W.Frag} {F H : Hp} {d : D} {v : V} {xs : List D} (r : Rep K F d v) (h : kidsD d = some xs) (le : Same F H) : ∃ a vs, v = .ref a ∧ Reps K F xs vs ∧ (SqL K H a vs ∨ SqT K H a vs) := by
  cases r with
  | tup hs rs => cases h; exact ⟨_, _, rfl, rs, .inr (sqt le hs)⟩
  | ktp hs rs => cases h; exact ⟨_, _, rfl, rs, .inr (hs.sq le)⟩
  | lst hs rs => cases h; exact ⟨_, _, rfl, rs, .inl (.of (le _ _ hs))⟩
  | scr hs => cases h; exact ⟨_, _, rfl, .of_ints _, .inl ((Keeps.of_same le).sqL hs)⟩
  | _ => cases h
theorem or_in_core (neg : Bool) (hu : X.A.units + 65 < cLine) (op : CmpOp) (hop : op = if neg then .NotIn else .In) :
    ∀ (pins : List (Addr × Obj)) (s : Shared) (σ : L2.St) (H : Hp) (x y : V) (v u : Value) (Q : VK), Inv X pins σ H s → RelV x v → RelV y u → (∃ F d e z, Same F H ∧ Rep X.K F d x ∧ Rep X.K F e y ∧ fInB d e = some z ∧ Q (.bl (if neg then !z else z)) H) →
      wpAny (model X.prog X.w) X.A (compareOp op v u) (EP X pins σ Q) X.xe s := by
  intro pins s σ H x y v u Q I rx ry ⟨F, d, e, z, le, r1, r2, hf, q⟩
  have seq : ∀ b, fInS d e = some b → Q (.bl (if neg then !b else b)) H → wpAny (model X.prog X.w) X.A (compareOp op v u) (EP X pins σ Q) X.xe s := by
    intro b hf q
    unfold fInS at hf
    cases hk : kidsD e with
    | none => rw [hk] at hf; cases hf
    | some ys =>
      rw [hk] at hf
      dsimp only at hf
      split at hf
      · rename_i hfl
        cases hf
        obtain ⟨a, vs, rfl, rs, hq⟩ := kids_sq r2 hk le
        have e1 := in_rep r1 hfl.1 rs hfl.2
        rw [← e1] at q
        cases neg with
        | true => subst hop; exact op_notIn_seq pins s σ H _ _ v u Q I rx ry ⟨a, vs, rfl, hq, flat_rep r1 hfl.1, flats_rep rs hfl.2, q⟩
        | false => subst hop; exact op_in_seq pins s σ H _ _ v u Q I rx ry ⟨a, vs, rfl, hq, flat_rep r1 hfl.1, flats_rep rs hfl.2, q⟩
      · cases hf
  have lst : ∀ b, fInL d e = some b → Q (.bl (if neg then !b else b)) H → wpAny (model X.prog X.w) X.A (compareOp op v u) (EP X pins σ Q) X.xe s := by
    intro b hf q
    unfold fInL at hf
    split at hf
    · rename_i ys _
      split at hf
      · rename_i hh
        cases hf
        have d1 := Rep.dp dmax d x hh.1 (r1.same le)
        have d2 := Rep.dp dmax _ y hh.2.1 (r2.same le)
        have e2 : py (.lst ys) = .list (ys.map py) := by unfold py; rw [pyAll_eq]
        rw [e2] at d2
        have h4 := hh.2.2.2
        rw [e2] at h4
        cases neg with
        | true => subst hop; exact op_notInD hu pins s σ H _ _ v u Q I rx ry ⟨_, _, d1, d2, hh.2.2.1, h4, q⟩
        | false => subst hop; exact op_inD hu pins s σ H _ _ v u Q I rx ry ⟨_, _, d1, d2, hh.2.2.1, h4, q⟩
      · cases hf
    · cases hf
  have both : (match fInS d e with | some b => some b | none => fInL d e) = some z → wpAny (model X.prog X.w) X.A (compareOp op v u) (EP X pins σ Q) X.xe s := by
    intro hf
    cases hs : fInS d e with
    | some b => rw [hs] at hf; cases hf; exact seq _ hs q
    | none => rw [hs] at hf; exact lst _ hf q
  have dict : (fGetO e d).map Option.isSome = some z → wpAny (model X.prog X.w) X.A (compareOp op v u) (EP X pins σ Q) X.xe s := fun hz => by
    cases hg : fGetO e d with
    | none => rw [hg] at hz; cases hz
    | some o =>
      rw [hg] at hz
      obtain ⟨a, o', rfl, g, isd, h⟩ := get_of le r2 r1 hg
      have e1 : o'.isSome = z := by
        rcases h with ⟨e', w, rfl, rfl, _⟩ | ⟨rfl, rfl⟩ <;> (cases hz; rfl)
      rw [← e1] at q
      cases ry
      cases neg with
      | true => subst hop; exact d_notIn (by omega) I g rx fun s' I' => ⟨.bl _, H, I', rfl, q⟩
      | false => subst hop; exact d_in (by omega) I g rx fun s' I' => ⟨.bl _, H, I', rfl, q⟩
  cases hr : r2 with
  | @set a S ns h nd r =>
    unfold fInB fInZ at hf
    dsimp only at hf
    rw [toInts_map] at hf
    cases r1 with
    | int k =>
      cases hf
      rcases (Keeps.of_same le).rd _ _ h with h | ⟨o, h⟩
      · obtain ⟨t, rfl⟩ := rx
        cases ry
        have hS : s.heap.SetOf (intKind X.prog X.w) a S ns.length := I.hok a _ h
        rw [← r k] at q
        cases neg with
        | true => subst hop; exact wpAny_notInSet_of (intKind_is _ _ _ _) rfl hS ⟨.bl _, H, I.tok _, rfl, q⟩
        | false => subst hop; exact wpAny_inSet_of (intKind_is _ _ _ _) rfl hS ⟨.bl _, H, I.tok _, rfl, q⟩
      · obtain ⟨t, rfl⟩ := rx
        cases ry
        have hS : s.heap.SetOf (intKind X.prog X.w) a S ns.length := (Rd.ok (.inr ⟨o, h⟩) I.hok : ObjOk X.prog X.w H s.heap a (.set S ns.length))
        rw [← r k] at q
        cases neg with
        | true => subst hop; exact wpAny_notInSet_of (intKind_is _ _ _ _) rfl hS ⟨.bl _, H, I.tok _, rfl, q⟩
        | false => subst hop; exact wpAny_inSet_of (intKind_is _ _ _ _) rfl hS ⟨.bl _, H, I.tok _, rfl, q⟩
    | _ => cases hf
  | dK h r => exact dict hf
  | dT h r => exact dict hf
  | _ => first | exact both hf | (unfold fInB fInS fInL kidsD at hf; cases hf; done)
end
section
variable {X : Cx} {E : SK} {a b : Expr} {f g : Ef D} {pos p p2 : Pos}
theorem or_in (hu : X.A.units + 65 < cLine) : OpR X (compareOp .In) (rF2 X fIn) := by
  intro pins s σ H x y v u Q I rx ry ⟨F, d, e, z, le, r1, r2, hf, q⟩
  unfold fIn at hf
  cases hb : fInB d e with
  | none => rw [hb] at hf; cases hf
  | some t =>
    rw [hb] at hf; cases hf
    exact or_in_core false hu .In rfl pins s σ H x y v u Q I rx ry ⟨F, d, e, t, le, r1, r2, hb, q _ _ _ grow0 (.bl t)⟩
theorem or_nin (hu : X.A.units + 65 < cLine) : OpR X (compareOp .NotIn) (rF2 X fNotIn) := by
  intro pins s σ H x y v u Q I rx ry ⟨F, d, e, z, le, r1, r2, hf, q⟩
  unfold fNotIn at hf
  cases hb : fInB d e with
  | none => rw [hb] at hf; cases hf
  | some t =>
    rw [hb] at hf; cases hf
    exact or_in_core true hu .NotIn rfl pins s σ H x y v u Q I rx ry ⟨F, d, e, t, le, r1, r2, hb, q _ _ _ grow0 (.bl !t)⟩
def isNon : D → Bool
  | .non => true
  | _ => false
def fIs : D → D → Option D
  | d, .non => some (.bl (isNon d))
  | .bl x, .bl y => some (.bl (decide (x = y)))
  | _, _ => none
def fIsNot : D → D → Option D
  | d, .non => some (.bl (!isNon d))
  | .bl x, .bl y => some (.bl (!decide (x = y)))
  | _, _ => none
theorem fIs_non (d : D) : fIs d .non = some (.bl (isNon d)) := by cases d <;> rfl
theorem fIsNot_non (d : D) : fIsNot d .non = some (.bl (!isNon d)) := by cases d <;> rfl
/-! ### built-in functions -/
/-- one argument -/
def fn1 (f : D → Option D) : List D → Option D
  | [d] => f d
  | _ => none
def fn2 (f : D → D → Option D) : List D → Option D
  | [d, e] => f d e
  | _ => none
theorem rFs1 {fn : D → Option D} {xs : List V} {H : Hp} {Q : VK} (h : rFs X (fn1 fn) xs H Q) : ∃ x, xs = [x] ∧ rF1 X fn x H Q := by
  obtain ⟨F, ds, z, le, r, hf, q⟩ := h
  cases r with
  | nil => cases hf
  | cons r1 t =>
    cases t with
    | nil => exact ⟨_, rfl, F, _, z, le, r1, hf, q⟩
    | cons _ _ => cases hf
theorem rFs2 {fn : D → D → Option D} {xs : List V} {H : Hp} {Q : VK} (h : rFs X (fn2 fn) xs H Q) : ∃ x y, xs = [x, y] ∧ rF2 X fn x y H Q := by
  obtain ⟨F, ds, z, le, r, hf, q⟩ := h
  cases r with
  | nil => cases hf
  | cons r1 t =>
    cases t with
    | nil => cases hf
    | cons r2 t =>
      cases t with
      | nil => exact ⟨_, _, rfl, F, _, _, z, le, r1, r2, hf, q⟩
      | cons _ _ => cases hf
def fLen : D → Option D
  | .str x => if x.length ≤ big then some (.int x.length) else none
  | .set xs => if xs.length ≤ big then some (.int xs.length) else none
  | .dct kvs => some (.int kvs.length)
  | d => (kidsD d).map fun xs => .int xs.length
theorem RepK.length {K : PySem.W.Frag} {F : Hp} : ∀ {ds : List (D × D)} {vs : List (Key × V)}, RepK K F ds vs → ds.length = vs.length
  | _, _, .nil => rfl
  | _, _, .cons _ t => by simp [RepK.length t]
theorem RepT.length {K : PySem.W.Frag} {F : Hp} : ∀ {ds : List (D × D)} {vs : List (List Key × V)}, RepT K F ds vs → ds.length = vs.length
  | _, _, .nil => rfl
  | _, _, .cons _ t => by simp [RepT.length t]
theorem cr_len : CallR X (.builtin "len") (rFs X (fn1 fLen)) := by
  intro pins s σ H xs us Q I r h
  obtain ⟨x, rfl, F, d, z, le, r1, hf, q⟩ := rFs1 h
  have seq : (kidsD d).map (fun xs => D.int xs.length) = some z → wpAny (model X.prog X.w) X.A (call (.builtin "len") us) (EP X pins σ Q) X.xe s := fun hf => by
    cases hk : kidsD d with
    | none => rw [hk] at hf; cases hf
    | some ys =>
      rw [hk] at hf; cases hf
      obtain ⟨a, vs, rfl, rs, hq⟩ := kids_sq r1 hk le
      exact call_len_seq pins s σ H _ us Q I r ⟨a, vs, rfl, hq, by rw [← rs.length]; exact q _ _ _ grow0 (.int _)⟩
  cases hr : r1 with
  | str x =>
    unfold fLen at hf
    dsimp only at hf
    split at hf
    · rename_i hl
      cases hf
      exact call_len_str pins s σ H _ us Q I r ⟨x, rfl, big_line hl, q _ _ _ grow0 (.int _)⟩
    · cases hf
  | @set a S ns h0 nd rr =>
    unfold fLen at hf
    dsimp only at hf
    split at hf
    · rename_i hl
      cases hf
      rw [List.length_map] at hl q
      obtain ⟨u, rfl, rx⟩ := vals1 r
      cases rx
      have hS : s.heap.SetOf (intKind X.prog X.w) a S ns.length := (Rd.ok ((Keeps.of_same le).rd _ _ h0) I.hok : ObjOk X.prog X.w H s.heap a (.set S ns.length))
      obtain ⟨o, es, ep, t, ho, hx, hd, _, _, hb, hf, hn⟩ := hS
      refine call_len_set ho hx hd hf (by rw [hn]; have : ns.length ≤ big := hl; unfold big at this; omega) ⟨.int ns.length, H, I.tok _, ⟨_, by rw [hn]⟩, q _ _ _ grow0 (.int _)⟩
    · cases hf
  | dK h0 rr =>
    cases hf
    obtain ⟨u, rfl, rx⟩ := vals1 r
    cases rx
    exact d_len I ((Keeps.of_same le).rd _ _ h0) fun t s' I' => ⟨.int _, H, I', ⟨_, rfl⟩, by rw [← rr.length]; exact q _ _ _ grow0 (.int _)⟩
  | dT h rr => cases hf
  | _ => first | exact seq hf | (cases hf; done)
/-- tuple(x) -/
def fTuple : D → Option D
  | .ktp xs => some (.ktp xs)
  | d => (kidsD d).map .tup
theorem cr_tuple : CallR X (.type "tuple") (rFs X (fn1 fTuple)) := by
  intro pins s σ H xs us Q I r h
  obtain ⟨x, rfl, F, d, z, le, r1, hf, q⟩ := rFs1 h
  refine call_tuple_of pins s σ H _ us Q I r ?_
  cases r1 with
  | tup hs rs => cases hf; exact ⟨_, _, rfl, .inr ⟨sqt le hs, q _ _ _ grow0 (.tup hs rs)⟩⟩
  | ktp hs rs => cases hf; exact ⟨_, _, rfl, .inr ⟨(hs.sq le), q _ _ _ grow0 (.ktp hs rs)⟩⟩
  | lst hs rs => cases hf; exact ⟨_, _, rfl, .inl ⟨.of (le _ _ hs), fun l hl => q _ _ _ (grow1 hl) (new_tup hl le rs)⟩⟩
  | scr hs => cases hf; exact ⟨_, _, rfl, .inl ⟨(Keeps.of_same le).sqL hs, fun l hl => q _ _ _ (grow1 hl) (new_tup hl le (.of_ints _))⟩⟩
  | _ => cases hf
/-- list(x) as a value -/
def fList (d : D) : Option D := (kidsD d).map .lst
/-- the members -/
def ded : List Int → List Int
  | [] => []
  | n :: r => if n ∈ ded r then ded r else n :: ded r
theorem mem_ded {k : Int} : ∀ {ns : List Int}, k ∈ ded ns ↔ k ∈ ns
  | [] => by simp [ded]
  | n :: r => by
    unfold ded
    split
    · rename_i h
      rw [mem_ded (ns := r), List.mem_cons]
      constructor
      · exact .inr
      · rintro (rfl | h')
        · exact mem_ded.mp h
        · exact h'
    · rw [List.mem_cons, List.mem_cons, mem_ded (ns := r)]
theorem ded_nodup : ∀ (ns : List Int), (ded ns).Nodup
  | [] => List.nodup_nil
  | n :: r => by
    unfold ded
    split
    · exact ded_nodup r
    · rename_i h
      exact List.nodup_cons.mpr ⟨h, ded_nodup r⟩
def fSetOf (d : D) : Option D := match d with
  | .tup xs => match toInts xs with
    | some ns => if ns.length ≤ 1000 then some (.set ((ded ns).map .int)) else none
    | none => none
  | .ktp xs => match toInts xs with
    | some ns => if ns.length ≤ 1000 then some (.set ((ded ns).map .int)) else none
    | none => none
  | _ => none
theorem nodup_le : ∀ {as bs : List Int}, as.Nodup → (∀ k, k ∈ as → k ∈ bs) → as.length ≤ bs.length
  | [], _, _, _ => Nat.zero_le _
  | a :: r, bs, ha, h => by
    obtain ⟨h1, h2⟩ := List.nodup_cons.mp ha
    have hm : a ∈ bs := h a List.mem_cons_self
    have h3 := nodup_le (bs := bs.erase a) h2 fun k hk => (List.mem_erase_of_ne (fun e : k = a => h1 (e ▸ hk))).mpr (h k (List.mem_cons_of_mem _ hk))
    have h4 := List.length_erase_of_mem hm
    have h5 : 0 < bs.length := List.length_pos_of_mem hm
    rw [List.length_cons]
    omega
theorem nodup_len {as bs : List Int} (ha : as.Nodup) (hb : bs.Nodup) (h : ∀ k, k ∈ as ↔ k ∈ bs) : as.length = bs.length :=
  Nat.le_antisymm (nodup_le ha fun k hk => (h k).mp hk) (nodup_le hb fun k hk => (h k).mpr hk)
theorem cr_set (hc : X.calm = true) : CallR X (.type "set") (rFs X (fn1 fSetOf)) := by
  intro pins s σ H xs us Q I r h
  obtain ⟨x, rfl, F, d, z, le, r1, hf, q⟩ := rFs1 h
  unfold fSetOf at hf
  split at hf
  · rename_i xs
    split at hf
    · rename_i ns hns
      split at hf
      · rename_i hl
        cases hf
        rw [toInts_eq hns] at r1
        cases r1 with
        | tup hs rs =>
          have := rs.ints
          subst this
          obtain ⟨u, rfl, rx⟩ := vals1 r
          cases rx
          obtain ⟨its, rv, pt, hz⟩ := I.tuple (sqt le hs : SqT X.K H _ _)
          have hi : IntsAre its.toArray.toList ns := ints_of_vals rv
          refine call_set_tupI ns (I.ok.hd hc) pt hi (by unfold scanBound; omega) fun h' tk c R hcn k => ?_
          have R' := R
          obtain ⟨o, es, ep, t, ho, hx, hd, g, nd, hm, hb, hf, hn, _⟩ := R
          have e1 : c = (ded ns).length := by
            rw [← hn, ← Array.length_toList, ← List.length_map (f := keyOf)]
            refine nodup_len nd (ded_nodup ns) fun k => ?_
            rw [← hm k, decide_eq_true_eq, mem_ded]
          subst e1
          have hn0 : H s.heap.objs.size = none := I.hok.fresh (Nat.le_refl _)
          have new : ObjOk X.prog X.w (upd H s.heap.objs.size (.set (fun j => decide (j ∈ ns)) (ded ns).length)) h' s.heap.objs.size (.set (fun j => decide (j ∈ ns)) (ded ns).length) := R'.setOf
          refine ⟨.ref s.heap.objs.size, _, I.laid (t' := tk) k (Nat.le_refl _) new, rfl, q _ _ _ (grow1 hn0) ?_⟩
          exact .set (.inl upd_same) (ded_nodup ns) fun k => by simp [mem_ded]
      · cases hf
    · cases hf
  · rename_i xs
    split at hf
    · rename_i ns hns
      split at hf
      · rename_i hl
        cases hf
        rw [toInts_eq hns] at r1
        cases r1 with
        | ktp hs rs =>
          have := rs.ints
          subst this
          obtain ⟨u, rfl, rx⟩ := vals1 r
          cases rx
          obtain ⟨its, rv, pt, hz⟩ := I.tuple (hs.sq le : SqT X.K H _ _)
          have hi : IntsAre its.toArray.toList ns := ints_of_vals rv
          refine call_set_tupI ns (I.ok.hd hc) pt hi (by unfold scanBound; omega) fun h' tk c R hcn k => ?_
          have R' := R
          obtain ⟨o, es, ep, t, ho, hx, hd, g, nd, hm, hb, hf, hn, _⟩ := R
          have e1 : c = (ded ns).length := by
            rw [← hn, ← Array.length_toList, ← List.length_map (f := keyOf)]
            refine nodup_len nd (ded_nodup ns) fun k => ?_
            rw [← hm k, decide_eq_true_eq, mem_ded]
          subst e1
          have hn0 : H s.heap.objs.size = none := I.hok.fresh (Nat.le_refl _)
          have new : ObjOk X.prog X.w (upd H s.heap.objs.size (.set (fun j => decide (j ∈ ns)) (ded ns).length)) h' s.heap.objs.size (.set (fun j => decide (j ∈ ns)) (ded ns).length) := R'.setOf
          refine ⟨.ref s.heap.objs.size, _, I.laid (t' := tk) k (Nat.le_refl _) new, rfl, q _ _ _ (grow1 hn0) ?_⟩
          exact .set (.inl upd_same) (ded_nodup ns) fun k => by simp [mem_ded]
      · cases hf
    · cases hf
  · cases hf
/-- isinstance -/
def tyN : D → Option String
  | .non => some "NoneType"
  | .bl _ => some "bool"
  | .int _ => some "int"
  | .str _ => some "str"
  | .tup _ => some "tuple"
  | .ktp _ => some "tuple"
  | .lst _ => some "list"
  | .scr _ => some "list"
  | .dct _ => some "dict"
  | .dcT _ => some "dict"
  | _ => none
theorem sqT_ty {K : PySem.W.Frag} {H : Hp} {a : Addr} {xs : List V} (h : SqT K H a xs) : TyX K H (.ref a) (.type "tuple") := by
  rcases h with (h | ⟨o, h⟩) | ⟨o, its, n, h, hc, _⟩
  · exact .base (.tup h)
  · exact .fTuple h
  · exact .kTuple h hc
theorem sqL_ty {K : PySem.W.Frag} {H : Hp} {a : Addr} {xs : List V} (h : SqL K H a xs) : TyX K H (.ref a) (.type "list") := by
  rcases h with (h | ⟨o, h⟩) | ⟨o, its, n, h, hc, _⟩
  · exact .base (.lst h)
  · exact .base (.frz h)
  · exact .kList h hc
theorem ty_rep {K : PySem.W.Frag} {F H : Hp} {d : D} {v : V} {T : String} (r : Rep K F d v) (le : Same F H) (h : tyN d = some T) (hT : ∀ kvs, d ≠ .dcT kvs) : TyX K H v (.type T) := by
  cases r with
  | non => cases h; exact .base .non
  | bl b => cases h; exact .base (.bl b)
  | int i => cases h; exact .base (.int i)
  | str x => cases h; exact .base (.str x)
  | tup hs rs => cases h; exact sqT_ty (sqt le hs)
  | ktp hs rs => cases h; exact sqT_ty (hs.sq le)
  | lst hs rs => cases h; exact .base (.lst (le _ _ hs))
  | scr hs => cases h; exact sqL_ty ((Keeps.of_same le).sqL hs)
  | dK hs rs =>
    cases h
    rcases (Keeps.of_same le).rd _ _ hs with h | ⟨o, h⟩
    · exact .base (.dK h)
    · exact .fDict h
  | dT hs rs => exact absurd rfl (hT _)
  | _ => cases h
def notT : D → Bool
  | .dcT _ => false
  | _ => true
def fIsi (d c : D) : Option D := match c with
  | .ty n => match tyN d with
    | some T => if notT d = true then (kitB T n).map .bl else none
    | none => none
  | _ => none
theorem notT_ne {d : D} (h : notT d = true) : ∀ kvs, d ≠ .dcT kvs := by rintro kvs rfl; cases h
theorem cr_isi : CallR X (.builtin "isinstance") (rFs X (fn2 fIsi)) := by
  intro pins s σ H xs us Q I r h
  obtain ⟨x, y, rfl, F, d, c, z, le, r1, r2, hf, q⟩ := rFs2 h
  unfold fIsi at hf
  split at hf
  · rename_i n
    split at hf
    · rename_i T hT
      split at hf
      · rename_i hn
        cases r2
        cases hb : kitB T n with
        | none => rw [hb] at hf; cases hf
        | some b =>
          rw [hb] at hf; cases hf
          exact call_isi pins s σ H _ us Q I r ⟨_, _, _, _, b, rfl, .ty n, ty_rep r1 le hT (notT_ne hn), kit_ty hb, q _ _ _ grow0 (.bl b)⟩
      · cases hf
    · cases hf
  · cases hf
/-- isinstance(x, (A, B)) -/
def kitAnyB (T : String) : List String → Option Bool
  | [] => some false
  | n :: r => match kitB T n with
    | some true => some true
    | some false => kitAnyB T r
    | none => none
theorem kitAny_of {K : PySem.W.Frag} {T : String} : ∀ {ns : List String} {b : Bool}, kitAnyB T ns = some b → PySem.W.kitAny K (.type T) (ns.map Value.type) = some b
  | [], b, h => by cases h; rfl
  | n :: r, b, h => by
    unfold kitAnyB at h
    rw [List.map_cons]
    cases hb : kitB T n with
    | none => rw [hb] at h; cases h
    | some t =>
      rw [hb] at h
      cases t with
      | true => cases h; exact kitAny_cons (r := true) (kit_ty hb) (fun z => by cases z) fun _ => rfl
      | false => exact kitAny_cons (kit_ty hb) (fun _ => kitAny_of h) fun z => by cases z
def tyL : List D → Option (List String)
  | [] => some []
  | .ty n :: r => (tyL r).map (n :: ·)
  | _ => none
theorem tyL_rep {K : PySem.W.Frag} {F : Hp} : ∀ {ds : List D} {vs : List V} {ns : List String}, Reps K F ds vs → tyL ds = some ns → Paired ClsV vs (ns.map Value.type)
  | _, _, ns, .nil, h => by cases h; exact .nil
  | _, _, ns, .cons (d := d) r t, h => by
    cases r <;> first | (cases h; done) | skip
    rename_i ds vs n
    have h : (tyL ds).map (n :: ·) = some ns := h
    cases hr : tyL ds with
    | none => rw [hr] at h; cases h
    | some ms => rw [hr] at h; cases h; exact .cons (.ty n) (tyL_rep t hr)
def fIsiT (d c : D) : Option D := match c with
  | .tup cs => match tyN d, tyL cs with
    | some T, some ns => if notT d = true then (kitAnyB T ns).map .bl else none
    | _, _ => none
  | _ => none
theorem cr_isiT : CallR X (.builtin "isinstance") (rFs X (fn2 fIsiT)) := by
  intro pins s σ H xs us Q I r h
  obtain ⟨x, y, rfl, F, d, c, z, le, r1, r2, hf, q⟩ := rFs2 h
  unfold fIsiT at hf
  split at hf
  · rename_i cs
    split at hf
    · rename_i T ns hT hns
      split at hf
      · rename_i hn
        cases r2 with
        | tup hs rs =>
          cases hb : kitAnyB T ns with
          | none => rw [hb] at hf; cases hf
          | some b =>
            rw [hb] at hf; cases hf
            exact call_isiT pins s σ H _ us Q I r ⟨_, _, _, _, _, b, rfl, le _ _ hs, tyL_rep rs hns, ty_rep r1 le hT (notT_ne hn), kitAny_of hb, q _ _ _ grow0 (.bl b)⟩
      · cases hf
    · cases hf
  · cases hf
/-- int, bool, abs, min, max, str -/
def fInt : D → Option D
  | .int i => some (.int i)
  | .bl b => some (.int (if b = true then 1 else 0))
  | _ => none
theorem cr_int : CallR X (.type "int") (rFs X (fn1 fInt)) := by
  intro pins s σ H xs us Q I r h
  obtain ⟨x, rfl, F, d, z, le, r1, hf, q⟩ := rFs1 h
  cases r1 with
  | int i => cases hf; exact call_int1 pins s σ H _ us Q I r (.inl ⟨i, rfl, q _ _ _ grow0 (.int i)⟩)
  | bl b => cases hf; exact call_int1 pins s σ H _ us Q I r (.inr ⟨b, rfl, q _ _ _ grow0 (.int _)⟩)
  | _ => cases hf
def fAbs : D → Option D
  | .int i => some (.int (if i < 0 then -i else i))
  | _ => none
def fMin2 : D → D → Option D
  | .int i, .int j => some (.int (if j < i then j else i))
  | _, _ => none
def toBls : List D → Option (List Bool)
  | [] => some []
  | .bl b :: r => (toBls r).map (b :: ·)
  | _ :: _ => none
theorem toBls_eq : ∀ {xs : List D} {bs : List Bool}, toBls xs = some bs → xs = bs.map D.bl
  | [], bs, h => by cases h; rfl
  | d :: r, bs, h => by
    cases d <;> try (cases h; done)
    rename_i b
    have h : (toBls r).map (b :: ·) = some bs := h
    cases hr : toBls r with
    | none => rw [hr] at h; cases h
    | some ms => rw [hr] at h; cases h; rw [toBls_eq hr]; rfl
theorem Reps.bls {K : PySem.W.Frag} {F : Hp} : ∀ {bs : List Bool} {vs : List V}, Reps K F (bs.map D.bl) vs → vs = bs.map V.bl
  | [], _, .nil => rfl
  | _ :: _, _, .cons (.bl _) t => by rw [List.map_cons, Reps.bls t]
def fAll : D → Option D
  | .lst xs => (toBls xs).map fun bs => .bl (bs.all id)
  | _ => none
def fAny : D → Option D
  | .lst xs => (toBls xs).map fun bs => .bl (bs.any id)
  | _ => none
theorem cr_allD (hc : X.calm = true) : CallR X (.builtin "all") (rFs X (fn1 fAll)) := by
  intro pins s σ H xs us Q I r h
  obtain ⟨x, rfl, F, d, z, le, r1, hf, q⟩ := rFs1 h
  cases r1 <;> first | (cases hf; done) | skip
  rename_i a vs ds hs rs
  have hf : (toBls ds).map (fun bs => D.bl (bs.all id)) = some z := hf
  cases hb : toBls ds with
  | none => rw [hb] at hf; cases hf
  | some bs =>
    rw [hb] at hf; cases hf
    have := toBls_eq hb
    subst this
    have := rs.bls
    subst this
    exact cr_all hc pins s σ H _ us Q I r ⟨_, bs, rfl, .of (le _ _ hs), q _ _ _ grow0 (.bl _)⟩
end

/-! ### list(range(..)), tuple(range(..)) -/
def PRn (X : Cx) (e : Expr) (t : L2.St → Hp → (List Int → Hp → Prop) → Prop) : Prop :=
  ∀ (pins : List (Addr × Obj)) (s : Shared) (σ : L2.St) (H : Hp) (Q : List Int → Hp → Prop), Inv X pins σ H s → t σ H Q →
    wpAny (model X.prog X.w) X.A (eval e X.env) (fun x s' => ∃ (r : Addr) (a b c : Int) (n : Nat) (t u v : Tok) (H' : Hp), x = .ref r ∧ IsRange s'.heap r a b c t u v ∧ Builtin.Range.small a b c = true ∧ Builtin.Range.rangeSize a b c = n ∧ n ≤ big ∧ Inv X pins σ H' s' ∧
      Q ((List.range n).map fun i => a + (i : Nat) * c) H') X.xe s
def tDR (K : PySem.W.Frag) (E : SK) (f : Ef (List Int)) : L2.St → Hp → (List Int → Hp → Prop) → Prop := fun σ H Q => ∃ bs ex F e, StR K bs ex σ H F e ∧ Post K E bs ex σ H F (f e) fun b _ H' _ => Q b H'
structure DR (X : Cx) (E : SK) (x : Expr) (f : Ef (List Int)) : Prop where
  pr : PRn X x (tDR X.K E f)
def rgI (a : Int) (n : Nat) (c : Int) : List Int := (List.range n).map fun i => a + (i : Nat) * c
def eRg1 (f : Ef D) : Ef (List Int) := bnd f fun d => lift (match d with
  | .int n => if smallI n = true ∧ n.toNat ≤ big then some (rgI 0 n.toNat 1) else none
  | _ => none)
def eRg2 (f g : Ef D) : Ef (List Int) := bnd f fun d => bnd g fun e => lift (match d, e with
  | .int a, .int b => if smallI a = true ∧ smallI b = true ∧ (b - a).toNat ≤ big then some (rgI a (b - a).toNat 1) else none
  | _, _ => none)
def eRgD (f g : Ef D) : Ef (List Int) := bnd f fun d => bnd g fun e => lift (match d, e with
  | .int a, .int b => if smallI a = true ∧ smallI b = true ∧ (a - b).toNat ≤ big then some (rgI a (a - b).toNat (-1)) else none
  | _, _ => none)
section
variable {X : Cx} {E : SK} {a b c : Expr} {f g : Ef D} {h : Ef (List Int)} {pos p p2 : Pos}
theorem dr_1 (ha : DE X E a f) (hm : X.mg "range" = none) (hg : Gl X "range" := by rfl) (na : starEach [a] X.env = (false, eval a X.env) :: starEach [] X.env := by rfl) : DR X E (.Call (.Name "range" p) [a] [] pos) (eRg1 f) := by
  refine ⟨fun pins s σ H Q I ⟨bs, ex, F, e, s0, p0⟩ => ?_⟩
  have ht : tD X.K E f σ H (fun v H1 => ∃ n : Int, v = .int n ∧ smallI n = true ∧ n.toNat ≤ big ∧ Q (rgI 0 n.toNat 1) H1) := by
    refine ⟨bs, ex, F, e, s0, p0.bnd.imp fun d e1 H1 F1 _ s1 st1 p1 v r => ?_⟩
    obtain ⟨ns, hd, p2⟩ := p1.lift
    cases r with
    | int i =>
      dsimp only at hd
      split at hd
      · rename_i hl
        cases hd
        exact ⟨i, rfl, hl.1, hl.2, p2 H1 F1 s1 (Step.refl _ _ _)⟩
      · cases hd
    | _ => cases hd
  refine Call_ (ld_blt I hg hm boot_range (PyProof.Rows.callWith_type1 (one_arg ha.pe I ht (fun v s2 x H2 I2 r q => ?_) na) na))
  obtain ⟨n, rfl, h1, h2, q⟩ := q
  obtain ⟨t, rfl⟩ := r
  obtain ⟨b1, b2⟩ := smallI_62 h1
  refine call_range_1 ⟨_, 0, n, 1, n.toNat, _, _, _, H2, rfl, IsRange.new _ _ _ _ _ _ _, small_one (by decide) (by decide) b1 b2, by rw [rangeSize_nat]; simp, h2, I2.kept fun b u e => Heap.get?_push_of_some _ e, q⟩
theorem dr_2 (ha : DE X E a f) (hb : DE X E b g) (hm : X.mg "range" = none) (hg : Gl X "range" := by rfl) (na : starEach [a, b] X.env = (false, eval a X.env) :: starEach [b] X.env := by rfl)
    (nb : starEach [b] X.env = (false, eval b X.env) :: starEach [] X.env := by rfl) (hp : (backTo pos (starEach [b] X.env)).any (·.1) = false := by rfl) : DR X E (.Call (.Name "range" p) [a, b] [] pos) (eRg2 f g) := by
  refine ⟨fun pins s σ H Q I ⟨bs, ex, F, e, s0, p0⟩ => ?_⟩
  have ht : tD X.K E f σ H (fun v H1 => tD X.K E g σ H1 fun w H2 => ∃ i j : Int, v = .int i ∧ w = .int j ∧ smallI i = true ∧ smallI j = true ∧ (j - i).toNat ≤ big ∧ Q (rgI i (j - i).toNat 1) H2) := by
    refine ⟨bs, ex, F, e, s0, p0.bnd.imp fun d e1 H1 F1 _ s1 st1 p1 v r => ⟨bs, ex, F1, e1, s1, p1.bnd.imp fun d2 e2 H2 F2 _ s2 st2 p2 w r2 => ?_⟩⟩
    obtain ⟨ns, hd, p3⟩ := p2.lift
    cases r with
    | int i =>
      cases r2 with
      | int j =>
        dsimp only at hd
        split at hd
        · rename_i hl
          cases hd
          exact ⟨i, j, rfl, rfl, hl.1, hl.2.1, hl.2.2, p3 H2 F2 s2 (Step.refl _ _ _)⟩
        · cases hd
      | _ => cases hd
    | _ => cases hd
  refine Call_ (ld_blt I hg hm boot_range (PyProof.Rows.callWith_type1 (args_cons (thn (ha.pe.run pins s σ H _ I ht) fun v s1 ⟨x, H1, I1, r1, q1⟩ => one_arg hb.pe I1 q1 (fun u s2 y H2 I2 r2 q => ?_) nb) na) na hp))
  obtain ⟨i, j, rfl, rfl, h1, h2, h3, q⟩ := q
  obtain ⟨t, rfl⟩ := r1
  obtain ⟨t', rfl⟩ := r2
  obtain ⟨b1, b2⟩ := smallI_62 h1
  obtain ⟨b3, b4⟩ := smallI_62 h2
  exact call_range_2 ⟨_, i, j, 1, _, _, _, _, H2, rfl, IsRange.new _ _ _ _ _ _ _, small_one b1 b2 b3 b4, rangeSize_nat i j, h3, I2.kept fun b u e => Heap.get?_push_of_some _ e, q⟩
theorem dr_D {tc : TE} (ha : DE X E a f) (hb : DE X E b g) (hc : PE X c tc) (hcq : ∀ σ H Q, Q (.int (-1)) H → tc σ H Q) (hm : X.mg "range" = none) (hg : Gl X "range" := by rfl)
    (hs : starEach (a :: [b, c]) X.env = (false, eval a X.env) :: starEach [b, c] X.env := by rfl) (hs2 : starEach (b :: [c]) X.env = (false, eval b X.env) :: starEach [c] X.env := by rfl) (hs3 : starEach (c :: []) X.env = (false, eval c X.env) :: starEach [] X.env := by rfl)
    (hp : (backTo pos (starEach [b, c] X.env)).any (·.1) = false := by rfl) : DR X E (.Call (.Name "range" p) [a, b, c] [] pos) (eRgD f g) := by
  refine ⟨fun pins s σ H Q I ⟨bs, ex, F, e, s0, p0⟩ => ?_⟩
  have hA : PA X [a, b, c] _ := pa_cons ha.pe (pa_cons hb.pe (pa_cons hc pa_nil hs3) hs2) hs
  refine Call_ (ld_blt I hg hm boot_range (PyProof.Rows.callWith_type1 (thn (hA.run pos pins s σ H (fun vs H2 => ∃ i j : Int, vs = [.int i, .int j, .int (-1)] ∧ smallI i = true ∧ smallI j = true ∧ (i - j).toNat ≤ big ∧ Q (rgI i (i - j).toNat (-1)) H2) I ?_) fun us s1 ⟨vs, H1, I1, r1, q1⟩ => ?_) hs hp))
  · refine ⟨bs, ex, F, e, s0, p0.bnd.imp fun d e1 H1 F1 _ s1 st1 p1 v r => ⟨bs, ex, F1, e1, s1, p1.bnd.imp fun d2 e2 H2 F2 _ s2 st2 p2 w r2 => hcq _ _ _ ?_⟩⟩
    obtain ⟨ns, hd, p3⟩ := p2.lift
    cases r with
    | int i =>
      cases r2 with
      | int j =>
        dsimp only at hd
        split at hd
        · rename_i hl
          cases hd
          exact ⟨i, j, rfl, hl.1, hl.2.1, hl.2.2, p3 H2 F2 s2 (Step.refl _ _ _)⟩
        · cases hd
      | _ => cases hd
    | _ => cases hd
  · obtain ⟨i, j, rfl, h1, h2, h3, q⟩ := q1
    cases r1 with
    | cons r rr =>
      cases rr with
      | cons r' rr =>
        cases rr with
        | cons r'' rr =>
          cases rr
          obtain ⟨t, rfl⟩ := r
          obtain ⟨t', rfl⟩ := r'
          obtain ⟨t'', rfl⟩ := r''
          obtain ⟨b1, b2⟩ := smallI_62 h1
          obtain ⟨b3, b4⟩ := smallI_62 h2
          obtain ⟨c0, c1, c2, c3⟩ := RgC.neg b1 b2 b3 b4
          exact call_range_3 c0 ⟨_, i, j, -1, _, _, _, _, H1, rfl, IsRange.new _ _ _ _ _ _ _, c2, c3, h3, I1.kept fun b u e => Heap.get?_push_of_some _ e, q⟩ (.inl (PyProof.noPylong_small c1))
theorem vals_rgI {a c : Int} {n : Nat} {acc : Array Value} (h : ItemsOf (fun i v => ∃ t, v = .int (a + i * c) t) acc n) : Vals ((rgI a n c).map V.int) acc.toList := by
  have e : acc.toList.length = n := by rw [Array.length_toList]; exact h.1
  unfold rgI
  rw [← e, List.map_map]
  refine vals_of_get acc.toList _ fun j u hj => ?_
  obtain ⟨t, rfl⟩ := h.2 j u (by rw [← hj, Array.getElem?_toList])
  exact ⟨t, rfl⟩
theorem rgI_length {a c : Int} {n : Nat} : (rgI a n c).length = n := by simp [rgI]
/-- list(range(..)): a new list of one's own -/
def eLstR (h : Ef (List Int)) : Ef D := bnd h fun ns => rtn (.lst (ns.map .int))
def eTupR (h : Ef (List Int)) : Ef D := bnd h fun ns => rtn (.tup (ns.map .int))
theorem dn_listR (C : DC X E) (he : DR X E a h) (hm : X.mg "list" = none) (hg : Gl X "list" := by rfl) (na : starEach [a] X.env = (false, eval a X.env) :: starEach [] X.env := by rfl) : DN X E (.Call (.Name "list" p) [a] [] pos) (eLstR h) := by
  refine ⟨⟨fun pins s σ H Q I ⟨bs, ex, F, e, s0, p0⟩ => ?_⟩⟩
  have ht : tDR X.K E h σ H (fun ns H1 => ∀ q, H1 q = none → Q (.ref q) (upd H1 q (.lst (ns.map V.int)))) := by
    refine ⟨bs, ex, F, e, s0, p0.bnd.imp fun ns e1 H1 F1 _ s1 st1 p1 q hq => ?_⟩
    obtain ⟨s2, st2⟩ := s1.alloc (o := .lst (ns.map V.int)) hq trivial
    exact p1 q _ _ s2 st2 (s1.nex hq) (.lst upd_same (.of_ints ns))
  refine Call_ (ld_blt I hg hm boot_list (PyProof.Rows.callWith_type1 (args_cons (thn (he.pr pins s σ H _ I ht) fun x s1 ⟨r, a, b, c, n, t, u, v, H1, ex, hr, h1, h2, h3, I1, q⟩ => args_nil ?_) na) na))
  subst ex
  have h3' : n ≤ 16000000 := h3
  refine call_list_range (n := n) (I1.ok.hd C.calm) hr h1 h2 (by omega) fun h' tk acc c' hk e' hi => ?_
  refine ⟨.ref s1.heap.objs.size, upd H1 s1.heap.objs.size (.lst ((rgI a n c).map V.int)), I1.laid hk (Nat.le_refl _) (show ObjOk X.prog X.w _ _ _ (.lst ((rgI a n c).map V.int)) from ⟨?_, acc.toList, c', vals_rgI hi, ?_⟩), rfl, q _ (I1.hok.fresh (Nat.le_refl _))⟩
  · rw [List.length_map, rgI_length, sizeLine_eq]; omega
  · rw [Array.toArray_toList]; exact e'
theorem de_tupR (C : DC X E) (he : DR X E a h) (hm : X.mg "tuple" = none) (hg : Gl X "tuple" := by rfl) (na : starEach [a] X.env = (false, eval a X.env) :: starEach [] X.env := by rfl) : DE X E (.Call (.Name "tuple" p) [a] [] pos) (eTupR h) := by
  refine ⟨⟨fun pins s σ H Q I ⟨bs, ex, F, e, s0, p0⟩ => ?_⟩⟩
  have ht : tDR X.K E h σ H (fun ns H1 => ∀ q, H1 q = none → Q (.ref q) (upd H1 q (.tup (ns.map V.int)))) := by
    refine ⟨bs, ex, F, e, s0, p0.bnd.imp fun ns e1 H1 F1 _ s1 st1 p1 q hq => ?_⟩
    obtain ⟨s2, st2⟩ := s1.grow (grow1 (o := .tup (ns.map V.int)) hq)
    exact p1 _ _ s2 st2 _ (new_tup hq s1.le (.of_ints ns))
  refine Call_ (ld_blt I hg hm boot_tuple (PyProof.Rows.callWith_type1 (args_cons (thn (he.pr pins s σ H _ I ht) fun x s1 ⟨r, a, b, c, n, t, u, v, H1, ex, hr, h1, h2, h3, I1, q⟩ => args_nil ?_) na) na))
  subst ex
  have h3' : n ≤ 16000000 := h3
  refine call_tuple_range (n := n) (I1.ok.hd C.calm) hr h1 h2 (by omega) fun h' tk acc hk hi => ?_
  have I2 : Inv X pins σ H1 { s1 with heap := h', toks := tk } := I1.kept hk
  refine ⟨.ref h'.objs.size, upd H1 h'.objs.size (.tup ((rgI a n c).map V.int)), I2.laid (t' := tk) (fun c o e => Heap.get?_push_of_some _ e) (Nat.le_refl _) (show ObjOk X.prog X.w _ _ _ (.tup ((rgI a n c).map V.int)) from ⟨?_, acc.toList, vals_rgI hi, ?_⟩), rfl, q _ (I2.hok.fresh (Nat.le_refl _))⟩
  · rw [List.length_map, rgI_length, sizeLine_eq]; omega
  · rw [Array.toArray_toList]; exact IsTup.new _ _
/-- list(x): a new list of one's own -/
def eListN (f : Ef D) : Ef D := bnd f fun d => lift (fList d)
end

/-! ### the object of a slot -/
section
variable {K : PySem.W.Frag} {E : SK} {bs ex : List Addr} {σ : L2.St} {H F : Hp} {e : En}
theorem StR.obj (s : StR K bs ex σ H F e) {i : Nat} {d : D} (h : objS i e = some d) : ∃ a, σ[i]? = some (some (.ref a)) ∧ OwnR K F H d a ∧ F a = none ∧
    ∀ o d', OwnR K F (upd H a o) d' a → StR K bs ex σ (upd H a o) F (putS i d' e) ∧ Step ex H F (upd H a o) F := by
  unfold objS at h
  split at h
  · rename_i d0 h0
    cases h
    obtain ⟨a, h1, h2⟩ := s.own i _ h0
    refine ⟨a, h1, h2, s.hid a (.inl ⟨i, _, h0, h1⟩), fun o d' r => ?_⟩
    unfold putS
    rw [h0]
    exact s.writeOwn h0 h1 r
  · rename_i j h0
    obtain ⟨a, h1, h2⟩ := s.bor i j h0
    obtain ⟨a', h3, h4⟩ := s.br j _ h
    rw [h1] at h3; cases h3
    refine ⟨a, h2, h4, s.hid a (.inr (.inl (List.mem_of_getElem? h1))), fun o d' r => ?_⟩
    unfold putS
    rw [h0]
    exact s.writeBor h1 r
  · cases h
/-- what a slot's object or value is -/
def seeS (i : Nat) (e : En) : Option D := match e.s[i]? with
  | some (.val d) => some d
  | some (.own d) => some d
  | some (.bor j) => e.b[j]?
  | _ => none
theorem StR.see (s : StR K bs ex σ H F e) {i : Nat} {d : D} (h : seeS i e = some d) : ∃ v, σ[i]? = some (some v) ∧ (Rep K F d v ∨ ∃ a, v = .ref a ∧ F a = none ∧ OwnR K F H d a) := by
  unfold seeS at h
  split at h
  · rename_i d0 h0
    cases h
    obtain ⟨v, h1, h2⟩ := s.val i _ h0
    exact ⟨v, h1, .inl h2⟩
  · rename_i d0 h0
    cases h
    obtain ⟨a, h1, h2⟩ := s.own i _ h0
    exact ⟨_, h1, .inr ⟨a, rfl, s.hid a (.inl ⟨i, _, h0, h1⟩), h2⟩⟩
  · rename_i j h0
    obtain ⟨a, h1, h2⟩ := s.bor i j h0
    obtain ⟨a', h3, h4⟩ := s.br j _ h
    rw [h1] at h3; cases h3
    exact ⟨_, h2, .inr ⟨a, rfl, s.hid a (.inr (.inl (List.mem_of_getElem? h1))), h4⟩⟩
  · cases h
/-- slot i holds something -/
def chkV (i : Nat) : Ef Unit := fun e => match seeS i e with
  | some _ => .ok () e
  | none => .stuck
/-- slot i holds an object of that kind: 1 list, 2 dict, 3 set -/
def kindD : D → Nat
  | .lst _ => 1
  | .dct _ => 2
  | .dcT _ => 2
  | .set _ => 3
  | _ => 0
def chkK (i k : Nat) : Ef Unit := fun e => match objS i e with
  | some d => if kindD d = k then .ok () e else .stuck
  | none => .stuck
def mutF (i : Nat) (fn : D → List D → Option (D × D)) (ds : List D) : Ef D := fun e => match objS i e with
  | some d => (match fn d ds with
    | some (d', z) => .ok z (putS i d' e)
    | none => .stuck)
  | none => .stuck
def eMut (i k : Nat) (fn : D → List D → Option (D × D)) (h : Ef (List D)) : Ef D := bnd (chkK i k) fun _ => bnd h (mutF i fn)
def eMut0 (i k : Nat) (fn : D → List D → Option (D × D)) : Ef D := bnd (chkK i k) fun _ => mutF i fn []
def tyK (k : Nat) : String := if k = 1 then "list" else if k = 2 then "dict" else "set"
theorem chkK_post {i k : Nat} {P : Unit → En → Hp → Hp → Prop} (s : StR K bs ex σ H F e) (p : Post K E bs ex σ H F (chkK i k e) P) : ∃ a d, σ[i]? = some (some (.ref a)) ∧ objS i e = some d ∧ kindD d = k ∧ OwnR K F H d a ∧ P () e H F := by
  unfold chkK at p
  cases ho : objS i e with
  | none => rw [ho] at p; exact p.elim
  | some d =>
    rw [ho] at p
    dsimp only at p
    split at p
    · rename_i hk
      obtain ⟨a, h1, h2, _⟩ := s.obj ho
      exact ⟨a, d, h1, rfl, hk, h2, p H F s (Step.refl _ _ _)⟩
    · exact p.elim
theorem own_ty {d : D} {a : Addr} (o : OwnR K F H d a) (hk : kindD d ≠ 0) : tyV K (tyK (kindD d)) (.ref a) H := by
  cases o with
  | lst h r => exact .inl ⟨rfl, _, .of h⟩
  | dK h r => exact .inr (.inr (.inl ⟨rfl, .inl ⟨_, h⟩⟩))
  | dT h r => exact .inr (.inr (.inl ⟨rfl, .inr ⟨_, h⟩⟩))
  | set h nd r => exact .inr (.inr (.inr ⟨rfl, _, _, h⟩))
  | ins h r => exact absurd rfl hk
end
/-- a method that writes its object -/
def rMu (X : Cx) (fn : D → List D → Option (D × D)) : V → List V → Hp → VK → Prop := fun x xs H Q => ∃ a F d ds d' z, x = .ref a ∧ F a = none ∧ Same F H ∧ OwnR X.K F H d a ∧ Reps X.K F ds xs ∧ fn d ds = some (d', z) ∧
  ∀ v o, OwnR X.K F (upd H a o) d' a → Rep X.K F z v → Q v (upd H a o)
section
variable {X : Cx} {E : SK} {es : List Expr} {b : Expr} {h : Ef (List D)} {f g : Ef D} {fn : D → List D → Option (D × D)} {pos py apos cpos : Pos} {id : String} {name y : Str} {k : Nat}
theorem mut_core {i : Nat} {ds : List D} {vs : List V} {a : Addr} {bs ex : List Addr} {σ : L2.St} {H F : Hp} {e : En} {Q : VK} (s : StR X.K bs ex σ H F e) (p : Post X.K E bs ex σ H F (mutF i fn ds e) fun d _ H' F' => ∀ v, Rep X.K F' d v → Q v H') (r : Reps X.K F ds vs)
    (hu : σ[i]? = some (some (.ref a))) : rMu X fn (.ref a) vs H Q := by
  unfold mutF at p
  cases ho : objS i e with
  | none => rw [ho] at p; exact p.elim
  | some d =>
    rw [ho] at p
    dsimp only at p
    cases hf : fn d ds with
    | none => rw [hf] at p; exact p.elim
    | some q =>
      obtain ⟨d', z⟩ := q
      rw [hf] at p
      obtain ⟨a', h1, h2, h3, h4⟩ := s.obj ho
      rw [hu] at h1; cases h1
      refine ⟨a, F, d, ds, d', z, rfl, h3, s.le, h2, r, hf, fun v o ow rz => ?_⟩
      obtain ⟨s', st'⟩ := h4 o d' ow
      exact p _ _ s' st' v rz
theorem de_mut0 (hm : MtR X id (rMu X fn)) (pa : PlainAttrs (tyK k)) (slot : PySem.Slot (tyK k) name id) (hty : typeOf (.builtin id) = pure (.type "method_descriptor")) (i : Nat) (hN : X.N[i]? = some y := by rfl)
    (hv : Vis X.env.scope y := by first | exact Or.inl rfl | exact Or.inr (Or.inl rfl) | exact Or.inr (Or.inr rfl)) (hdy : (y == ("__debug__" : Str)) = false := by decide) (hcd : (y == ("__classdict__" : Str)) = false := by decide)
    (hbase : attributeBase (.Name y py) name X.env (eval (.Name y py) X.env) = eval (.Name y py) X.env := by rfl) (hline : (apos.endLine == cpos.line) = true := by rfl) (hk0 : k ≠ 0 := by decide) : DE X E (.Call (.Attribute (.Name y py) name apos) [] [] cpos) (eMut0 i k fn) := by
  refine ⟨PE.imp (pe_bm0 pa slot hty hm (pv i hN hv hdy hcd) hbase hline) ?_⟩
  rintro σ H Q ⟨bs, ex, F, e, s, p⟩
  obtain ⟨a, d, h1, h2, rfl, h4, p1⟩ := chkK_post s p.bnd
  exact ⟨_, h1, own_ty h4 hk0, mut_core s p1 .nil h1⟩
theorem de_mut (hm : MtR X id (rMu X fn)) (pa : PlainAttrs (tyK k)) (slot : PySem.Slot (tyK k) name id) (hty : typeOf (.builtin id) = pure (.type "method_descriptor")) (i : Nat) (ha : DA X E (b :: es) h) (hN : X.N[i]? = some y := by rfl)
    (hv : Vis X.env.scope y := by first | exact Or.inl rfl | exact Or.inr (Or.inl rfl) | exact Or.inr (Or.inr rfl)) (hdy : (y == ("__debug__" : Str)) = false := by decide) (hcd : (y == ("__classdict__" : Str)) = false := by decide)
    (hbase : attributeBase (.Name y py) name X.env (eval (.Name y py) X.env) = eval (.Name y py) X.env := by rfl)
    (hfew : ((backTo cpos (starEach (b :: es) X.env)).all (fun x => !x.1) && (backToKw cpos (keywordEach [] X.env)).all (fun x => x.1.isSome)
      && decide ((b :: es).length + ([] : List Keyword).length + (if ([] : List Keyword).isEmpty then 0 else 1) < 30)) = true := by rfl)
    (hline : (apos.endLine == cpos.line) = true := by rfl) (hs : starEach (b :: es) X.env = (false, eval b X.env) :: starEach es X.env := by rfl) (hplain : (backTo cpos (starEach es X.env)).any (·.1) = false := by rfl) (hk0 : k ≠ 0 := by decide) :
    DE X E (.Call (.Attribute (.Name y py) name apos) (b :: es) [] cpos) (eMut i k fn h) := by
  refine ⟨PE.imp (pe_bm pa slot hty hm (pv i hN hv hdy hcd) ha.pa hbase hfew hline hs hplain) ?_⟩
  rintro σ H Q ⟨bs, ex, F, e, s, p⟩
  obtain ⟨a, d, h1, h2, rfl, h4, p1⟩ := chkK_post s p.bnd
  refine ⟨_, h1, own_ty h4 hk0, bs, ex, F, e, s, p1.bnd.imp fun ds e1 H1 F1 _ s1 st1 p2 vs r => mut_core s1 p2 r h1⟩

/-! ### the methods -/
def fAppend : D → List D → Option (D × D)
  | .lst xs, [d] => if xs.length < big then some (.lst (xs ++ [d]), .non) else none
  | _, _ => none
theorem mu_append : MtR X "list.append" (rMu X fAppend) := by
  intro pins s σ H x xs v us Q I rx rs ⟨a, F, d, ds, d', z, ex, hF, le, o, r, hf, q⟩
  subst ex
  cases o <;> first | (cases hf; done) | skip
  rename_i vs es rl hl
  cases r with
  | nil => cases hf
  | cons r1 t =>
    cases t with
    | cons _ _ => cases hf
    | nil =>
      unfold fAppend at hf
      dsimp only at hf
      split at hf
      · rename_i hb
        cases hf
        refine mt_append pins s σ H _ _ v us Q I rx rs ⟨a, _, _, rfl, rfl, hl, big_line' (by rw [← rl.length]; exact Nat.le_of_lt hb), q _ _ (.lst upd_same (rl.append (.cons r1 .nil))) .non⟩
      · cases hf
def fPop0 : D → List D → Option (D × D)
  | .lst xs, [] => xs[xs.length - 1]?.map fun z => (.lst xs.dropLast, z)
  | _, _ => none
theorem mu_pop0 : MtR X "list.pop" (rMu X fPop0) := by
  intro pins s σ H x xs v us Q I rx rs ⟨a, F, d, ds, d', z, ex, hF, le, o, r, hf, q⟩
  subst ex
  cases o <;> first | (cases hf; done) | skip
  rename_i vs es rl hl
  cases r with
  | cons _ _ => cases hf
  | nil =>
    unfold fPop0 at hf
    dsimp only at hf
    cases hx : es[es.length - 1]? with
    | none => rw [hx] at hf; cases hf
    | some e0 =>
      rw [hx] at hf; cases hf
      obtain ⟨w, h1, h2⟩ := rl.get hx
      refine mt_pop pins s σ H _ _ v us Q I rx rs ⟨a, _, w, rfl, rfl, hl, by rw [← rl.length]; exact h1, q _ _ (.lst upd_same rl.dropLast) h2⟩
def fExtend : D → List D → Option (D × D)
  | .lst xs, [.lst ys] => if xs.length + ys.length ≤ big then some (.lst (xs ++ ys), .non) else none
  | _, _ => none
theorem mu_extend : MtR X "list.extend" (rMu X fExtend) := by
  intro pins s σ H x xs v us Q I rx rs ⟨a, F, d, ds, d', z, ex, hF, le, o, r, hf, q⟩
  subst ex
  cases o <;> first | (cases hf; done) | skip
  rename_i vs es rl hl
  cases r with
  | nil => cases hf
  | cons r1 t =>
    cases t with
    | cons _ _ => cases r1 <;> cases hf
    | nil =>
      cases r1 <;> first | (cases hf; done) | skip
      rename_i b ws fs hb rb
      unfold fExtend at hf
      dsimp only at hf
      split at hf
      · rename_i hz
        cases hf
        exact mt_extend pins s σ H _ _ v us Q I rx rs ⟨a, b, _, _, rfl, rfl, hl, le _ _ hb, big_line (by rw [← rl.length, ← rb.length]; exact hz), q _ _ (.lst upd_same (rl.append rb)) .non⟩
      · cases hf

/-! ### o[k] = v -/
def fPutL (d k v : D) : Option D := match d, k with
  | .lst xs, .int i => (ixN xs.length i).map fun j => .lst (xs.set j v)
  | _, _ => none
def rSe (X : Cx) (fn : D → D → D → Option D) : TSet := fun o k v H Q => ∃ a F d dk dv d', o = .ref a ∧ F a = none ∧ Same F H ∧ OwnR X.K F H d a ∧ Rep X.K F dk k ∧ Rep X.K F dv v ∧ fn d dk dv = some d' ∧ ∀ o', OwnR X.K F (upd H a o') d' a → Q (upd H a o')
theorem se_list : PSet X (rSe X fPutL) := by
  intro pins s σ H o i v ov iv u Q I ro ri rv ⟨a, F, d, dk, dv, d', ex, hF, le, ow, rk, rdv, hf, q⟩
  subst ex
  cases ow <;> first | (cases hf; done) | skip
  rename_i vs es rl hl
  cases rk <;> first | (cases hf; done) | skip
  rename_i k
  unfold fPutL at hf
  dsimp only at hf
  cases hj : ixN es.length k with
  | none => rw [hj] at hf; cases hf
  | some j =>
    rw [hj] at hf; cases hf
    exact set_list pins s σ H _ _ _ ov iv u Q I ro ri rv ⟨a, _, k, j, rfl, rfl, hl, by rw [← rl.length]; exact hj, q _ (.lst upd_same (rl.set j rdv))⟩
/-- slot i's object [k] = v -/
def gPut (i : Nat) (fn : D → D → D → Option D) (g : Ef D) (v : D) : Ef Unit := bnd (chkV i) fun _ => bnd g fun k => fun e => match objS i e with
  | some d => (match fn d k v with
    | some d' => .ok () (putS i d' e)
    | none => .stuck)
  | none => .stuck
theorem chkV_post {K : PySem.W.Frag} {E : SK} {bs ex : List Addr} {σ : L2.St} {H F : Hp} {e : En} {i : Nat} {P : Unit → En → Hp → Hp → Prop} (s : StR K bs ex σ H F e) (p : Post K E bs ex σ H F (chkV i e) P) : (∃ v, σ[i]? = some (some v)) ∧ P () e H F := by
  unfold chkV at p
  cases ho : seeS i e with
  | none => rw [ho] at p; exact p.elim
  | some d =>
    rw [ho] at p
    obtain ⟨v, h1, _⟩ := s.see ho
    exact ⟨⟨v, h1⟩, p H F s (Step.refl _ _ _)⟩
theorem dg_sub {fn : D → D → D → Option D} (hs : PSet X (rSe X fn)) (i : Nat) (hb : DE X E b g) (hN : X.N[i]? = some y := by rfl)
    (hv : Vis X.env.scope y := by first | exact Or.inl rfl | exact Or.inr (Or.inl rfl) | exact Or.inr (Or.inr rfl)) (hdy : (y == ("__debug__" : Str)) = false := by decide) (hcd : (y == ("__classdict__" : Str)) = false := by decide)
    (ha : ∀ v, assign (.Subscript (.Name y py) b pos) X.env v = (do
      let ov ← holding [v] (eval (.Name y py) X.env)
      let iv ← holding [v, ov] (eval b X.env)
      standAt pos
      holding [v, ov, iv] (setItem ov iv v)
      release [v, ov, iv] []) := by intro _; rfl) : DG X E [] (.Subscript (.Name y py) b pos) (gPut i fn g) := by
  refine ⟨PG.imp (pg_sub (pv i hN hv hdy hcd) hb.pe hs ha) ?_⟩
  rintro v σ H Q ⟨bs, ex, F, e, d, s, r, p⟩
  obtain ⟨⟨u, hu⟩, p1⟩ := chkV_post (σ := σ) (H := H) (P := fun _ e1 H1 F1 => PostS X.K E bs ex H1 F1 (bnd g (fun k => fun e => match objS i e with
    | some d0 => (match fn d0 k d with
      | some d' => .ok () (putS i d' e)
      | none => .stuck)
    | none => .stuck) e1) fun _ _ σ' H' _ => Agree [] σ σ' → Q σ' H') s p.bndE
  refine ⟨u, hu, bs, ex, F, e, s, p1.bndE.imp fun k e1 H1 F1 _ s1 st1 p2 kv rk => ?_⟩
  cases ho : objS i e1 with
  | none => rw [ho] at p2; exact p2.elim
  | some d0 =>
    rw [ho] at p2
    dsimp only at p2
    cases hf : fn d0 k d with
    | none => rw [hf] at p2; exact p2.elim
    | some d' =>
      rw [hf] at p2
      obtain ⟨a', h1, h2, h3, h4⟩ := s1.obj ho
      rw [hu] at h1; cases h1
      refine ⟨a', F1, d0, k, d, d', rfl, h3, s1.le, h2, rk, r.same st1.1, hf, fun o ow => ?_⟩
      obtain ⟨s', st'⟩ := h4 o d' ow
      exact p2 σ _ _ s' st' ⟨rfl, fun _ _ => rfl⟩
end

section
variable {X : Cx} {E : SK} {a b c : Expr} {f g h : Ef D} {pos : Pos} {op op' : CmpOp} {fn fm : D → D → Option D}
theorem de_chain (ho : OpR X (compareOp op) (rF2 X fn)) (ho' : OpR X (compareOp op') (rF2 X fm)) (ha : DE X E a f) (hb : DE X E b g) (hc : DE X E c h)
    (hm : lastMarks [op, op'] [b, c] = false := by with_unfolding_all rfl) : DE X E (.Compare a [op, op'] [b, c] pos) (eChain fn fm f g h) :=
  ⟨PE.imp (pe_chain ho ho' ha.pe hb.pe hc.pe hm) (chain_core (c := c))⟩
theorem dt_chain (ho : OpR X (compareOp op) (rF2 X fn)) (ho' : OpR X (compareOp op') (rF2 X fm)) (ha : DE X E a f) (hb : DE X E b g) (hc : DE X E c h)
    (hm : lastMarks [op, op'] [b, c] = false := by with_unfolding_all rfl) : DT X E (.Compare a [op, op'] [b, c] pos) (eB (eChain fn fm f g h)) :=
  ⟨PT.imp (pt_chain ho ho' ha.pe hb.pe hc.pe hm) (tst_core (chain_core (c := c)))⟩
theorem tru_rep {K : PySem.W.Frag} {F H : Hp} {d : D} {v : V} {t : Bool} (r : Rep K F d v) (le : Same F H) (h : truth d = some t) : TruV K v H t := by
  cases r with
  | non => cases h; rfl
  | bl b => cases h; rfl
  | int i => cases h; rfl
  | str x =>
    unfold truth at h
    dsimp only at h
    split at h
    · rename_i hl; cases h; exact ⟨big_line hl, by cases x.length <;> rfl⟩
    · cases h
  | @tup a vs ds hs rs =>
    cases h
    refine .inr (.inl ⟨vs, sqt le hs, ?_⟩)
    cases rs <;> rfl
  | @ktp a vs ds hs rs =>
    cases h
    refine .inr (.inl ⟨vs, hs.sq le, ?_⟩)
    cases rs <;> rfl
  | @lst a vs ds hs rs =>
    cases h
    refine .inl ⟨vs, .of (le _ _ hs), ?_⟩
    cases rs <;> rfl
  | _ => cases h
theorem dt_truth (ha : DE X E a f) (he : ∀ whole, isTrue a X.env whole = (do let v ← whole; standAt a.pos; holding [v] (truthy v)) := by intro _; rfl) : DT X E a (eTru f) := by
  refine ⟨PT.imp (pt_truth ha.pe he) ?_⟩
  rintro σ H Q ⟨bs, ex, F, e, s, p⟩
  refine ⟨bs, ex, F, e, s, p.bnd.imp fun d e1 H1 F1 _ s1 st1 p1 v r => ?_⟩
  obtain ⟨t, ht, q⟩ := p1.lift
  exact ⟨t, tru_rep r s1.le ht, q H1 F1 s1 (Step.refl _ _ _)⟩
end

/-! ### a slot's object read where it stands -/
def scal : D → Bool
  | .non => true
  | .bl _ => true
  | .int _ => true
  | .str _ => true
  | .ty _ => true
  | .fn _ => true
  | _ => false
theorem Rep.scal {K : PySem.W.Frag} {F F' : Hp} {d : D} {v : V} (r : Rep K F d v) (h : scal d = true) : Rep K F' d v := by
  cases r <;> first | (cases h; done) | constructor
section
variable {K : PySem.W.Frag} {E : SK} {bs ex : List Addr} {σ : L2.St} {H F : Hp} {e : En}
/-- what is seen where it stands -/
def See (K : PySem.W.Frag) (F H : Hp) (d : D) (v : V) : Prop := Rep K F d v ∨ ∃ a, v = .ref a ∧ F a = none ∧ OwnR K F H d a
theorem See.show (le : Same F H) {d : D} {v : V} (h : See K F H d v) : ∃ Fp, Same F Fp ∧ Same Fp H ∧ Rep K Fp d v ∧ ∀ F' H', Grow Fp H F' H' → ∃ F'', Grow F H F'' H' := by
  rcases h with r | ⟨a, rfl, hF, o⟩
  · exact ⟨F, Same.refl _, le, r, fun F' H' g => ⟨F', g⟩⟩
  · have k : Same F (fun b => if b = a then H a else F b) := fun b o q => by
      by_cases hb : b = a
      · subst hb; rw [hF] at q; cases q
      · dsimp only; rw [if_neg hb]; exact q
    refine ⟨_, k, fun b o q => ?_, o.rep k (by rw [if_pos rfl]), fun F' H' g => ?_⟩
    · dsimp only at q
      split at q
      · rename_i hb; subst hb; exact q
      · exact le b o q
    · rcases g with ⟨_, rfl⟩ | ⟨p, o, h1, h9, rfl, _⟩
      · exact ⟨F, grow0⟩
      · exact ⟨_, grow1 h1 h9⟩
end
def rdV (i : Nat) : Ef D := fun e => match seeS i e with
  | some d => .ok d e
  | none => .stuck
def only (z : D) : Ef D := if scal z = true then rtn z else stk
/-- f(x), the slot's object left as it is; the answer is no object -/
def eFnS (fn : List D → Option D) (i : Nat) : Ef D := bnd (rdV i) fun d => bnd (lift (fn [d])) only
/-- x op b, a op x -/
def eOpL (fn : D → D → Option D) (i : Nat) (g : Ef D) : Ef D := bnd (chkV i) fun _ => bnd g fun k => bnd (rdV i) fun d => bnd (lift (fn d k)) only
def eOpR (fn : D → D → Option D) (f : Ef D) (i : Nat) : Ef D := bnd f fun k => bnd (rdV i) fun d => bnd (lift (fn k d)) only
/-- x[k], x the slot's object -/
def eIxS (i : Nat) (g : Ef D) : Ef D := bnd (chkV i) fun _ => bnd g fun k => bnd (rdV i) fun d => lift (fIx d k)
theorem rdV_post {K : PySem.W.Frag} {E : SK} {bs ex : List Addr} {σ : L2.St} {H F : Hp} {e : En} {i : Nat} {P : D → En → Hp → Hp → Prop} (s : StR K bs ex σ H F e) (p : Post K E bs ex σ H F (rdV i e) P) : ∃ v d, σ[i]? = some (some v) ∧ See K F H d v ∧ P d e H F := by
  unfold rdV at p
  cases ho : seeS i e with
  | none => rw [ho] at p; exact p.elim
  | some d =>
    rw [ho] at p
    obtain ⟨v, h1, h2⟩ := s.see ho
    exact ⟨v, d, h1, h2, p H F s (Step.refl _ _ _)⟩
section
variable {X : Cx} {E : SK} {a b : Expr} {f g : Ef D} {pos p py : Pos} {x y : Str} {fn : D → D → Option D} {id : String}
theorem only_post {bs ex : List Addr} {σ : L2.St} {H F : Hp} {e : En} {z : D} {Q : VK} (s : StR X.K bs ex σ H F e) (p : Post X.K E bs ex σ H F (only z e) fun d _ H' F' => ∀ v, Rep X.K F' d v → Q v H') {Fp : Hp} (hg : ∀ F' H', Grow Fp H F' H' → ∃ F'', Grow F H F'' H') :
    ∀ v F' H', Grow Fp H F' H' → Rep X.K F' z v → Q v H' := by
  intro v F' H' g r
  unfold only at p
  split at p
  · rename_i hz
    obtain ⟨F'', g'⟩ := hg F' H' g
    obtain ⟨s', st'⟩ := s.grow g'
    exact p H' F'' s' st' v (r.scal hz)
  · exact p.elim
theorem opL_core {i : Nat} : ∀ σ H Q, tD X.K E (eOpL fn i g) σ H Q → tOp (rF2 X fn) (tVar i) (tD X.K E g) σ H Q := by
  rintro σ H Q ⟨bs, ex, F, e, s, p⟩
  obtain ⟨⟨u, hu⟩, p⟩ := chkV_post s p.bnd
  refine ⟨u, hu, bs, ex, F, e, s, p.bnd.imp fun d1 e1 H1 F1 _ s1 st1 p1 v1 r1 => ?_⟩
  obtain ⟨w, d, h1, h2, p2⟩ := rdV_post s1 p1.bnd
  rw [hu] at h1; cases h1
  obtain ⟨z, hz, q⟩ := p2.bnd.lift
  obtain ⟨Fp, k1, k2, k3, k4⟩ := h2.show s1.le
  exact ⟨Fp, d, d1, z, k2, k3, r1.same k1, hz, only_post s1 (q H1 F1 s1 (Step.refl _ _ _)) k4⟩
theorem dt_opL {op : CmpOp} (ho : OpR X (compareOp op) (rF2 X fn)) (i : Nat) (hb : DE X E b g) (hm : behindInMarks op b = false) (hN : X.N[i]? = some y := by rfl)
    (hv : Vis X.env.scope y := by first | exact Or.inl rfl | exact Or.inr (Or.inl rfl) | exact Or.inr (Or.inr rfl)) (hdy : (y == ("__debug__" : Str)) = false := by decide) (hcd : (y == ("__classdict__" : Str)) = false := by decide) :
    DT X E (.Compare (.Name y py) [op] [b] pos) (eB (eOpL fn i g)) := ⟨PT.imp (pt_cmpR ho (pv i hN hv hdy hcd) hb.pe hm) (tst_core opL_core)⟩
theorem see_dK {K : PySem.W.Frag} {F H : Hp} {kds : List (D × D)} {v : V} (le : Same F H) (h : See K F H (.dct kds) v) : ∃ a kvs, v = .ref a ∧ Rd H a (.dK kvs) ∧ RepK K F kds kvs := by
  rcases h with r | ⟨a, rfl, hF, o⟩
  · cases r with
    | dK h r => exact ⟨_, _, rfl, (Keeps.of_same le).rd _ _ h, r⟩
  · cases o with
    | dK h r => exact ⟨_, _, rfl, .inl h, r⟩
theorem see_dT {K : PySem.W.Frag} {F H : Hp} {kds : List (D × D)} {v : V} (le : Same F H) (h : See K F H (.dcT kds) v) : ∃ a kvs, v = .ref a ∧ Rd H a (.dT kvs) ∧ RepT K F kds kvs := by
  rcases h with r | ⟨a, rfl, hF, o⟩
  · cases r with
    | dT h r => exact ⟨_, _, rfl, (Keeps.of_same le).rd _ _ h, r⟩
  · cases o with
    | dT h r => exact ⟨_, _, rfl, .inl h, r⟩
theorem get_see {K : PySem.W.Frag} {F H : Hp} {d dk : D} {v x : V} {z : Option D} (le : Same F H) (r : See K F H d v) (rk : Rep K F dk x) (h : fGetO d dk = some z) :
    ∃ a o, v = .ref a ∧ DGet H a x o ∧ IsD H a ∧ ((∃ e w, z = some e ∧ o = some w ∧ Rep K F e w) ∨ (z = none ∧ o = none)) := by
  unfold fGetO at h
  split at h
  · split at h
    · rename_i kds _ hk
      cases h
      obtain ⟨a, kvs, rfl, hh, rr⟩ := see_dK le r
      obtain ⟨k, hk⟩ := Option.isSome_iff_exists.mp hk
      have ed := keyM_eq hk
      subst ed
      have ex : x = kV k := by
        cases k with
        | inl i => cases rk; rfl
        | inr z => cases rk; rfl
      subst ex
      refine ⟨_, _, rfl, .inl ⟨_, k, hh, rfl, rfl⟩, .inl ⟨_, hh⟩, ?_⟩
      rcases rr.val (k := k) with ⟨e, w, h1, h2, h3⟩ | ⟨h1, h2⟩
      · exact .inl ⟨e, w, h1, h2, h3⟩
      · exact .inr ⟨h1, h2⟩
    · cases h
  · split at h
    · rename_i kds _ hk
      cases h
      obtain ⟨a, kvs, rfl, hh, rr⟩ := see_dT le r
      obtain ⟨k, hk⟩ := Option.isSome_iff_exists.mp hk
      have ed := keysM_eq hk
      subst ed
      cases rk with
      | tup hb rs =>
        have := rep_keys rs
        subst this
        refine ⟨_, _, rfl, .inr ⟨_, k, _, hh, rfl, le _ _ hb, rfl⟩, .inr ⟨_, hh⟩, ?_⟩
        rcases rr.val (k := k) with ⟨e, w, h1, h2, h3⟩ | ⟨h1, h2⟩
        · exact .inl ⟨e, w, h1, h2, h3⟩
        · exact .inr ⟨h1, h2⟩
    · cases h
  · cases h
theorem ixS_r (hu : X.A.units + 1 < cLine) : IxR X (fun x y H Q => ∃ F d e z, Same F H ∧ See X.K F H d x ∧ Rep X.K F e y ∧ fIx d e = some z ∧ ∀ v, Rep X.K F z v → Q v H) := by
  intro value slice pins s σ H x y v u Q I rx ry ⟨F, d, e, z, le, r1, r2, hf, q⟩ hs
  have dict : (fGetO d e).bind id = some z → wpAny (model X.prog X.w) X.A (subscriptTail value slice v u) (EP X pins σ Q) X.xe s := fun hz => by
    cases hg : fGetO d e with
    | none => rw [hg] at hz; cases hz
    | some o =>
      rw [hg] at hz
      have hz : o = some z := hz
      subst hz
      obtain ⟨a, o, rfl, g, isd, h | h⟩ := get_see le r1 r2 hg
      · obtain ⟨e', w, h1, rfl, h3⟩ := h
        cases h1
        cases rx
        exact tail_any (dict_typeIs I g) PySem.F.slot_dict_getitem.lookup (d_getItem hu I g ry fun w' s' I' rw' => ⟨w, H, I', rw', q _ h3⟩) hs
      · cases h.1
  have ls : ∀ (a : Addr) (xs : List V) (ds : List D) (i : Int), d = .lst ds → x = .ref a → y = .int i → SqL X.K H a xs → Reps X.K F ds xs → atI ds i = some z → wpAny (model X.prog X.w) X.A (subscriptTail value slice v u) (EP X pins σ Q) X.xe s := by
    rintro a xs ds i rfl rfl rfl h r hf
    obtain ⟨w, h1, h2⟩ := r.at hf
    exact ix_list value slice pins s σ H _ _ v u Q I rx ry ⟨_, _, _, w, rfl, rfl, h, h1, q _ h2⟩ hs
  rcases hr : r1 with r1 | ⟨a, rfl, hF, o⟩
  · cases r2 with
    | int i =>
      cases r1 with
      | tup h r =>
        obtain ⟨w, h1, h2⟩ := r.at hf
        exact ix_tup value slice pins s σ H _ _ v u Q I rx ry ⟨_, _, _, w, rfl, rfl, sqt le h, h1, q _ h2⟩ hs
      | ktp h r =>
        obtain ⟨w, h1, h2⟩ := r.at hf
        exact ix_tup value slice pins s σ H _ _ v u Q I rx ry ⟨_, _, _, w, rfl, rfl, h.sq le, h1, q _ h2⟩ hs
      | dK h r => exact dict hf
      | dT h r => exact dict hf
      | lst h r => exact ls _ _ _ _ rfl rfl rfl (.of (le _ _ h)) r hf
      | @scr a ns h =>
        have hf : (atI ns i).map D.int = some z := hf
        cases hj : atI ns i with
        | none => rw [hj] at hf; cases hf
        | some j =>
          rw [hj] at hf; cases hf
          exact ix_list value slice pins s σ H _ _ v u Q I rx ry ⟨_, _, _, V.int j, rfl, rfl, (Keeps.of_same le).sqL h, by rw [atI_map, hj]; rfl, q _ (.int _)⟩ hs
      | str x =>
        have hf : (if x.length ≤ big then (atI x.cps.toList i).map fun c => D.str ⟨#[c]⟩ else none) = some z := hf
        split at hf
        · rename_i hl
          cases hj : atI x.cps.toList i with
          | none => rw [hj] at hf; cases hf
          | some j =>
            rw [hj] at hf; cases hf
            exact ix_str value slice pins s σ H _ _ v u Q I rx ry ⟨_, _, _, rfl, rfl, big_line hl, hj, q _ (.str _)⟩ hs
        · cases hf
      | _ => cases hf
    | _ => cases r1 <;> first | exact dict hf | cases hf
  · cases o with
    | lst h r =>
      cases r2 with
      | int i => exact ls _ _ _ _ rfl rfl rfl (.of h) r hf
      | _ => cases hf
    | dK h r => exact dict hf
    | dT h r => exact dict hf
    | set h nd r => cases r2 <;> cases hf
    | ins h r => cases r2 <;> cases hf
theorem de_ixS (hu : X.A.units + 1 < cLine) (i : Nat) (hb : DE X E b g) (hN : X.N[i]? = some y := by rfl)
    (hv : Vis X.env.scope y := by first | exact Or.inl rfl | exact Or.inr (Or.inl rfl) | exact Or.inr (Or.inr rfl)) (hdy : (y == ("__debug__" : Str)) = false := by decide) (hcd : (y == ("__classdict__" : Str)) = false := by decide)
    (hs : PlainIx b := by intro _ _; rfl) : DE X E (.Subscript (.Name y py) b pos) (eIxS i g) := by
  refine ⟨PE.imp (pe_ix (ixS_r hu) (pv i hN hv hdy hcd) hb.pe hs) ?_⟩
  rintro σ H Q ⟨bs, ex, F, e, s, p⟩
  obtain ⟨⟨u, hu⟩, p⟩ := chkV_post s p.bnd
  refine ⟨u, hu, bs, ex, F, e, s, p.bnd.imp fun d1 e1 H1 F1 _ s1 st1 p1 v1 r1 => ?_⟩
  obtain ⟨w, d, h1, h2, p2⟩ := rdV_post s1 p1.bnd
  rw [hu] at h1; cases h1
  obtain ⟨z, hz, q⟩ := p2.lift
  exact ⟨F1, d, d1, z, s1.le, h2, r1, hz, fun v r => q H1 F1 s1 (Step.refl _ _ _) v r⟩
def eTruS (i : Nat) : Ef Bool := bnd (rdV i) fun d => lift (truth d)
end

/-! ### name op= e, ints -/
def sAugI (i : Nat) (op : Int → Int → Int) (f : Ef D) : Ef Fl := bnd (eVar i) fun d => match d with
  | .int a => bnd f fun e => (match e with
    | .int b => bnd (setV i (.int (op a b))) fun _ => rtn .nx
    | _ => stk)
  | _ => stk
/-- slot i's object [k] op= e, ints -/
def augP (op : Int → Int → Int) (i : Nat) (k d : D) (w : D) : Ef Fl := match d, w with
  | .int a, .int b => fun e => (match objS i e with
    | some o => (match fPutL o k (.int (op a b)) with
      | some o' => .ok .nx (putS i o' e)
      | none => .stuck)
    | none => .stuck)
  | _, _ => stk
section
variable {X : Cx} {E : SK} {a b : Expr} {f g : Ef D} {pos pos' p py : Pos} {x y : Str} {op : Operator} {fo : Int → Int → Int}
theorem ds_augI (C : DC X E) (hp : PIp X op (ipI fo)) (i : Nat) (h : DE X E a f) (hi : X.N[i]? = some x := by rfl) (hx : Loc X.env.scope x := by first | exact Or.inl rfl | exact Or.inr rfl)
    (hf : X.fn x = true ∨ X.env.scope.names.lookup x = some .local := by first | exact .inl rfl | exact .inr rfl) : DS X E (.AugAssign (.Name x pos') op a pos) (sAugI i fo f) := by
  refine ⟨PS.imp (ps_aug C.nd hi hx h.pe hp hf) ?_⟩
  rintro D σ H ⟨bs, ex, F, e, s, p⟩
  unfold sAugI DL.bnd eVar at p
  split at p
  · rename_i d e' he
    split at he
    · rename_i d0 h0
      cases he
      obtain ⟨v, h1, h2⟩ := s.val i _ h0
      cases h2 <;> first | exact p.elim | skip
      rename_i k
      refine ⟨_, h1, bs, ex, F, e, s, ?_⟩
      have p' : PostS X.K E bs ex H F (DL.bnd f (fun e => match e with | .int b => bnd (setV i (.int (fo k b))) fun _ => rtn Fl.nx | _ => stk) e) fun fl _ σ' H' F' => FlP X.K D fl σ' H' F' := p
      refine p'.bndE.imp fun w e1 H1 F1 _ s1 st1 p1 v r => ?_
      cases r <;> first | exact p1.elim | skip
      rename_i m _
      refine ⟨k, m, rfl, rfl, ?_⟩
      obtain ⟨F2, s2, st2⟩ := s1.setVal i (Rep.int (K := X.K) (F := F1) (fo k m))
      exact p1 _ H1 F2 s2 st2
    · rename_i d0 h0
      cases he
      obtain ⟨v, h1, h2⟩ := s.own i _ h0
      cases h2 <;> exact p.elim
    · cases he
  · rename_i he
    split at he <;> cases he
  · exact p.elim
end

/-! ### a, b = e1, e2 with local names -/
def tX (K : PySem.W.Frag) (E : SK) (o : Bool) (f : Ef D) : TE := if o = true then tDN K E f else tD K E f
structure DX (X : Cx) (E : SK) (o : Bool) (x : Expr) (f : Ef D) : Prop where
  pe : PE X x (tX X.K E o f)
theorem DE.x {X : Cx} {E : SK} {x : Expr} {f : Ef D} (h : DE X E x f) : DX X E false x f := ⟨h.pe⟩
theorem DN.x {X : Cx} {E : SK} {x : Expr} {f : Ef D} (h : DN X E x f) : DX X E true x f := ⟨h.pe⟩
def setX (o : Bool) (i : Nat) (d : D) : Ef Unit := if o = true then setO i d else setV i d
def sPar (i j : Nat) (o1 o2 : Bool) (f g : Ef D) : Ef Fl := bnd f fun d => bnd g fun d' => bnd (setX o1 i d) fun _ => bnd (setX o2 j d') fun _ => rtn .nx
theorem StR.perm {K : PySem.W.Frag} {bs ex ex' : List Addr} {σ : L2.St} {H F : Hp} {e : En} (s : StR K bs ex σ H F e) (h : ∀ a, a ∈ ex' ↔ a ∈ ex) : StR K bs ex' σ H F e := by
  have hid : ∀ a, Hid e.s σ bs ex' a ↔ Hid e.s σ bs ex a := fun a => by unfold Hid; rw [h a]
  exact ⟨s.len, s.val, s.own, s.bor, s.inj, fun a q => ⟨(s.out a q).1, fun z => (s.out a q).2 ((h a).mp z)⟩, fun a q => s.hid a ((hid a).mp q), fun a q => s.vis a fun z => q ((hid a).mpr z), s.bl, s.br, s.bn, fun a q z => s.bx a q ((h a).mp z), fun a q => s.mu a ((h a).mp q), s.tb⟩
/-- what stands behind an expression: a value, or a new object apart -/
def PostX (K : PySem.W.Frag) (E : SK) (o : Bool) (bs ex : List Addr) (σ : L2.St) (H F : Hp) (r : Res D) (P : D → En → V → List Addr → Hp → Hp → Prop) : Prop := match r with
  | .ok d e' => if o = true then (∀ a H' F', StR K bs (a :: ex) σ H' F' e' → Step ex H F H' F' → a ∉ ex → OwnR K F' H' d a → P d e' (.ref a) (a :: ex) H' F') else (∀ H' F', StR K bs ex σ H' F' e' → Step ex H F H' F' → ∀ v, Rep K F' d v → P d e' v ex H' F')
  | .exc c as e' => ∀ dx H' F', StR K bs ex σ H' F' e' → Step ex H F H' F' → ExcR K F' as dx → E σ (.ref c) dx H'
  | .stuck => False
theorem tX_of {K : PySem.W.Frag} {E : SK} {o : Bool} {bs ex : List Addr} {σ : L2.St} {H F : Hp} {e : En} {f : Ef D} {P : D → En → V → List Addr → Hp → Hp → Prop} {Q : VK} (s : StR K bs ex σ H F e) (p : PostX K E o bs ex σ H F (f e) P)
    (q : ∀ d e' v x H' F', P d e' v x H' F' → Q v H') : tX K E o f σ H Q := by
  unfold tX
  unfold PostX at p
  cases o with
  | true =>
    rw [if_pos rfl]
    refine ⟨bs, ex, F, e, s, ?_⟩
    unfold PostN
    generalize f e = r at p ⊢
    cases r with
    | ok d e' => exact fun a H' F' s' st na ow => q _ _ _ _ _ _ (p a H' F' s' st na ow)
    | exc c as e' => exact p
    | stuck => exact p
  | false =>
    rw [if_neg Bool.false_ne_true]
    refine ⟨bs, ex, F, e, s, ?_⟩
    unfold Post
    generalize f e = r at p ⊢
    cases r with
    | ok d e' => exact fun H' F' s' st v r => q _ _ _ _ _ _ (p H' F' s' st v r)
    | exc c as e' => exact p
    | stuck => exact p
section
variable {X : Cx} {E : SK} {a b : Expr} {f g : Ef D} {pos px py pt pt2 : Pos} {x y : Str} {o1 o2 : Bool} {kt k2 : Nat}
theorem ds_par (C : DC X E) (i j : Nat) (ha : DX X E o1 a f) (hb : DX X E o2 b g) (hij : i ≠ j := by decide) (hi : X.N[i]? = some x := by rfl) (hj : X.N[j]? = some y := by rfl) (hx : X.env.scope.names.lookup x = some .local := by rfl) (hy : X.env.scope.names.lookup y = some .local := by rfl)
    (hw : swappedStores [.Tuple [.Name x px, .Name y py] kt pt] (.Tuple [a, b] k2 pt2) X.env = pure (some [x, y]) := by rfl)
    (hs : swapsWithSole [.Tuple [.Name x px, .Name y py] kt pt] (.Tuple [a, b] k2 pt2) pos.line X.env = pure false := by rfl)
    (ns1 : starEach (a :: [b]) X.env = (false, eval a X.env) :: starEach [b] X.env := by rfl) (ns2 : starEach (b :: []) X.env = (false, eval b X.env) :: starEach [] X.env := by rfl) :
    DS X E (.Assign [.Tuple [.Name x px, .Name y py] kt pt] (.Tuple [a, b] k2 pt2) pos) (sPar i j o1 o2 f g) := by
  refine ⟨PS.imp (ps_par C.calm C.nd hi hj hij hx hy (pa_cons ha.pe (pa_cons hb.pe pa_nil ns2) ns1) hw hs) ?_⟩
  rintro D σ H ⟨bs, ex, F, e, s, p⟩
  unfold sPar at p
  -- the first
  refine tX_of (P := fun d e1 v ex1 H1 F1 => tX X.K E o2 g σ H1 fun w H2 => ∃ v' w', [v, w] = [v', w'] ∧ D.nx ((σ.set i (some v')).set j (some w')) H2) s ?_ fun d e1 v ex1 H1 F1 h => ?_
  · unfold PostX
    unfold DL.bnd at p
    generalize f e = r at p ⊢
    cases r with
    | exc c as e' => exact fun dx H' F' s' st r => p σ dx H' F' s' st r
    | stuck => exact p
    | ok d e1 =>
      cases o1 with
      | true =>
        show if (true : Bool) = true then _ else _
        rw [if_pos rfl]
        intro a1 H1 F1 s1 st1 na ow
        refine tX_of (P := fun d' e2 w ex2 H2 F2 => ∃ v' w', [V.ref a1, w] = [v', w'] ∧ D.nx ((σ.set i (some v')).set j (some w')) H2) s1 ?_ fun d e1 v ex1 H1 F1 h => h
        unfold PostX
        dsimp only at p
        generalize g e1 = r at p ⊢
        have tl : ∀ {H F H' F' : Hp}, Step (a1 :: ex) H F H' F' → Step ex H F H' F' := fun h => ⟨h.1, fun a q => h.2 a (List.mem_cons_of_mem _ q)⟩
        cases r with
        | exc c as e' =>
          intro dx H' F' s' st x
          obtain ⟨F2, s2, st2, _⟩ := s'.release (ow.same st.1 (st.2 a1 List.mem_cons_self)) na
          exact p σ dx H' F2 s2 ((st1.trans (tl st)).trans st2) (x.same st2.1)
        | stuck => exact p
        | ok d' e2 =>
          cases o2 with
          | true =>
            show if (true : Bool) = true then _ else _
            rw [if_pos rfl]
            intro a2 H2 F2 s2 st2 na2 ow2
            have na2' := na2
            rw [List.mem_cons, not_or] at na2'
            have s3 : StR X.K bs (a1 :: a2 :: ex) σ H2 F2 e2 := s2.perm fun c => by simp only [List.mem_cons]; constructor <;> (rintro (h | h | h) <;> simp [h])
            obtain ⟨F4, s4, st4⟩ := s3.setOwn i (ow.same st2.1 (st2.2 a1 List.mem_cons_self)) (by rw [List.mem_cons, not_or]; exact ⟨fun z => na2'.1 z.symm, na⟩)
            obtain ⟨F5, s5, st5⟩ := s4.setOwn j (ow2.same st4.1 (st4.2 a2 List.mem_cons_self)) na2'.2
            exact ⟨_, _, rfl, p _ H2 F5 s5 (((st1.trans (tl st2)).trans ⟨st4.1, fun c q => st4.2 c (List.mem_cons_of_mem _ q)⟩).trans st5)⟩
          | false =>
            show if (false : Bool) = true then _ else _
            rw [if_neg Bool.false_ne_true]
            intro H2 F2 s2 st2 v r
            obtain ⟨F4, s4, st4⟩ := s2.setOwn i (ow.same st2.1 (st2.2 a1 List.mem_cons_self)) na
            obtain ⟨F5, s5, st5⟩ := s4.setVal j (r.same st4.1)
            exact ⟨_, _, rfl, p _ H2 F5 s5 (((st1.trans (tl st2)).trans st4).trans st5)⟩
      | false =>
        show if (false : Bool) = true then _ else _
        rw [if_neg Bool.false_ne_true]
        intro H1 F1 s1 st1 v rv
        refine tX_of (P := fun d' e2 w ex2 H2 F2 => ∃ v' w', [v, w] = [v', w'] ∧ D.nx ((σ.set i (some v')).set j (some w')) H2) s1 ?_ fun d e1 v ex1 H1 F1 h => h
        unfold PostX
        dsimp only at p
        generalize g e1 = r at p ⊢
        cases r with
        | exc c as e' => exact fun dx H' F' s' st x => p σ dx H' F' s' (st1.trans st) x
        | stuck => exact p
        | ok d' e2 =>
          cases o2 with
          | true =>
            show if (true : Bool) = true then _ else _
            rw [if_pos rfl]
            intro a2 H2 F2 s2 st2 na2 ow2
            obtain ⟨F4, s4, st4⟩ := s2.setVal i (rv.same st2.1)
            obtain ⟨F5, s5, st5⟩ := s4.setOwn j (ow2.same st4.1 rfl) na2
            exact ⟨_, _, rfl, p _ H2 F5 s5 (((st1.trans st2).trans ⟨st4.1, fun _ _ => rfl⟩).trans st5)⟩
          | false =>
            show if (false : Bool) = true then _ else _
            rw [if_neg Bool.false_ne_true]
            intro H2 F2 s2 st2 w r
            obtain ⟨F4, s4, st4⟩ := s2.setVal i (rv.same st2.1)
            obtain ⟨F5, s5, st5⟩ := s4.setVal j (r.same st4.1)
            exact ⟨_, _, rfl, p _ H2 F5 s5 (((st1.trans st2).trans st4).trans st5)⟩
  · unfold tX at h ⊢
    cases o2 with
    | true =>
      rw [if_pos rfl] at h ⊢
      exact h
    | false =>
      rw [if_neg Bool.false_ne_true] at h ⊢
      exact h
end

/-! ### sorted -/
def insI (n : Int) : List Int → List Int
  | [] => [n]
  | m :: r => if n ≤ m then n :: m :: r else m :: insI n r
def sortI : List Int → List Int
  | [] => []
  | n :: r => insI n (sortI r)
theorem insI_perm (n : Int) : ∀ r : List Int, (insI n r).Perm (n :: r)
  | [] => .refl _
  | m :: r => by
    unfold insI
    split
    · exact .refl _
    · exact ((insI_perm n r).cons m).trans (.swap n m r)
theorem sortI_perm : ∀ r : List Int, (sortI r).Perm r
  | [] => .refl _
  | n :: r => (insI_perm n (sortI r)).trans ((sortI_perm r).cons n)
theorem insI_sorted (n : Int) : ∀ {r : List Int}, r.Pairwise (· ≤ ·) → (insI n r).Pairwise (· ≤ ·)
  | [], _ => by simp [insI]
  | m :: r, h => by
    obtain ⟨h1, h2⟩ := List.pairwise_cons.mp h
    unfold insI
    split
    · rename_i hn
      refine List.pairwise_cons.mpr ⟨fun y hy => ?_, h⟩
      rcases List.mem_cons.mp hy with rfl | hy
      · exact hn
      · exact Int.le_trans hn (h1 y hy)
    · rename_i hn
      refine List.pairwise_cons.mpr ⟨fun y hy => ?_, insI_sorted n h2⟩
      rcases List.mem_cons.mp ((insI_perm n r).mem_iff.mp hy) with rfl | hy
      · omega
      · exact h1 y hy
theorem sortI_sorted : ∀ r : List Int, (sortI r).Pairwise (· ≤ ·)
  | [] => .nil
  | n :: r => insI_sorted n (sortI_sorted r)
theorem sorted_uniq : ∀ {as bs : List Int}, as.Pairwise (· ≤ ·) → bs.Pairwise (· ≤ ·) → as.Perm bs → as = bs
  | [], bs, _, _, p => (p.nil_eq)
  | a :: r, [], _, _, p => by have := p.length_eq; simp at this
  | a :: r, b :: t, ha, hb, p => by
    obtain ⟨h1, h2⟩ := List.pairwise_cons.mp ha
    obtain ⟨h3, h4⟩ := List.pairwise_cons.mp hb
    have e : a = b := by
      rcases List.mem_cons.mp (p.mem_iff.mp List.mem_cons_self) with h | h
      · exact h
      · rcases List.mem_cons.mp (p.symm.mem_iff.mp List.mem_cons_self) with h' | h'
        · exact h'.symm
        · have := h3 a h; have := h1 b h'; omega
    subst e
    rw [sorted_uniq h2 h4 (List.Perm.cons_inv p)]
/-! ### the built-ins' names -/
theorem bt_all : bootBuiltins "all" = some (.builtin "all") := by decide +kernel
theorem bt_len : bootBuiltins "len" = some (.builtin "len") := by decide +kernel
theorem bt_isinstance : bootBuiltins "isinstance" = some (.builtin "isinstance") := by decide +kernel
theorem bt_sorted : bootBuiltins "sorted" = some (.builtin "sorted") := by decide +kernel
theorem bt_int : bootBuiltins "int" = some (.type "int") := by decide +kernel
theorem bt_bool : bootBuiltins "bool" = some (.type "bool") := by decide +kernel
theorem bt_tuple : bootBuiltins "tuple" = some (.type "tuple") := by decide +kernel
theorem bt_dict : bootBuiltins "dict" = some (.type "dict") := by decide +kernel
theorem bt_set : bootBuiltins "set" = some (.type "set") := by decide +kernel
/-! ### the law's own head -/
theorem law_start {K : PySem.W.Frag} {H : Hp} {a : Addr} {ns : List Int} {g : Ef D} (hT : TabOk H) (hS : SqL K H a (ns.map V.int)) (h : ∃ e, g ⟨[.val (.scr ns)], []⟩ = .ok (.bl true) e) : spD K 1 g [.ref a] H (fun v _ => v = .bl true) fun _ _ _ => False := by
  obtain ⟨e, h⟩ := h
  have no : ∀ b, ¬ Hid [.val (.scr ns)] [some (.ref a)] [] [] b := fun b z => by
    rcases z with ⟨i, d, h1, _⟩ | z | z
    · cases i with
      | zero => cases h1
      | succ i => simp at h1
    · cases z
    · cases z
  have hS' : SqL K (msk H) a (ns.map V.int) := by
    rcases hS with (h | ⟨o, h⟩) | h
    · exact .inl (.inl (msk_at h (fun _ z => by cases z)))
    · exact .inl (.inr ⟨o, msk_at h (fun _ z => by cases z)⟩)
    · exact .inr h
  refine ⟨[], [], msk H, ⟨[.val (.scr ns)], []⟩, ⟨rfl, fun i d q => ?_, fun i d q => ?_, fun i j q => ?_, fun i j d d' b q => ?_, fun b q => (no b (.inl q)).elim, fun b q => (no b q).elim, fun b _ => rfl, rfl, fun j d q => by simp at q, List.nodup_nil, fun b q => (by cases q), fun b q => (by cases q), hT⟩, ⟨rfl, fun i s q => ?_⟩, ?_⟩
  · cases i with
    | zero => cases q; exact ⟨_, rfl, .scr hS'⟩
    | succ i => simp at q
  · cases i with
    | zero => cases q
    | succ i => simp at q
  · cases i with
    | zero => cases q
    | succ i => simp at q
  · cases i with
    | zero => cases q
    | succ i => simp at q
  · cases i with
    | zero => cases q; exact .inl ⟨_, rfl⟩
    | succ i => simp at q
  · rw [h]
    intro v H' F' s st r
    cases r
    rfl
theorem law_none {P : Program} {w : World} {H : Hp} {s s' : Shared} {e : Value} (h : L2.CX P w [] H s (fun _ _ _ => False) e s') : False := by
  obtain ⟨a, B, H', cls, d, _, _, _, _, _, _, _, hE⟩ := h
  exact hE

/-! ### sorted(a tuple) -/
section
variable {prog : Program} {w : World} {A : Around} {E : Value → Shared → Prop} {s : Shared}
theorem sorted_seqO {l : Addr} {T : String} {o : Obj} {k : Nat} {vs : List Value} {ltv : Value → Value → Bool} {Q : Value → Shared → Prop} (O : SrtO.Swo ltv) (hT : T = "list" ∨ T = "tuple") (ho : s.heap.get? l = some o) (hc : o.cls = .type T) (hd : o.data = .seq vs.toArray k) (hz : vs.length ≤ sizeLine)
    (hS : 2 ≤ vs.length → ∀ (h₁ : Heap) (a : Addr), h₁.get? a = some (seqObj "list" vs.toArray 0) → SrtO.SortableO prog w A.in1.in1 { s with heap := h₁ } a vs ltv)
    (h : ∀ (h0 h' : Heap) (p : Addr) (ep : Nat) (out : List Value), (∀ b o, s.heap.get? b = some o → h0.get? b = some o) → h0.objs.size ≤ p → (∀ b o, h0.get? b = some o → h'.get? b = some o) → h'.get? p = some (seqObj "list" out.toArray ep) → SrtO.Srtd ltv out → SrtO.Stb ltv out vs → Q (.ref p) { s with heap := h' }) :
    wpAny (model prog w) A (call (.builtin "sorted") [.ref l]) Q E s := by
  refine Calls.call_function_entry kind_sorted plain_sorted entry_sorted (args_sorted1 _) ?_
  unfold Builtin.«sorted»
  refine wpAny_bind (m := checkCount "sorted" 1 1 _) (wpAny_pure ?_)
  refine wpAny_bind (wpAny_collect_seq (A := A.in1) l hT ho hc hd (fun h0 k0 => ?_) (by rw [List.size_toArray]; exact hz))
  rw [List.toList_toArray]
  refine wpAny_bind (wpAny_newList ?_ hz)
  have hoL : (h0.push (seqObj "list" vs.toArray 0)).get? h0.objs.size = some (seqObj "list" vs.toArray 0) := Heap.get?_push_size _ rfl
  refine wpAny_bind (wpAny_holding (wpAny_call_entry slot_list_sort ⟨_, hoL, rfl⟩ entry_list_sort (SrtO.list_sort_ord O hoL hz (fun h2 => hS h2 _ _ hoL) fun out hs hb => ⟨_, rfl, ?_⟩) (args_list_sort _)))
  obtain ⟨ep, hp⟩ := sortedHeap_at (vs := vs) (out := out.toArray) hoL
  refine wpAny_pure ⟨_, rfl, h h0 _ h0.objs.size ep out k0 (Nat.le_refl _) (fun b u q1 => ?_) hp hs hb⟩
  have hlt := Heap.lt_size q1
  rw [sortedHeap_old (Nat.ne_of_lt hlt) (by rw [size_push']; exact Nat.lt_succ_of_lt hlt)]
  exact Heap.get?_push_of_some _ q1
end
section
variable {X : Cx}
/-- sorted of a list or tuple of ints -/
def seqInts : D → Option (List Int)
  | .tup xs => toInts xs
  | .ktp xs => toInts xs
  | .lst xs => toInts xs
  | .scr ns => some ns
  | _ => none
theorem seq_ints {K : PySem.W.Frag} {F H : Hp} {d : D} {v : V} {ns : List Int} (r : Rep K F d v) (h : seqInts d = some ns) (le : Same F H) : ∃ a, v = .ref a ∧ (SqL K H a (ns.map V.int) ∨ SqT K H a (ns.map V.int)) := by
  have go : ∀ {xs : List D} {vs : List V}, toInts xs = some ns → Reps K F xs vs → vs = ns.map V.int := fun h r => by
    have := toInts_eq h
    subst this
    exact r.ints
  cases r with
  | tup hs rs => have := go h rs; subst this; exact ⟨_, rfl, .inr (sqt le hs)⟩
  | ktp hs rs => have := go h rs; subst this; exact ⟨_, rfl, .inr (hs.sq le)⟩
  | lst hs rs => have := go h rs; subst this; exact ⟨_, rfl, .inl (.of (le _ _ hs))⟩
  | scr hs => cases h; exact ⟨_, rfl, .inl ((Keeps.of_same le).sqL hs)⟩
  | _ => cases h
def fSortedI (d : D) : Option D := (seqInts d).map fun ns => .lst ((sortI ns).map .int)
theorem cr_sortedSq : CallR X (.builtin "sorted") (rFs X (fn1 fSortedI)) := by
  intro pins s σ H xs us Q I r h
  obtain ⟨x, rfl, F, d, z, le, r1, hf, q⟩ := rFs1 h
  unfold fSortedI at hf
  cases hn : seqInts d with
  | none => rw [hn] at hf; cases hf
  | some ns =>
    rw [hn] at hf; cases hf
    obtain ⟨a, rfl, hs⟩ := seq_ints r1 hn le
    have fin : ∀ {T : String} {o : Obj} {k : Nat} {its : List Value}, T = "list" ∨ T = "tuple" → Vals (ns.map V.int) its → s.heap.get? a = some o → o.cls = .type T → o.data = .seq its.toArray k → (ns.map V.int).length ≤ sizeLine → wpAny (model X.prog X.w) X.A (call (.builtin "sorted") us) (EP X pins σ Q) X.xe s := by
      intro T o k its hT rv ho hc hd hz
      rw [Vals.ref1 r]
      have hi := rv.ints
      refine sorted_seqO SrtO.swo_int hT ho hc hd (by rw [← rv.length]; exact hz) (fun h2 h₁ a' _ => SrtO.ints_sortable hi h2) fun h0 h' p ep out k0 hp k1 he h1 h2 => ?_
      obtain ⟨q1, q2, q3⟩ := SrtO.ints_out hi h1 h2
      have I1 : Inv X pins σ H { s with heap := h0 } := I.kept (t' := s.toks) k0
      have hlen : ((out.map SrtO.iv).map V.int).length ≤ sizeLine := by
        rw [List.length_map, q2.length_eq]
        rw [List.length_map] at hz
        exact hz
      have e : out.map SrtO.iv = sortI ns := sorted_uniq q3 (sortI_sorted ns) (q2.trans (sortI_perm ns).symm)
      have hfree : H p = none := I1.hok.fresh hp
      refine ⟨.ref p, upd H p (.lst ((out.map SrtO.iv).map V.int)), I1.laid (t' := s.toks) k1 hp ⟨hlen, out, ep, vals_of_ints q1, he⟩, rfl, ?_⟩
      rw [e]
      exact q _ _ _ (grow1 hfree) (new_lst hfree le (.of_ints _))
    rcases hs with hs | hs
    · obtain ⟨its, rv, ⟨o, n, ho, hc, hdn, hdt⟩, hz⟩ := I.list hs
      exact fin (.inl rfl) rv ho hc hdt hz
    · obtain ⟨its, rv, ⟨o, ho, hc, n, hdt⟩, hz⟩ := I.tuple hs
      exact fin (.inr rfl) rv ho hc hdt hz
end

/-! ### a dict locked while a loop walks it -/
structure KeepsW (F F' : Hp) : Prop where
  rK : ∀ a kvs, Rd F a (.dK kvs) → Rd F' a (.dK kvs)
  rT : ∀ a kvs, Rd F a (.dT kvs) → Rd F' a (.dT kvs)
  rS : ∀ a S n, Rd F a (.set S n) → Rd F' a (.set S n)
  rL : ∀ a xs, Rd F a (.lst xs) → Rd F' a (.lst xs)
  ls : ∀ a xs, F a = some (.lst xs) → F' a = some (.lst xs)
  tp : ∀ a xs, F a = some (.tup xs) → F' a = some (.tup xs)
  iN : ∀ a C dx fs, F a = some (.ins C dx fs) → F' a = some (.ins C dx fs)
  eX : ∀ a φ, F a = some (.ext φ) → F' a = some (.ext φ)
  fz : ∀ a o xs, F a = some (.frz o (.tup xs)) → F' a = some (.frz o (.tup xs))
mutual
theorem Rep.keepW {K : PySem.W.Frag} {F F' : Hp} (k : KeepsW F F') : ∀ {d : D} {v : V}, Rep K F d v → Rep K F' d v
  | _, _, .non => .non
  | _, _, .bl b => .bl b
  | _, _, .int i => .int i
  | _, _, .str x => .str x
  | _, _, .ty n => .ty n
  | _, _, .fn a => .fn a
  | _, _, .tup h r => .tup (k.tp _ _ h) (Reps.keepW k r)
  | _, _, .ktp h r => .ktp (h.keep k.fz) (Reps.keepW k r)
  | _, _, .lst h r => .lst (k.ls _ _ h) (Reps.keepW k r)
  | _, _, .scr h => .scr (h.imp (k.rL _ _) id)
  | _, _, .dK h r => .dK (k.rK _ _ h) (RepK.keepW k r)
  | _, _, .dT h r => .dT (k.rT _ _ h) (RepT.keepW k r)
  | _, _, .set h nd r => .set (k.rS _ _ _ h) nd r
  | _, _, .ins h r => .ins (k.iN _ _ _ _ h) (RepF.keepW k r)
  | _, _, .stt h hr nd ht => .stt (k.eX _ _ h) hr nd fun p hp => k.tp _ _ (ht p hp)
  | _, _, .clo n h hc => .clo n (k.eX _ _ h) (k.eX _ _ hc)
  | _, _, .cld n h hc hD => .cld n (k.eX _ _ h) (k.eX _ _ hc) (k.tp _ _ hD)
theorem Reps.keepW {K : PySem.W.Frag} {F F' : Hp} (k : KeepsW F F') : ∀ {d : List D} {v : List V}, Reps K F d v → Reps K F' d v
  | _, _, .nil => .nil
  | _, _, .cons h t => .cons (Rep.keepW k h) (Reps.keepW k t)
theorem RepK.keepW {K : PySem.W.Frag} {F F' : Hp} (k : KeepsW F F') : ∀ {d : List (D × D)} {v : List (Key × V)}, RepK K F d v → RepK K F' d v
  | _, _, .nil => .nil
  | _, _, .cons h t => .cons (Rep.keepW k h) (RepK.keepW k t)
theorem RepT.keepW {K : PySem.W.Frag} {F F' : Hp} (k : KeepsW F F') : ∀ {d : List (D × D)} {v : List (List Key × V)}, RepT K F d v → RepT K F' d v
  | _, _, .nil => .nil
  | _, _, .cons h t => .cons (Rep.keepW k h) (RepT.keepW k t)
theorem RepF.keepW {K : PySem.W.Frag} {F F' : Hp} (k : KeepsW F F') : ∀ {d : List (Str × D)} {v : List (Str × V)}, RepF K F d v → RepF K F' d v
  | _, _, .nil => .nil
  | _, _, .cons h t => .cons (Rep.keepW k h) (RepF.keepW k t)
end
def IsDH (u : HO) : Prop := (∃ kvs, u = .dK kvs) ∨ ∃ kvs, u = .dT kvs
theorem IsDH.ntb {u : HO} (h : IsDH u) (ps : Array Value) : u ≠ .tbl ps := fun z => by
  rcases h with ⟨_, e⟩ | ⟨_, e⟩ <;> rw [e] at z <;> cases z
theorem keepsW_lock {F : Hp} {d : Addr} {u : HO} {od : Obj} (h : F d = some u) (hu : IsDH u) : KeepsW F (upd F d (.frz od u)) := by
  have rd : ∀ a w, Rd F a w → Rd (upd F d (.frz od u)) a w := fun a w r => by
    by_cases z : a = d
    · subst z
      rcases r with r | ⟨o, r⟩
      · rw [h] at r; cases r; exact .inr ⟨od, upd_same⟩
      · rw [h] at r; cases r
        rcases hu with ⟨_, q⟩ | ⟨_, q⟩ <;> cases q
    · rcases r with r | ⟨o, r⟩
      · exact .inl (by rw [upd_ne z]; exact r)
      · exact .inr ⟨o, by rw [upd_ne z]; exact r⟩
  have ne : ∀ {a w}, F a = some w → (∀ kvs, w ≠ .dK kvs) → (∀ kvs, w ≠ .dT kvs) → a ≠ d := fun {a w} q h1 h2 z => by
    subst z
    rw [h] at q; cases q
    rcases hu with ⟨_, q⟩ | ⟨_, q⟩
    · exact h1 _ q
    · exact h2 _ q
  exact ⟨fun a _ => rd a _, fun a _ => rd a _, fun a _ _ => rd a _, fun a _ => rd a _, fun a xs q => by rw [upd_ne (ne q (fun _ z => by cases z) (fun _ z => by cases z))]; exact q, fun a xs q => by rw [upd_ne (ne q (fun _ z => by cases z) (fun _ z => by cases z))]; exact q, fun a C dx fs q => by rw [upd_ne (ne q (fun _ z => by cases z) (fun _ z => by cases z))]; exact q, fun a φ q => by rw [upd_ne (ne q (fun _ z => by cases z) (fun _ z => by cases z))]; exact q, fun a o xs q => by rw [upd_ne (ne q (fun _ z => by cases z) (fun _ z => by cases z))]; exact q⟩
theorem keepsW_unlock {F : Hp} {d : Addr} {u : HO} {od : Obj} (h : F d = some (.frz od u)) (hu : IsDH u) : KeepsW F (upd F d u) := by
  have rd : ∀ a w, (∀ o x, w ≠ .frz o x) → Rd F a w → Rd (upd F d u) a w := fun a w nf r => by
    by_cases z : a = d
    · subst z
      rcases r with r | ⟨o, r⟩
      · rw [h] at r; cases r; exact absurd rfl (nf _ _)
      · rw [h] at r; cases r; exact .inl upd_same
    · rcases r with r | ⟨o, r⟩
      · exact .inl (by rw [upd_ne z]; exact r)
      · exact .inr ⟨o, by rw [upd_ne z]; exact r⟩
  have ne : ∀ {a w}, F a = some w → (∀ o x, w ≠ .frz o x) → a ≠ d := fun {a w} q nf z => by
    subst z
    rw [h] at q; cases q
    exact nf _ _ rfl
  exact ⟨fun a _ => rd a _ (fun _ _ z => by cases z), fun a _ => rd a _ (fun _ _ z => by cases z), fun a _ _ => rd a _ (fun _ _ z => by cases z), fun a _ => rd a _ (fun _ _ z => by cases z), fun a xs q => by rw [upd_ne (ne q (fun _ _ z => by cases z))]; exact q, fun a xs q => by rw [upd_ne (ne q (fun _ _ z => by cases z))]; exact q, fun a C dx fs q => by rw [upd_ne (ne q (fun _ _ z => by cases z))]; exact q, fun a φ q => by rw [upd_ne (ne q (fun _ _ z => by cases z))]; exact q, fun a o xs q => by
    by_cases z : a = d
    · subst z
      rw [h] at q; cases q
      rcases hu with ⟨_, q⟩ | ⟨_, q⟩ <;> cases q
    · rw [upd_ne z]; exact q⟩
section
variable {K : PySem.W.Frag} {bs ex : List Addr} {σ : L2.St} {H F : Hp} {e : En}
theorem OwnR.keepW {F' H' : Hp} {d : D} {a : Addr} (k : KeepsW F F') (e : H' a = H a) (h : OwnR K F H d a) : OwnR K F' H' d a := by
  cases h with
  | lst h r => exact .lst (e.trans h) (r.keepW k)
  | dK h r => exact .dK (e.trans h) (r.keepW k)
  | dT h r => exact .dT (e.trans h) (r.keepW k)
  | set h nd r => exact .set (e.trans h) nd r
  | ins h r => exact .ins (e.trans h) (RepF.keepW k r)
theorem StR.swapAt (s : StR K bs ex σ H F e) {d : Addr} {w x : HO} (hF : F d = some w) (k : KeepsW F (upd F d x)) (hx : ∀ ps, x ≠ .tbl ps := by intro _ z; cases z) : StR K bs ex σ (upd H d x) (upd F d x) e := by
  have nd : ∀ a, Hid e.s σ bs ex a → a ≠ d := fun a h z => by
    have := s.hid a h
    rw [z, hF] at this; cases this
  have tb : TabOk (upd H d x) := fun p hp => by
    obtain ⟨ps, h1, h2, h3⟩ := s.tb p hp
    have pd : p.1 ≠ d := fun z => by
      have := s.vis d (s.nhid (z ▸ h1) id)
      rw [hF] at this
      exact (msk_some this.symm).2 ps (Option.some.inj ((msk_some this.symm).1.symm.trans (z ▸ h1)))
    refine ⟨ps, by rw [upd_ne pd]; exact h1, h2, fun pos cv hc => ?_⟩
    obtain ⟨c, e1, e2⟩ := h3 pos cv hc
    refine ⟨c, e1, ?_⟩
    have v := k.eX _ _ (s.visO (s.nhid e2 fun z => z _ _ rfl) e2 LamX.codeO_ne)
    by_cases cd : c = d
    · subst cd
      rw [upd_same] at v ⊢
      exact v
    · rw [upd_ne cd]; exact e2
  refine ⟨s.len, fun i dd h => ?_, fun i dd h => ?_, s.bor, s.inj, s.out, fun a h => ?_, fun a h => ?_, s.bl, fun j dd h => ?_, s.bn, s.bx, fun a h => ?_, tb⟩
  · obtain ⟨v, h1, h2⟩ := s.val i dd h
    exact ⟨v, h1, h2.keepW k⟩
  · obtain ⟨a, h1, h2⟩ := s.own i dd h
    exact ⟨a, h1, h2.keepW k (upd_ne (nd a (.inl ⟨i, dd, h, h1⟩)))⟩
  · rw [upd_ne (nd a h)]; exact s.hid a h
  · by_cases z : a = d
    · subst z; rw [upd_same, msk_at upd_same hx]
    · rw [upd_ne z, msk_congr (upd_ne z)]; exact s.vis a h
  · obtain ⟨a, h1, h2⟩ := s.br j dd h
    exact ⟨a, h1, h2.keepW k (upd_ne (nd a (.inr (.inl (List.mem_of_getElem? h1)))))⟩
  · obtain ⟨o, h1, h2⟩ := s.mu a h
    exact ⟨o, by rw [upd_ne (nd a (.inr (.inr h)))]; exact h1, h2⟩
end
theorem PS.or {X : Cx} {st : Stmt} {t1 t2 : TS} (h1 : PS X st t1) (h2 : PS X st t2) : PS X st (fun D σ H => t1 D σ H ∨ t2 D σ H) := ⟨fun pins s σ H D I h => by
  rcases h with h | h
  · exact h1.run pins s σ H D I h
  · exact h2.run pins s σ H D I h⟩
def keysD : D → Option (List D)
  | .dct kvs => some (kvs.map (·.1))
  | .dcT kvs => some (kvs.map (·.1))
  | _ => none
def noX {α : Type} (f : Ef α) : Ef α := fun e => match f e with
  | .exc _ _ _ => .stuck
  | r => r
section
variable {X : Cx} {E : SK} {ts : List Nat} {tg : Expr} {body : List Stmt} {g : D → Ef Unit} {fb : Ef Fl} {pos px : Pos} {x : Str}
/-- a loop's turns -/
theorem for_core {bs ex : List Addr} {σ : L2.St} {H1 F1 : Hp} {e1 : En} {D : Ends} {ds : List DL.D} {J : It} (s1 : StR X.K bs ex σ H1 F1 e1) (w : WalkD X.K J ds F1) (p1 : PostS X.K E bs ex H1 F1 (loopF g fb ds e1) fun fl _ σ' H' F' => FlP X.K D fl σ' H' F') :
    ∃ W : Nat → Nat → L2.St → Hp → Prop, (∃ m, W 0 m σ H1) ∧ ∀ i m σ H, W i m σ H → (J.stop i H ∧ D.nx σ H) ∨ (J.go i H ∧ ∃ N : L2.St → Hp → Prop, (∀ σ' H', N σ' H' → ∃ m', m' < m ∧ W (i + 1) m' σ' H') ∧
      ∀ x H', J.yld i H x H' → tDG X.K E ts g x σ H' fun σ2 H2 => tDS X.K E fb { D with nx := N, ct := N, bk := D.nx } σ2 H2) := by
  refine ⟨fun i m σ' H' => i ≤ ds.length ∧ m = ds.length - i ∧ ∃ F' e', StR X.K bs ex σ' H' F' e' ∧ Same F1 F' ∧ PostS X.K E bs ex H' F' (loopF g fb (ds.drop i) e') fun fl _ σ' H' F' => FlP X.K D fl σ' H' F',
    ⟨ds.length, Nat.zero_le _, rfl, F1, e1, s1, Same.refl _, p1⟩, ?_⟩
  rintro i m σ' H' ⟨hi, rfl, F', e', s', k', p'⟩
  by_cases hlt : i < ds.length
  · have hd : ds[i]? = some ds[i] := List.getElem?_eq_getElem hlt
    rw [List.drop_eq_getElem_cons hlt] at p'
    refine .inr ⟨w.go i H' hlt (k'.trans s'.le), fun σ2 H2 => ∃ F2 e2, StR X.K bs ex σ2 H2 F2 e2 ∧ Same F1 F2 ∧ PostS X.K E bs ex H2 F2 (loopF g fb (ds.drop (i + 1)) e2) fun fl _ σ' H' F' => FlP X.K D fl σ' H' F',
      fun σ2 H2 ⟨F2, e2, s2, k2, p2⟩ => ⟨ds.length - (i + 1), by omega, hlt, rfl, F2, e2, s2, k2, p2⟩, fun x H2 y => ?_⟩
    obtain ⟨F2, gr, r⟩ := w.next hd k' s' y
    obtain ⟨s2, st2⟩ := s'.grow gr
    refine ⟨bs, ex, F2, e', _, s2, r, (p'.shift st2).bnd.imp fun _ e3 σ3 H3 F3 _ s3 st3 p3 _ => ?_⟩
    refine ⟨bs, ex, F3, e3, s3, p3.bnd.imp fun fl e4 σ4 H4 F4 _ s4 st4 p4 => ?_⟩
    have k4 := ((k'.trans st2.1).trans st3.1).trans st4.1
    cases fl with
    | nx => exact ⟨F4, e4, s4, k4, p4⟩
    | ct => exact ⟨F4, e4, s4, k4, p4⟩
    | bk => exact p4 σ4 H4 F4 s4 (Step.refl _ _ _)
    | rt d => exact p4 σ4 H4 F4 s4 (Step.refl _ _ _)
  · have ei : i = ds.length := by omega
    subst ei
    rw [List.drop_length] at p'
    exact .inl ⟨w.stop H' (k'.trans s'.le), p' σ' H' F' s' (Step.refl _ _ _)⟩
/-- a locked dict's keys, walked -/
theorem walk_K {K : PySem.W.Frag} {F : Hp} {d : Addr} {o : Obj} {kvs : List (Key × V)} {kds : List (DL.D × DL.D)} (h : F d = some (.frz o (.dK kvs))) (r : RepK K F kds kvs) : WalkD K (Itk d o kvs) (kds.map (·.1)) F := by
  have hl : kds.length = kvs.length := r.length
  have key : ∀ {kds : List (DL.D × DL.D)} {kvs : List (Key × V)}, RepK K F kds kvs → ∀ {i : Nat} {dd : DL.D} {k : Key} {v : V}, (kds.map (·.1))[i]? = some dd → kvs[i]? = some (k, v) → dd = keyD k := by
    intro kds kvs r
    induction kvs generalizing kds with
    | nil => intro i dd k v _ h2; simp at h2
    | cons p t ih =>
      cases r with
      | cons h t' =>
        intro i dd k v h1 h2
        cases i with
        | zero =>
          have e1 := Option.some.inj h1
          have e2 := Option.some.inj h2
          cases e2
          exact e1.symm
        | succ i => exact ih t' h1 h2
  refine ⟨fun i H hi le => ⟨le _ _ h, by rw [← hl]; simpa using hi⟩, fun H le => ⟨le _ _ h, by rw [← hl]; simp⟩, fun i H v H' dd hd le y => ?_⟩
  obtain ⟨rfl, k, v', h1, rfl⟩ := y
  rw [key r hd h1]
  exact .inl ⟨rfl, rep_key k⟩
theorem walk_T {K : PySem.W.Frag} {F : Hp} {d : Addr} {o : Obj} {kvs : List (List Key × V)} {kds : List (DL.D × DL.D)} (h : F d = some (.frz o (.dT kvs))) (r : RepT K F kds kvs) : WalkD K (Itkt d o kvs) (kds.map (·.1)) F := by
  have hl : kds.length = kvs.length := r.length
  have key : ∀ {kds : List (DL.D × DL.D)} {kvs : List (List Key × V)}, RepT K F kds kvs → ∀ {i : Nat} {dd : DL.D} {k : List Key} {v : V}, (kds.map (·.1))[i]? = some dd → kvs[i]? = some (k, v) → dd = keyT k := by
    intro kds kvs r
    induction kvs generalizing kds with
    | nil => intro i dd k v _ h2; simp at h2
    | cons p t ih =>
      cases r with
      | cons h t' =>
        intro i dd k v h1 h2
        cases i with
        | zero =>
          have e1 := Option.some.inj h1
          have e2 := Option.some.inj h2
          cases e2
          exact e1.symm
        | succ i => exact ih t' h1 h2
  refine ⟨fun i H hi le => ⟨le _ _ h, by rw [← hl]; simpa using hi⟩, fun H le => ⟨le _ _ h, by rw [← hl]; simp⟩, fun i H v H' dd hd le y => ?_⟩
  obtain ⟨rfl, k, v', q, h1, rfl, h2⟩ := y
  rw [key r hd h1]
  exact .inr (.inr ⟨rfl, q, k, rfl, rfl, h2⟩)
/-- what is locked is let go at the end -/
theorem unlock_post {bs ex : List Addr} {H F : Hp} {D : Ends} {d : Addr} {u : HO} {od : Obj} {r : Res Fl} (hF : F d = some u) (hu : IsDH u) (hx : ∀ a ∈ ex, a ≠ d) (nx : ∀ c as e, r ≠ .exc c as e) (p : PostS X.K E bs ex H F r fun fl _ σ' H' F' => FlP X.K D fl σ' H' F') :
    PostS X.K E bs ex (upd H d (.frz od u)) (upd F d (.frz od u)) r fun fl _ σ' H' F' => FlP X.K ⟨fun σ' H' => H' d = some (.frz od u) ∧ D.nx σ' (upd H' d u), fun v H' => H' d = some (.frz od u) ∧ D.rt v (upd H' d u), fun σ' H' => H' d = some (.frz od u) ∧ D.bk σ' (upd H' d u), fun σ' H' => H' d = some (.frz od u) ∧ D.ct σ' (upd H' d u)⟩ fl σ' H' F' := by
  cases r with
  | exc c as e => exact absurd rfl (nx c as e)
  | stuck => exact p
  | ok fl e' =>
    intro σ' H' F' s' st
    have f1 : F' d = some (.frz od u) := st.1 _ _ upd_same
    have h1 : H' d = some (.frz od u) := s'.le _ _ f1
    have s2 := s'.swapAt f1 (keepsW_unlock f1 hu) hu.ntb
    have st2 : Step ex H F (upd H' d u) (upd F' d u) := ⟨fun b o q => by
      by_cases z : b = d
      · subst z; rw [hF] at q; cases q; exact upd_same
      · rw [upd_ne z]; exact st.1 b o (by rw [upd_ne z]; exact q), fun a ha => by
      rw [upd_ne (hx a ha), st.2 a ha, upd_ne (hx a ha)]⟩
    have q := p σ' _ _ s2 st2
    cases fl with
    | nx => exact ⟨h1, q⟩
    | bk => exact ⟨h1, q⟩
    | ct => exact ⟨h1, q⟩
    | rt dd => exact fun v r => ⟨h1, q v (r.keepW (keepsW_unlock f1 hu))⟩
end

/-! ### d[k] = v -/
def hasK (kk : Key) (kds : List (D × D)) : Bool := kds.any fun p => decide (keyM p.1 = some kk)
def hasT (kk : List Key) (kds : List (D × D)) : Bool := kds.any fun p => decide (keysM p.1 = some kk)
def putDK (kds : List (D × D)) (kk : Key) (v : D) : List (D × D) := if hasK kk kds = true then kds.map (fun p => if keyM p.1 = some kk then (p.1, v) else p) else kds ++ [(keyD kk, v)]
def putDT (kds : List (D × D)) (kk : List Key) (v : D) : List (D × D) := if hasT kk kds = true then kds.map (fun p => if keysM p.1 = some kk then (p.1, v) else p) else kds ++ [(keyT kk, v)]
section
variable {K : PySem.W.Frag} {F : Hp}
theorem RepK.any (kk : Key) : ∀ {kds : List (D × D)} {kvs : List (Key × V)}, RepK K F kds kvs → hasK kk kds = kvs.any fun kv => decide (kv.1 = kk)
  | _, _, .nil => rfl
  | _, _, .cons (k := k) h t => by
    unfold hasK
    rw [List.any_cons, List.any_cons, keyM_keyD]
    have := RepK.any kk t
    unfold hasK at this
    rw [this]
    simp
theorem RepT.any (kk : List Key) : ∀ {kds : List (D × D)} {kvs : List (List Key × V)}, RepT K F kds kvs → hasT kk kds = kvs.any fun kv => decide (kv.1 = kk)
  | _, _, .nil => rfl
  | _, _, .cons (k := k) h t => by
    unfold hasT
    rw [List.any_cons, List.any_cons, keysM_keyT]
    have := RepT.any kk t
    unfold hasT at this
    rw [this]
    simp
theorem RepK.append {kds kes : List (D × D)} {kvs kws : List (Key × V)} (h : RepK K F kds kvs) (h2 : RepK K F kes kws) : RepK K F (kds ++ kes) (kvs ++ kws) := by
  induction kvs generalizing kds with
  | nil => cases h; exact h2
  | cons p t ih => cases h with | cons a b => exact .cons a (ih b)
theorem RepT.append {kds kes : List (D × D)} {kvs kws : List (List Key × V)} (h : RepT K F kds kvs) (h2 : RepT K F kes kws) : RepT K F (kds ++ kes) (kvs ++ kws) := by
  induction kvs generalizing kds with
  | nil => cases h; exact h2
  | cons p t ih => cases h with | cons a b => exact .cons a (ih b)
theorem RepK.repl {kk : Key} {d : D} {v : V} (r : Rep K F d v) : ∀ {kds : List (D × D)} {kvs : List (Key × V)}, RepK K F kds kvs → RepK K F (kds.map fun p => if keyM p.1 = some kk then (p.1, d) else p) (kvs.map fun kv => if kv.1 = kk then (kv.1, v) else kv)
  | _, _, .nil => .nil
  | _, _, .cons (k := k) h t => by
    rw [List.map_cons, List.map_cons, keyM_keyD]
    by_cases e : k = kk
    · rw [if_pos (by rw [e]), if_pos e]
      exact .cons r (RepK.repl r t)
    · rw [if_neg (fun z => e (Option.some.inj z)), if_neg e]
      exact .cons h (RepK.repl r t)
theorem RepT.repl {kk : List Key} {d : D} {v : V} (r : Rep K F d v) : ∀ {kds : List (D × D)} {kvs : List (List Key × V)}, RepT K F kds kvs → RepT K F (kds.map fun p => if keysM p.1 = some kk then (p.1, d) else p) (kvs.map fun kv => if kv.1 = kk then (kv.1, v) else kv)
  | _, _, .nil => .nil
  | _, _, .cons (k := k) h t => by
    rw [List.map_cons, List.map_cons, keysM_keyT]
    by_cases e : k = kk
    · rw [if_pos (by rw [e]), if_pos e]
      exact .cons r (RepT.repl r t)
    · rw [if_neg (fun z => e (Option.some.inj z)), if_neg e]
      exact .cons h (RepT.repl r t)
theorem RepK.put {kk : Key} {d : D} {v : V} {kds : List (D × D)} {kvs : List (Key × V)} (h : RepK K F kds kvs) (r : Rep K F d v) : RepK K F (putDK kds kk d) (putK kvs kk v) := by
  unfold putDK putK
  rw [h.any kk]
  split
  · exact h.repl r
  · exact h.append (.cons r .nil)
theorem RepT.put {kk : List Key} {d : D} {v : V} {kds : List (D × D)} {kvs : List (List Key × V)} (h : RepT K F kds kvs) (r : Rep K F d v) : RepT K F (putDT kds kk d) (putK kvs kk v) := by
  unfold putDT putK
  rw [h.any kk]
  split
  · exact h.repl r
  · exact h.append (.cons r .nil)
end
/-- o[k] = v of a list or a dict -/
def fPut (d k v : D) : Option D := match d with
  | .lst _ => fPutL d k v
  | .dct kds => match keyM k with
    | some kk => if kds.length < big then some (.dct (putDK kds kk v)) else none
    | none => none
  | .dcT kds => match keysM k with
    | some kk => if kds.length < big then some (.dcT (putDT kds kk v)) else none
    | none => none
  | _ => none
theorem se_any {X : Cx} (hu : X.A.units + 1 < cLine) : PSet X (rSe X fPut) := by
  intro pins s σ H o i v ov iv u Q I ro ri rv ⟨a, F, d, dk, dv, d', ex, hF, le, ow, rk, rdv, hf, q⟩
  subst ex
  cases ow with
  | lst hl rl => exact se_list pins s σ H _ i v ov iv u Q I ro ri rv ⟨a, F, _, dk, dv, d', rfl, hF, le, .lst hl rl, rk, rdv, hf, q⟩
  | @dK _ kvs kds hl rl =>
    unfold fPut at hf
    dsimp only at hf
    cases hk : keyM dk with
    | none => rw [hk] at hf; cases hf
    | some kk =>
      rw [hk] at hf
      dsimp only at hf
      split at hf
      · rename_i hb
        cases hf
        have ed := keyM_eq hk
        subst ed
        have ei : i = kV kk := by
          cases kk with
          | inl j => cases rk; rfl
          | inr z => cases rk; rfl
        subst ei
        exact set_dict hu pins s σ H _ _ v ov iv u Q I ro ri rv ⟨a, _, rfl, DPut.k hl (big_line' (by rw [← rl.length]; exact Nat.le_of_lt hb)), q _ (.dK upd_same (rl.put rdv))⟩
      · cases hf
  | @dT _ kvs kds hl rl =>
    unfold fPut at hf
    dsimp only at hf
    cases hk : keysM dk with
    | none => rw [hk] at hf; cases hf
    | some kk =>
      rw [hk] at hf
      dsimp only at hf
      split at hf
      · rename_i hb
        cases hf
        have ed := keysM_eq hk
        subst ed
        cases rk with
        | tup ht rs =>
          have := rep_keys rs
          subst this
          exact set_dict hu pins s σ H _ _ v ov iv u Q I ro ri rv ⟨a, _, rfl, DPut.t hl (le _ _ ht) (big_line' (by rw [← rl.length]; exact Nat.le_of_lt hb)), q _ (.dT upd_same (rl.put rdv))⟩
      · cases hf
  | set hl nd r => cases hf
  | ins hl r => cases hf
/-! ### {} -/
def eDct0 (t : Bool) : Ef D := rtn (if t = true then .dcT [] else .dct [])
theorem dn_dct0 {X : Cx} {E : SK} {pos : Pos} : DN X E (.Dict [] [] pos) (eDct0 false) := by
  refine ⟨PE.imp pe_dnewK ?_⟩
  rintro σ H Q ⟨bs, ex, F, e, s, p⟩
  intro a ha
  obtain ⟨s2, st2⟩ := s.alloc (o := .dK []) ha trivial
  exact p a _ _ s2 st2 (s.nex ha) (.dK upd_same .nil)
theorem dn_dcT0 {X : Cx} {E : SK} {pos : Pos} : DN X E (.Dict [] [] pos) (eDct0 true) := by
  refine ⟨PE.imp pe_dnewT ?_⟩
  rintro σ H Q ⟨bs, ex, F, e, s, p⟩
  intro a ha
  obtain ⟨s2, st2⟩ := s.alloc (o := .dT []) ha trivial
  exact p a _ _ s2 st2 (s.nex ha) (.dT upd_same .nil)

/-! ### d.get(k), d.get(k, x) -/
def getD1 (d k : D) : Option D := (fGetO d k).map fun o => o.getD .non
def getD2 (d k x : D) : Option D := (fGetO d k).map fun o => o.getD x
/-- a dict, whatever its keys -/
def asDct (d : D) : Ef Unit := fun e => match d with
  | .dct _ => .ok () e
  | .dcT _ => .ok () e
  | _ => .stuck
def eGet1 (f g : Ef D) : Ef D := bnd f fun d => bnd (asDct d) fun _ => bnd g fun k => lift (getD1 d k)
def eGet2 (f g h : Ef D) : Ef D := bnd f fun d => bnd (asDct d) fun _ => bnd g fun k => bnd h fun x => lift (getD2 d k x)
/-- the slot's object -/
def eGet1S (i : Nat) (g : Ef D) : Ef D := bnd (rdV i) fun d0 => bnd (asDct d0) fun _ => bnd g fun k => bnd (rdV i) fun d => lift (getD1 d k)
def eGet2S (i : Nat) (g h : Ef D) : Ef D := bnd (rdV i) fun d0 => bnd (asDct d0) fun _ => bnd g fun k => bnd h fun x => bnd (rdV i) fun d => lift (getD2 d k x)
section
variable {X : Cx} {E : SK} {a b c : Expr} {f g h : Ef D} {pos p py apos cpos : Pos} {y : Str}
theorem asDct_post {K : PySem.W.Frag} {bs ex : List Addr} {σ : L2.St} {H F : Hp} {e : En} {d : D} {P : Unit → En → Hp → Hp → Prop} (s : StR K bs ex σ H F e) (q : Post K E bs ex σ H F (asDct d e) P) : ((∃ kvs, d = .dct kvs) ∨ ∃ kvs, d = .dcT kvs) ∧ P () e H F := by
  unfold asDct at q
  cases d <;> first | exact q.elim | skip
  · exact ⟨.inl ⟨_, rfl⟩, q.rtn s⟩
  · exact ⟨.inr ⟨_, rfl⟩, q.rtn s⟩
theorem isD_see {K : PySem.W.Frag} {F H : Hp} {d : D} {v : V} (le : Same F H) (r : See K F H d v) (hd : (∃ kvs, d = .dct kvs) ∨ ∃ kvs, d = .dcT kvs) : ∃ a, v = .ref a ∧ IsD H a := by
  rcases hd with ⟨kvs, rfl⟩ | ⟨kvs, rfl⟩
  · obtain ⟨a, kvs, rfl, h, _⟩ := see_dK le r
    exact ⟨a, rfl, .inl ⟨_, h⟩⟩
  · obtain ⟨a, kvs, rfl, h, _⟩ := see_dT le r
    exact ⟨a, rfl, .inr ⟨_, h⟩⟩
theorem get_q {K : PySem.W.Frag} {F : Hp} {z : Option D} {o : Option V} {x : D} {w : V} (h : (∃ e w, z = some e ∧ o = some w ∧ Rep K F e w) ∨ (z = none ∧ o = none)) (r : Rep K F x w) : Rep K F (z.getD x) (o.getD w) := by
  rcases h with ⟨e, w', rfl, rfl, r'⟩ | ⟨rfl, rfl⟩
  · exact r'
  · exact r
theorem de_get2S (hu : X.A.units + 1 < cLine) (i : Nat) (hb : DE X E b g) (hc : DE X E c h) (hN : X.N[i]? = some y := by rfl)
    (hv : Vis X.env.scope y := by first | exact Or.inl rfl | exact Or.inr (Or.inl rfl) | exact Or.inr (Or.inr rfl)) (hdy : (y == ("__debug__" : Str)) = false := by decide) (hcd : (y == ("__classdict__" : Str)) = false := by decide)
    (hbase : attributeBase (.Name y py) "get" X.env (eval (.Name y py) X.env) = eval (.Name y py) X.env := by rfl)
    (hfew : ((backTo cpos (starEach [b, c] X.env)).all (fun x => !x.1) && (backToKw cpos (keywordEach [] X.env)).all (fun x => x.1.isSome)
      && decide (([b, c] : List Expr).length + ([] : List Keyword).length + (if ([] : List Keyword).isEmpty then 0 else 1) < 30)) = true := by rfl) (hline : (apos.endLine == cpos.line) = true := by rfl)
    (htr : backTo cpos (starEach [b, c] X.env) = [(false, eval b X.env), (false, eval c X.env)] := by rfl) : DE X E (.Call (.Attribute (.Name y py) "get" apos) [b, c] [] cpos) (eGet2S i g h) := by
  refine ⟨PE.imp (pe_dget2 hu (pv i hN hv hdy hcd) hb.pe hc.pe ⟨hbase, hfew, hline, htr⟩) ?_⟩
  rintro σ H Q ⟨bs, ex, F, e, s, p⟩
  obtain ⟨w, d0, h1, h2, p1⟩ := rdV_post s p.bnd
  obtain ⟨hd, p2⟩ := asDct_post s p1.bnd
  obtain ⟨a', rfl, isd⟩ := isD_see s.le h2 hd
  refine ⟨_, h1, a', rfl, isd, bs, ex, F, e, s, p2.bnd.imp fun k e2 H2 F2 _ s2 st2 p3 kv rk => ⟨bs, ex, F2, e2, s2, p3.bnd.imp fun x e3 H3 F3 _ s3 st3 p4 xv rx => ?_⟩⟩
  obtain ⟨w', d, h3, h4, p5⟩ := rdV_post s3 p4.bnd
  rw [h1] at h3; cases h3
  obtain ⟨z, hz, q⟩ := p5.lift
  obtain ⟨o, ho, rfl⟩ := Option.map_eq_some_iff.mp hz
  obtain ⟨a2, o2, e, gg, _, hh⟩ := get_see s3.le h4 (rk.same st3.1) ho
  cases e
  exact ⟨o2, gg, q H3 F3 s3 (Step.refl _ _ _) _ (get_q hh rx)⟩
end

/-! ### {k: v}, the key a tuple -/
def tDispT (trs : List (TE × TE)) : TE := fun σ H Q => ∀ p, H p = none → tPairs trs σ (upd H p (.dT [])) fun ps H2 => H2 p = some (.dT []) ∧ ∃ (k : List Key) (b : Addr) (y : V), ps = [(.ref b, y)] ∧ H2 b = some (.tup (k.map kV)) ∧ Q (.ref p) (upd H2 p (.dT [(k, y)]))
theorem pe_dispT {X : Cx} {pos : Pos} {keys : List (Option Expr)} {values : List Expr} {trs : List (TE × TE)} (hu : X.A.units + 1 < cLine) (h : PPs X pos keys values trs) (hall : keys.all (·.isSome) = true) (hl : keys.length = values.length) (h0 : keys ≠ [])
    (h15 : keys.length ≤ 15) : PE X (.Dict keys values pos) (tDispT trs) := by
  refine ⟨fun pins s σ H Q I q => ?_⟩
  have hn := I.hok.fresh (Nat.le_refl s.heap.objs.size)
  have I1 := I.laid (a := s.heap.objs.size) (o := .dT []) (h' := s.heap.push { cls := .type "dict", data := .dict #[] }) (t' := s.toks) (fun _ _ q => Heap.get?_push_of_some _ q) (Nat.le_refl _) (dt_empty s.heap I.big)
  have hlen := pairTrees_length keys values X.env pos hall hl
  rw [arm_eval_Dict, zip_pairTrees keys values X.env pos hall hl, dictDisplay_pairs (pairTrees keys values X.env pos) (fun e => h0 (List.length_eq_zero_iff.mp (by rw [← hlen, e]; rfl))) (by omega)]
  refine wpAny_bind (wpAny_standAt (wpAny_bind (wpAny_subDictH (knd := tupleKind (mixKind X.prog X.w)) (Q := fun d s' => wpAny (model X.prog X.w) X.A (pure (Value.ref d)) (EP X pins σ Q) X.xe s') (by show X.A.units < cLine; omega) (by omega) ?_)))
  refine thn (h.run pins _ σ _ _ I1 (q _ hn)) fun ws s2 ⟨ps, H2, I2, rel, e, k, b, y, ep, hb, q2⟩ => ?_
  subst ep
  cases rel with
  | @cons _ w _ _ r t =>
    cases t
    obtain ⟨w1, w2⟩ := w
    obtain ⟨r1, r2⟩ := r
    obtain rfl : w1 = Value.ref b := r1
    obtain ⟨z, hd, xs0, r0, dd⟩ := dt_of I2.hok e
    cases r0
    have hk : (tupleKind (mixKind X.prog X.w)).is s2.heap k b := key_of I2.hok hb
    refine ⟨[(k, b, w2)], ⟨rfl, rfl, hk, trivial⟩, dd, fun h' tk dd' hs => wpAny_pure ⟨.ref s.heap.objs.size, _, ?_, rfl, q2⟩⟩
    have he : ∃ q, h'.get? s.heap.objs.size = some q := let ⟨q, _, _, hq, _⟩ := dd'; ⟨q, hq⟩
    obtain ⟨o', es, epp, g1, g2, g3, g4, _, g5⟩ := dd'
    refine d_write I2 (by rw [e]; exact True.intro) hs he ⟨by show 1 ≤ _; decide, hd, [(k, b, w2)], .cons ⟨rfl, ?_, r2⟩ .nil, o', es, epp, g1, g2, g3, g4, g5⟩
    rw [upd_ne (ne_of hb e (fun z => nomatch z))]
    exact hb
def eDct1 (f g : Ef D) : Ef D := bnd f fun k => bnd g fun v => lift (if (keysM k).isSome = true then some (.dcT [(k, v)]) else none)
section
variable {X : Cx} {E : SK} {a b c : Expr} {f g h : Ef D} {pos p py apos cpos : Pos} {y : Str}
/-- an exception while a new object is being made -/
theorem exc_new {K : PySem.W.Frag} {bs ex : List Addr} {σ : L2.St} {H F H' F' : Hp} {e : En} {d : Addr} {o : HO} {dd : D} {as : List D} {dx : Option Addr} {G : Option Addr → Hp → Prop} (nD : d ∉ ex) (hn : H d = none)
    (p : ∀ dx H' F', StR K bs ex σ H' F' e → Step ex H F H' F' → ExcR K F' as dx → G dx H') (s : StR K bs (d :: ex) σ H' F' e) (st : Step (d :: ex) (upd H d o) F H' F') (x : ExcR K F' as dx) (ow : OwnR K F' H' dd d) : G dx H' := by
  obtain ⟨F2, s2, st2, _⟩ := s.release ow nD
  refine p dx H' F2 s2 ⟨st.1.trans st2.1, fun a ha => ?_⟩ (x.same st2.1)
  rw [st.2 a (List.mem_cons_of_mem _ ha)]
  exact upd_ne (fun z : a = d => nD (by rw [← z]; exact ha))
theorem dn_dct1 (hu : X.A.units + 1 < cLine) (ha : DE X E a f) (hb : DE X E b g) : DN X E (.Dict [some a] [b] pos) (eDct1 f g) := by
  refine ⟨PE.imp (pe_dispT hu (pps_cons ha.pe hb.pe pps_nil) rfl rfl (by simp) (by simp)) ?_⟩
  rintro σ H Q ⟨bs, ex, F, e, s, p⟩
  intro d hd
  obtain ⟨s0, st0⟩ := s.alloc (o := .dT []) hd trivial
  have nD : d ∉ ex := s.nex hd
  have at0 : ∀ {H' F'}, Step (d :: ex) (upd H d (.dT [])) F H' F' → H' d = some (.dT []) := fun st => by rw [st.2 d List.mem_cons_self, upd_same]
  refine ⟨bs, d :: ex, F, e, s0, ?_⟩
  unfold eDct1 DL.bnd at p
  generalize f e = r at p ⊢
  cases r with
  | stuck => exact p
  | exc c as e' => exact fun dx H' F' s' st x => exc_new (dd := .dcT []) (G := E σ (.ref c)) nD hd p s' st x (.dT (at0 st) .nil)
  | ok k e1 =>
    intro H1 F1 s1 st1 kv rk
    refine ⟨bs, d :: ex, F1, e1, s1, ?_⟩
    dsimp only at p
    generalize g e1 = r at p ⊢
    cases r with
    | stuck => exact p
    | exc c as e' => exact fun dx H' F' s' st x => exc_new (dd := .dcT []) (G := E σ (.ref c)) nD hd p s' (st1.trans st) x (.dT (at0 (st1.trans st)) .nil)
    | ok v e2 =>
      intro H2 F2 s2 st2 vv rv
      dsimp only at p
      obtain ⟨z, hz, q⟩ := PostN.lift p
      split at hz
      · rename_i hk
        cases hz
        obtain ⟨ks, hks⟩ := Option.isSome_iff_exists.mp hk
        have ek := keysM_eq hks
        subst ek
        have hd2 := at0 (st1.trans st2)
        cases rk with
        | @tup b xs _ hb rs =>
          have := rep_keys rs
          subst this
          refine ⟨hd2, ks, b, vv, rfl, s2.le _ _ (st2.1 _ _ hb), ?_⟩
          obtain ⟨s3, st3⟩ := s2.writeEx (o := .dT [(ks, vv)]) trivial nD
          have stt := (st1.trans st2).trans ⟨Same.refl F2, fun a (ha : a ∈ d :: ex) => rfl⟩
          refine q d _ _ s3 ⟨(st1.trans st2).1, fun a ha => ?_⟩ nD (.dT upd_same (.cons rv .nil))
          rw [st3.2 a ha, (st1.trans st2).2 a (List.mem_cons_of_mem _ ha)]
          exact upd_ne (fun z : a = d => nD (by rw [← z]; exact ha))
      · cases hz
end

/-! ### dict(d), keys tuples -/
section
variable {prog : Program} {w : World} {K : Type} [DecidableEq K] {kn : KeyKind prog w K} {A : Around} {E : Value → Shared → Prop} {s : Shared}
theorem call_dictH {o : Addr} {more : List (List K × Addr × Value)} {Q : Value → Shared → Prop} (hu : (tupleKind kn).room A.in1.in1) (hoS : (o == sysModules) = false) (ho : s.heap.DictOfH (tupleKind kn) o more) (hsz : more.length ≤ sizeLine)
    (hty : ∀ x ∈ more, s.TypeIs (.ref x.2.1) "tuple") (hap : (more.map fun x => (tupleKind kn).hash x.1).Nodup)
    (h : ∀ h', h'.DictOfH (tupleKind kn) s.heap.objs.size more → Heap.SameBut s.heap.objs.size (s.heap.push { cls := .type "dict", data := .dict #[] }) h' → Q (.ref s.heap.objs.size) { s with heap := h' }) :
    wpAny (model prog w) A (call (.type "dict") [.ref o]) Q E s := by
  refine callType_codes (Q₁ := fun obj s₁ => obj = .ref s.heap.objs.size ∧ s₁ = { s with heap := s.heap.push { cls := .type "dict", data := .dict #[] } }) F.kt_called_dict (F.kt_typeCall_dict_1 _) F.entry_dict_init (kt_code_dict_new _ ⟨rfl, rfl⟩) ?_
  rintro obj s₁ ⟨rfl, rfl⟩
  have hnew : (s.heap.push { cls := .type "dict", data := .dict #[] }).DictOfH (tupleKind kn) s.heap.objs.size [] := ⟨_, #[], 0, Heap.get?_push_size _ rfl, ⟨rfl, rfl, rfl⟩, rfl, rfl, (fun _ hx => nomatch hx), List.nodup_nil⟩
  have ho' : (s.heap.push { cls := .type "dict", data := .dict #[] }).DictOfH (tupleKind kn) o more := by
    obtain ⟨oo, es, ep, h1, h2, h3, h4, h5, h6⟩ := id ho
    refine ⟨oo, es, ep, Heap.get?_push_of_some _ h1, h2, h3, h4, fun x hx => ?_, h6⟩
    obtain ⟨ox, its, n, g1, g2, g3, g4⟩ := h5 x hx
    exact ⟨ox, its, n, Heap.get?_push_of_some _ g1, g2, g3, g4⟩
  have hn : (more.map (·.1)).Nodup := ho.nodup
  have hdo : s.heap.objs.size ≠ o := by
    obtain ⟨_, _, _, hg, _⟩ := ho
    exact fun e => absurd (Heap.lt_size hg) (by rw [e]; exact Nat.lt_irrefl _)
  refine ⟨hnew.typeIs, F.args_dict_init_2 _ _, ?_⟩
  unfold Builtin.«dict.__init__»
  refine wpAny_bind ?_
  unfold Builtin.Dict.selfAndRest
  refine wpAny_bind (wpAny_notOrdered_dict hnew.typeIs ?_)
  show wpAny _ _ (pure (s.heap.objs.size, [Value.ref o])) _ _ _
  refine wpAny_pure ?_
  show wpAny _ _ (Builtin.Dict.updateFrom "dict.__init__" s.heap.objs.size (.ref o) [] .none) _ _ _
  refine updateFrom_dictH .none hu hdo hoS hnew ho' (.inr ⟨fun x hx => ?_, hap⟩) (by simpa using hsz) fun h' hd' _ hs' => ?_
  · obtain ⟨oo, h1, h2⟩ := hty x hx
    exact ⟨oo, Heap.get?_push_of_some _ h1, h2⟩
  · rw [storedAllH_nil_of_nodup more hn] at hd'
    exact ⟨rfl, h h' hd' hs'⟩
end
/-- the hash of a tuple of ints -/
def hashT (ns : List Int) : Int := reduceHash (Builtin.Tuple.tupleHashOf (ns.map hashInt))
def keysI (ks : List Key) : Option (List Int) := match ks with
  | [] => some []
  | .inl i :: r => (keysI r).map (i :: ·)
  | .inr _ :: _ => none
theorem keysI_eq : ∀ {ks : List Key} {ns : List Int}, keysI ks = some ns → ks = ns.map .inl
  | [], ns, h => by cases h; rfl
  | .inr x :: _, ns, h => by cases h
  | .inl i :: r, ns, h => by
    unfold keysI at h
    cases hr : keysI r with
    | none => rw [hr] at h; cases h
    | some ms => rw [hr] at h; cases h; rw [keysI_eq hr]; rfl
/-- the key's ints -/
def rowI (d : D) : Option (List Int) := (keysM d).bind keysI
def rowsI0 : List (D × D) → Option (List (List Int))
  | [] => some []
  | p :: r => match rowI p.1, rowsI0 r with
    | some ns, some l => some (ns :: l)
    | _, _ => none
/-- the keys' hashes differ -/
def apartD (kds : List (D × D)) : Bool := match rowsI0 kds with
  | some l => decide (l.map hashT).Nodup
  | none => false
theorem RepT.rows {K : PySem.W.Frag} {F : Hp} : ∀ {kds : List (D × D)} {kvs : List (List Key × V)} {l : List (List Int)}, RepT K F kds kvs → rowsI0 kds = some l → kvs.map (·.1) = l.map fun ns => ns.map Sum.inl
  | _, _, l, .nil, h => by cases h; rfl
  | _, _, l, .cons (k := k) h t, e => by
    unfold rowsI0 at e
    dsimp only at e
    cases h1 : rowI (keyT k) with
    | none => rw [h1] at e; cases e
    | some ns =>
      rw [h1] at e
      cases h2 : rowsI0 _ with
      | none => rw [h2] at e; cases e
      | some l' =>
        rw [h2] at e; cases e
        rw [List.map_cons, List.map_cons, RepT.rows t h2]
        congr 1
        unfold rowI at h1
        rw [keysM_keyT] at h1
        exact keysI_eq h1
theorem hash_rows {P : Program} {w : World} (l : List (List Int)) : ((l.map fun ns => ns.map (Sum.inl : Int → Key)).map (tupleKind (mixKind P w)).hash) = l.map hashT := by
  rw [List.map_map]
  apply List.map_congr_left
  intro ns _
  show reduceHash (Builtin.Tuple.tupleHashOf ((ns.map Sum.inl).map (keyH w))) = _
  rw [List.map_map]
  rfl
def fCopyD : D → Option D
  | .dct kds => some (.dct kds)
  | .dcT kds => if apartD kds = true then some (.dcT kds) else none
  | _ => none
section
variable {X : Cx} {E : SK} {a b : Expr} {f g : Ef D} {pos p : Pos}
theorem call_dictT (hu : X.A.units + 2 < cLine) : CallR X (.type "dict") (fun xs H Q => ∃ (a : Addr) (kvs : List (List Key × V)) (l : List (List Int)), xs = [.ref a] ∧ Rd H a (.dT kvs) ∧ kvs.map (·.1) = l.map (fun ns => ns.map Sum.inl) ∧ (l.map hashT).Nodup ∧ ∀ p, H p = none → Q (.ref p) (upd H p (.dT kvs))) := by
  intro pins s σ H xs us Q I r q
  obtain ⟨a, kvs, l, ex, hd, hl, hn, q⟩ := q
  subst ex
  obtain ⟨u, eu, rx⟩ := vals1 r
  subst eu
  cases rx
  obtain ⟨z, lo, vs, rel, dd⟩ := dt_rd I.hok hd
  have hkey : vs.map (·.1) = kvs.map (·.1) := by
    clear hl dd z q hd
    induction rel with
    | nil => rfl
    | cons h t ih => rw [List.map_cons, List.map_cons, ih, h.1]
  refine call_dictH (kn := mixKind X.prog X.w) (by show X.A.units + 1 + 1 < cLine; omega) lo dd (by rw [← Paired.length rel]; exact z) (fun x hx => ?_) ?_ fun h' d' hs => ?_
  · obtain ⟨o, es, ep, _, _, _, _, h5, _⟩ := dd
    obtain ⟨ox, its, n, g1, g2, g3, g4⟩ := h5 x hx
    exact ⟨ox, g1, g2⟩
  · have e := hash_rows (P := X.prog) (w := X.w) l
    rw [← hl, ← hkey, List.map_map] at e
    have e2 : (vs.map fun x => (tupleKind (mixKind X.prog X.w)).hash x.1) = l.map hashT := e
    rw [e2]
    exact hn
  · have hm : (s.heap.objs.size == sysModules) = false := beq_eq_false_iff_ne.mpr (Nat.ne_of_gt I.big)
    have hf := I.hok.fresh (Nat.le_refl s.heap.objs.size)
    obtain ⟨o', es, epp, g1, g2, g3, g4, _, g5⟩ := d'
    exact ⟨.ref s.heap.objs.size, upd H s.heap.objs.size (.dT kvs), I.laid (t' := s.toks) (fun b u e => (hs.2 b (Nat.ne_of_lt (Heap.lt_size e))).trans (Heap.get?_push_of_some _ e)) (Nat.le_refl _)
      (show ObjOk X.prog X.w _ _ _ (.dT kvs) from ⟨z, hm, vs, rel.keeps fun c ys ec => (same_upd hf) _ _ ec, o', es, epp, g1, g2, g3, g4, g5⟩), rfl, q _ hf⟩
theorem cr_dictD (hu : X.A.units + 2 < cLine) : CallR X (.type "dict") (fun xs H Q => ∃ F d z, xs.length = 1 ∧ Same F H ∧ Reps X.K F [d] xs ∧ fCopyD d = some z ∧ ∀ p o, H p = none → OwnR X.K F (upd H p o) z p → Q (.ref p) (upd H p o)) := by
  intro pins s σ H xs us Q I r q
  obtain ⟨F, d, z, hl, le, rs, hz, q⟩ := q
  cases rs with
  | cons r1 t =>
    cases t
    unfold fCopyD at hz
    cases r1 with
    | dK h rr =>
      cases hz
      exact call_dictD pins s σ H _ us Q I r ⟨_, _, rfl, (Keeps.of_same le).rd _ _ h, fun p hp => q p _ hp (.dK upd_same rr)⟩
    | dT h rr =>
      dsimp only at hz
      split at hz
      · rename_i hap
        cases hz
        unfold apartD at hap
        split at hap
        · rename_i l hl
          exact call_dictT hu pins s σ H _ us Q I r ⟨_, _, l, rfl, (Keeps.of_same le).rd _ _ h, rr.rows hl, of_decide_eq_true hap, fun p hp => q p _ hp (.dT upd_same rr)⟩
        · cases hap
      · cases hz
    | _ => cases hz
def eDictN (f : Ef D) : Ef D := bnd f fun d => lift (fCopyD d)
theorem dn_dict (hu : X.A.units + 2 < cLine) (ha : DE X E a f) (hm : X.mg "dict" = none) (hg : Gl X "dict" := by rfl) (na : starEach [a] X.env = (false, eval a X.env) :: starEach [] X.env := by rfl) : DN X E (.Call (.Name "dict" p) [a] [] pos) (eDictN f) := by
  refine ⟨PE.imp (pe_callTy (cr_dictD hu) hg hm bt_dict (pa_cons ha.pe pa_nil na) (by decide) (by decide) na rfl) ?_⟩
  rintro σ H Q ⟨bs, ex, F, e, s, p⟩
  refine ⟨bs, ex, F, e, s, p.bnd.imp fun d e1 H1 F1 _ s1 st1 p1 v r => ?_⟩
  obtain ⟨z, hz, q⟩ := p1.lift
  refine ⟨F1, d, z, rfl, s1.le, .cons r .nil, hz, fun l o hl ow => ?_⟩
  have wo : Wr o := by
    obtain ⟨o', h1, h2⟩ := ow.wr
    rw [upd_same] at h1; cases h1; exact h2
  obtain ⟨s2, st2⟩ := s1.alloc (o := o) hl wo
  exact q l _ _ s2 st2 (s1.nex hl) ow
end

/-! ### walks over any dict value: it is locked where the walk begins -/
def NoFrz (X : Cx) (d : Addr) : Prop := ∀ o' u', X.H_0 d ≠ some (.frz o' u')
def iKeysL (X : Cx) (td : TE) : TI := fun σ H R => td σ H fun x H1 => ∃ d, x = .ref d ∧
  ((∃ o kvs, H1 d = some (.frz o (.dK kvs)) ∧ R (Itk d o kvs) H1) ∨ (∃ o kvs, H1 d = some (.frz o (.dT kvs)) ∧ R (Itkt d o kvs) H1) ∨
    (∃ kvs, H1 d = some (.dK kvs) ∧ ∀ o, NoFrz X d → R (Itk d o kvs) (upd H1 d (.frz o (.dK kvs)))) ∨ ∃ kvs, H1 d = some (.dT kvs) ∧ ∀ o, NoFrz X d → R (Itkt d o kvs) (upd H1 d (.frz o (.dT kvs))))
theorem pi_keysL {X : Cx} {tg e : Expr} {td : TE} (he : PE X e td) : PI X tg e (iKeysL X td) := by
  refine ⟨fun pins s σ H R I h => ?_⟩
  refine thn (he.run pins s σ H _ I h) fun u s1 ⟨x, H1, I1, rx, d, ex, q⟩ => ?_
  subst ex
  obtain rfl : u = Value.ref d := rx
  have gK : ∀ {o kvs H2}, Inv X pins σ H2 s1 → H2 d = some (.frz o (.dK kvs)) → R (Itk d o kvs) H2 → wpAny (model X.prog X.w) X.A (pyIter (.ref d)) (PIE X pins σ tg R) X.xe s1 := fun {o kvs H2} I2 hd q => by
    obtain ⟨hs, hgd, hx, es, ep, vs, hdt, hsz, kv, hm⟩ := I2.frzK hd
    refine iter_keys hs hgd hx hdt (pi_one (tk := s1.toks) I2 _ (turn_keys _ hdt) ⟨_, Heap.get?_push_size _ rfl, rfl, ?_⟩ q)
    rw [hsz] <;> rfl
  have gT : ∀ {o kvs H2}, Inv X pins σ H2 s1 → H2 d = some (.frz o (.dT kvs)) → R (Itkt d o kvs) H2 → wpAny (model X.prog X.w) X.A (pyIter (.ref d)) (PIE X pins σ tg R) X.xe s1 := fun {o kvs H2} I2 hd q => by
    obtain ⟨hs, hgd, hx, es, ep, hdt, hsz, ent⟩ := I2.frzT hd
    refine iter_keys hs hgd hx hdt (pi_one (tk := s1.toks) I2 _ (turn_keysT _ hdt) ⟨_, Heap.get?_push_size _ rfl, rfl, ?_⟩ q)
    rw [hsz] <;> rfl
  rcases q with ⟨o, kvs, hd, q⟩ | ⟨o, kvs, hd, q⟩ | ⟨kvs, hd, q⟩ | ⟨kvs, hd, q⟩
  · exact gK I1 hd q
  · exact gT I1 hd q
  · obtain ⟨od, I2⟩ := I1.lock hd trivial
    exact gK I2 upd_same (q od (I1.nofrz hd trivial))
  · obtain ⟨od, I2⟩ := I1.lock hd trivial
    exact gT I2 upd_same (q od (I1.nofrz hd trivial))
/-- what is wished, once a lock has been let go -/
def Unl (X : Cx) (q : Hp → Prop) (H : Hp) : Prop := q H ∨ ∃ d od u, H d = some (.frz od u) ∧ NoFrz X d ∧ q (upd H d u)
def Ends.unl (X : Cx) (D : Ends) : Ends := ⟨fun σ => Unl X (D.nx σ), fun v => Unl X (D.rt v), fun σ => Unl X (D.bk σ), fun σ => Unl X (D.ct σ)⟩
theorem ps_unl {X : Cx} {st : Stmt} {t : TS} (h : PS X st t) : PS X st (fun D σ H => t (Ends.unl X D) σ H) := by
  refine ⟨fun pins s σ H D I hw => ?_⟩
  refine thn (h.run pins s σ _ _ I hw) fun f s1 q => ?_
  cases f with
  | next =>
    obtain ⟨σ', H', I2, q | ⟨d, od, u, e, hn, q⟩⟩ := q
    · exact ⟨σ', _, I2, q⟩
    · exact ⟨σ', _, I2.unlock e hn, q⟩
  | brk =>
    obtain ⟨σ', H', I2, q | ⟨d, od, u, e, hn, q⟩⟩ := q
    · exact ⟨σ', _, I2, q⟩
    · exact ⟨σ', _, I2.unlock e hn, q⟩
  | cont =>
    obtain ⟨σ', H', I2, q | ⟨d, od, u, e, hn, q⟩⟩ := q
    · exact ⟨σ', _, I2, q⟩
    · exact ⟨σ', _, I2.unlock e hn, q⟩
  | ret v =>
    obtain ⟨x, σ', H', I2, r, q | ⟨d, od, u, e, hn, q⟩⟩ := q
    · exact ⟨x, σ', _, I2, r, q⟩
    · exact ⟨x, σ', _, I2.unlock e hn, r, q⟩
def eKeys (f : Ef D) : Ef (List D) := bnd f fun d => lift (keysD d)
def sForK (f : Ef D) (g : D → Ef Unit) (body : Ef Fl) : Ef Fl := bnd (eKeys f) fun ks => noX (loopF g body ks)
section
variable {X : Cx} {E : SK} {ts : List Nat} {tg : Expr} {body : List Stmt} {f : Ef D} {g : D → Ef Unit} {fb : Ef Fl} {pos px : Pos} {it : Expr}
theorem noX_post {K : PySem.W.Frag} {bs ex : List Addr} {H F : Hp} {e : En} {h : Ef Fl} {P : Fl → En → L2.St → Hp → Hp → Prop} (p : PostS K E bs ex H F (noX h e) P) : (∀ c as e', h e ≠ .exc c as e') ∧ PostS K E bs ex H F (h e) P := by
  unfold noX at p
  generalize h e = r at p ⊢
  cases r with
  | ok fl e' => exact ⟨fun _ _ _ z => (by cases z), p⟩
  | exc c as e' => exact p.elim
  | stuck => exact p.elim
theorem fl_imp {K : PySem.W.Frag} {D D' : Ends} {fl : Fl} {σ : L2.St} {H F : Hp} (h1 : ∀ σ H, D.nx σ H → D'.nx σ H) (h2 : ∀ v H, D.rt v H → D'.rt v H) (h3 : ∀ σ H, D.bk σ H → D'.bk σ H) (h4 : ∀ σ H, D.ct σ H → D'.ct σ H) (q : FlP K D fl σ H F) : FlP K D' fl σ H F := by
  cases fl with
  | nx => exact h1 _ _ q
  | rt d => exact fun v r => h2 _ _ (q v r)
  | bk => exact h3 _ _ q
  | ct => exact h4 _ _ q
theorem fl_unl {K : PySem.W.Frag} {D : Ends} {a : Addr} {u : HO} {od : Obj} {fl : Fl} {σ : L2.St} {H F : Hp} (hn : NoFrz X a) (q : FlP K ⟨fun σ' H' => H' a = some (.frz od u) ∧ D.nx σ' (upd H' a u), fun v H' => H' a = some (.frz od u) ∧ D.rt v (upd H' a u), fun σ' H' => H' a = some (.frz od u) ∧ D.bk σ' (upd H' a u), fun σ' H' => H' a = some (.frz od u) ∧ D.ct σ' (upd H' a u)⟩ fl σ H F) : FlP K (Ends.unl X D) fl σ H F := by
  cases fl with
  | nx => exact .inr ⟨a, od, u, q.1, hn, q.2⟩
  | rt d => exact fun v r => .inr ⟨a, od, u, (q v r).1, hn, (q v r).2⟩
  | bk => exact .inr ⟨a, od, u, q.1, hn, q.2⟩
  | ct => exact .inr ⟨a, od, u, q.1, hn, q.2⟩
/-- for k in a dict -/
theorem ds_forK (C : DC X E) (hi : DE X E it f) (hg : DG X E ts tg g) (hb : DSs X E body fb) (hs : ∀ y, foldedSetIterable it X.env y = pure y := by intro _; rfl) : DS X E (.For tg it body [] pos) (sForK f g fb) := by
  refine ⟨PS.imp (ps_unl (ps_for C.po C.calm (pi_keysL hi.pe) hg.pg hb.ps hs)) ?_⟩
  rintro D σ H ⟨bs, ex, F, e, s, p⟩
  have p1 : PostS X.K E bs ex H F (bnd f (fun d => bnd (lift (keysD d)) fun ks => noX (loopF g fb ks)) e) fun fl _ σ' H' F' => FlP X.K D fl σ' H' F' := by
    have : sForK f g fb e = bnd f (fun d => bnd (lift (keysD d)) fun ks => noX (loopF g fb ks)) e := by
      unfold sForK eKeys DL.bnd
      cases f e <;> rfl
    rw [← this]; exact p
  refine ⟨bs, ex, F, e, s, p1.bndE.imp fun d e1 H1 F1 _ s1 st1 p2 v r1 => ?_⟩
  cases hk : keysD d with
  | none => unfold DL.bnd at p2; rw [hk] at p2; exact p2.elim
  | some ks =>
    unfold DL.bnd at p2
    rw [hk] at p2
    obtain ⟨nx, p3⟩ := noX_post (show PostS X.K E bs ex H1 F1 (noX (loopF g fb ks) e1) fun fl _ σ' H' F' => FlP X.K D fl σ' H' F' from p2)
    have vis : ∀ {a : Addr} {w : HO}, F1 a = some w → ∀ b ∈ ex, b ≠ a := fun {a w} q b hb z => by
      have := s1.hid b (.inr (.inr hb))
      rw [z, q] at this; cases this
    have p4 : PostS X.K E bs ex H1 F1 (loopF g fb ks e1) fun fl _ σ' H' F' => FlP X.K (Ends.unl X D) fl σ' H' F' := p3.imp fun fl e' σ' H' F' _ _ _ q => fl_imp (fun _ _ q => .inl q) (fun _ _ q => .inl q) (fun _ _ q => .inl q) (fun _ _ q => .inl q) q
    cases r1 with
    | @dK a kvs kds h r =>
      cases hk
      rcases h with h | ⟨o, h⟩
      · refine ⟨a, rfl, .inr (.inr (.inl ⟨kvs, s1.le _ _ h, fun od hn => ?_⟩))⟩
        have w := walk_K (F := upd F1 a (.frz od (.dK kvs))) upd_same (r.keepW (keepsW_lock h (.inl ⟨_, rfl⟩)))
        exact for_core (s1.swapAt h (keepsW_lock h (.inl ⟨_, rfl⟩))) w ((unlock_post (od := od) h (.inl ⟨_, rfl⟩) (vis h) nx p3).imp fun _ _ _ _ _ _ _ _ q => fl_unl hn q)
      · exact ⟨a, rfl, .inl ⟨o, kvs, s1.le _ _ h, for_core s1 (walk_K h r) p4⟩⟩
    | @dT a kvs kds h r =>
      cases hk
      rcases h with h | ⟨o, h⟩
      · refine ⟨a, rfl, .inr (.inr (.inr ⟨kvs, s1.le _ _ h, fun od hn => ?_⟩))⟩
        have w := walk_T (F := upd F1 a (.frz od (.dT kvs))) upd_same (r.keepW (keepsW_lock h (.inr ⟨_, rfl⟩)))
        exact for_core (s1.swapAt h (keepsW_lock h (.inr ⟨_, rfl⟩))) w ((unlock_post (od := od) h (.inr ⟨_, rfl⟩) (vis h) nx p3).imp fun _ _ _ _ _ _ _ _ q => fl_unl hn q)
      · exact ⟨a, rfl, .inr (.inl ⟨o, kvs, s1.le _ _ h, for_core s1 (walk_T h r) p4⟩)⟩
    | _ => cases hk
end

/-! ### list comprehensions over a dict -/
section
variable {X : Cx} {E : SK} {tg iter elt : Expr} {ifs : List Expr} {scope : Scope} {own : List (Str × Nat)} {pos : Pos} {f : Ef D} {g : D → Ef Unit} {ft : Ef Bool} {fe : Ef D} {ts : List Nat}
end
/-! ### list(d) of a dict: a new list of its keys -/
def eListK (f : Ef D) : Ef D := bnd f fun d => lift ((keysD d).map .lst)
section
variable {X : Cx} {E : SK} {a b : Expr} {f g : Ef D} {pos p : Pos}
/-! ### xs[::-1] -/
def fRevL : D → Option D
  | .lst xs => some (.lst xs.reverse)
  | _ => none
theorem de_revL {k : Nat} {p1 p2 p3 : Pos} (ha : DE X E a f) : DE X E (.Subscript a (.Slice none none (some (.UnaryOp .USub (.Constant (.int 1) k p1) p2)) p3) pos) (eOp1 fRevL f) := by
  refine ⟨PE.imp (pe_revL ha.pe) ?_⟩
  rintro σ H Q ⟨bs, ex, F, e, s, p⟩
  refine ⟨bs, ex, F, e, s, p.bnd.imp fun d e1 H1 F1 _ s1 st1 p1 v r => ?_⟩
  obtain ⟨z, hz, q⟩ := p1.lift
  cases r with
  | @lst a xs ds h r =>
    cases hz
    refine ⟨a, xs, rfl, .of (s1.le _ _ h), fun l hl => ?_⟩
    obtain ⟨s2, st2⟩ := s1.grow (grow1 (o := .lst xs.reverse) hl)
    exact q _ _ s2 st2 _ (new_lst hl s1.le r.reverse)
  | _ => cases hz
end

/-! ### d == {}, d != {} -/
section
variable {prog : Program} {w : World} {A : Around} {E : Value → Shared → Prop} {s : Shared}
theorem samePairs_none {nm : String} {a b : Addr} {oa ob : Obj} {es es' : Array DictEntry} {ep ep' : Nat} {Q : Bool → Shared → Prop} (ha : (a == sysModules) = false) (hb : (b == sysModules) = false)
    (hoa : s.heap.get? a = some oa) (hda : oa.data = .dict es ep) (hob : s.heap.get? b = some ob) (hdb : ob.data = .dict es' ep') (h0 : es'.size = 0) (h : Q (es.size == 0) s) : wpAny (model prog w) A (Builtin.Dict.samePairs nm a b) Q E s := by
  unfold Builtin.Dict.samePairs Builtin.Dict.showsAll
  rw [if_neg (show ¬ (a == sysModules) = true by rw [ha]; exact Bool.false_ne_true), if_neg (show ¬ (b == sysModules) = true by rw [hb]; exact Bool.false_ne_true)]
  refine wpAny_bind (wpAny_pure (wpAny_bind (wpAny_pure ?_)))
  refine wpAny_bind (wpAny_dictEntries hoa hda ?_)
  dsimp only
  refine wpAny_bind (wpAny_dictEntries hob hdb ?_)
  rw [h0]
  by_cases hsz : es.size = 0
  · have h' : Q true s := by simpa [hsz] using h
    rw [if_neg (by rw [hsz]; simp)]
    refine wpAny_bind (wpAny_dictEpoch hoa hda ?_)
    refine wpAny_bind ?_
    rw [Std.Legacy.Range.forIn_eq_forIn_range']
    simp only [Std.Legacy.Range.size, Nat.sub_zero, Nat.add_sub_cancel, Nat.div_one, hsz, List.range'_zero, List.forIn_nil]
    exact wpAny_pure (wpAny_pure h')
  · rw [if_pos (by simpa using hsz)]
    have hbf : (es.size == 0) = false := by simpa using hsz
    rw [hbf] at h
    exact wpAny_bind (wpAny_rule (wpAny_pure h))
theorem dict_eq_none {a b : Addr} {oa ob : Obj} {es es' : Array DictEntry} {ep ep' : Nat} {Q : Value → Shared → Prop} (ha : (a == sysModules) = false) (hb : (b == sysModules) = false) (ta : s.TypeIs (.ref a) "dict") (tb : s.TypeIs (.ref b) "dict")
    (hoa : s.heap.get? a = some oa) (hda : oa.data = .dict es ep) (hob : s.heap.get? b = some ob) (hdb : ob.data = .dict es' ep') (h0 : es'.size = 0) (hu : A.units < cLine) (h : Q (.bool (es.size == 0)) s) : wpAny (model prog w) A (compareOp .Eq (.ref a) (.ref b)) Q E s := by
  refine wpAny_richCompare_same_room (op := .Eq) ta tb PySem.F.slot_dict_eq (wpAny_call_entry PySem.F.slot_dict_eq ta PySem.F.entry_dict_eq ?_ (PySem.F.args_dict_eq_2 _ _)) hu
  show wpAny _ _ (Builtin.Dict.dictSlotArgs "__eq__" ⟨[.ref a, .ref b], []⟩ >>= _) _ _ s
  refine wpAny_bind ?_
  unfold Builtin.Dict.dictSlotArgs
  refine wpAny_bind (wpAny_notOrdered_dict ta ?_)
  show wpAny _ _ (pure (Value.ref a, Value.ref b)) _ _ s
  refine wpAny_pure ?_
  refine wpAny_bind (wpAny_isInstance (T := "dict") tb PySem.F.sub_dict_dict ?_)
  simp only [Bool.not_true, Bool.false_eq_true, if_false]
  refine wpAny_bind (wpAny_pure (wpAny_bind (wpAny_pure ?_)))
  refine wpAny_bind (samePairs_none ha hb hoa hda hob hdb h0 ?_)
  refine wpAny_pure ⟨_, rfl, ?_, ?_⟩
  · exact fun x => nomatch x
  · simpa using h
theorem dict_ne_none {a b : Addr} {oa ob : Obj} {es es' : Array DictEntry} {ep ep' : Nat} {Q : Value → Shared → Prop} (ha : (a == sysModules) = false) (hb : (b == sysModules) = false) (ta : s.TypeIs (.ref a) "dict") (tb : s.TypeIs (.ref b) "dict")
    (hoa : s.heap.get? a = some oa) (hda : oa.data = .dict es ep) (hob : s.heap.get? b = some ob) (hdb : ob.data = .dict es' ep') (h0 : es'.size = 0) (hu : A.units < cLine) (h : Q (.bool (!(es.size == 0))) s) : wpAny (model prog w) A (compareOp .NotEq (.ref a) (.ref b)) Q E s := by
  refine wpAny_richCompare_same_room (op := .NotEq) ta tb PySem.F.slot_dict_ne (wpAny_call_entry PySem.F.slot_dict_ne ta PySem.F.entry_dict_ne ?_ (PySem.F.args_dict_ne_2 _ _)) hu
  show wpAny _ _ (Builtin.Dict.dictSlotArgs "__ne__" ⟨[.ref a, .ref b], []⟩ >>= _) _ _ s
  refine wpAny_bind ?_
  unfold Builtin.Dict.dictSlotArgs
  refine wpAny_bind (wpAny_notOrdered_dict ta ?_)
  show wpAny _ _ (pure (Value.ref a, Value.ref b)) _ _ s
  refine wpAny_pure ?_
  refine wpAny_bind (wpAny_isInstance (T := "dict") tb PySem.F.sub_dict_dict ?_)
  simp only [Bool.not_true, Bool.false_eq_true, if_false]
  refine wpAny_bind (wpAny_pure (wpAny_bind (wpAny_pure ?_)))
  refine wpAny_bind (samePairs_none ha hb hoa hda hob hdb h0 ?_)
  refine wpAny_pure ⟨_, rfl, ?_, ?_⟩
  · exact fun x => nomatch x
  · simpa using h
end
section
variable {X : Cx} {E : SK} {a b : Expr} {f g : Ef D} {pos p p2 : Pos}
theorem dict_raw {pins : List (Addr × Obj)} {σ : L2.St} {H : Hp} {s : Shared} {F : Hp} (I : Inv X pins σ H s) {d : D} {v : V} {ks : List D} (le : Same F H) (r : Rep X.K F d v) (hk : keysD d = some ks) :
    ∃ a o es ep, v = .ref a ∧ (a == sysModules) = false ∧ s.TypeIs (.ref a) "dict" ∧ s.heap.get? a = some o ∧ o.data = .dict es ep ∧ es.size = ks.length := by
  cases r with
  | @dK a kvs kds h r =>
    cases hk
    obtain ⟨_, lo, vs, rel, dd⟩ := dk_rd I.hok ((Keeps.of_same le).rd _ _ h)
    have ty := dd.typeIs
    obtain ⟨o, es, ep, ho, _, hd, _, hp, _⟩ := dd
    refine ⟨a, o, es, ep, rfl, lo, ty, ho, hd, ?_⟩
    rw [List.length_map, r.length, rel.length, ← hp.length]
    exact Array.length_toList.symm
  | @dT a kvs kds h r =>
    cases hk
    obtain ⟨_, lo, vs, rel, dd⟩ := dt_rd I.hok ((Keeps.of_same le).rd _ _ h)
    have ty := dd.typeIs
    obtain ⟨o, es, ep, ho, _, hd, he, _, _⟩ := dd
    refine ⟨a, o, es, ep, rfl, lo, ty, ho, hd, ?_⟩
    rw [size_of_entries he, List.length_map, r.length, ← Paired.length rel]
  | _ => cases hk
theorem op_none (neg : Bool) (op : CmpOp) (hop : op = if neg then .NotEq else .Eq) (hu : X.A.units < cLine) : OpR X (compareOp op) (fun x y H Q => ∃ F d ks b, Same F H ∧ Rep X.K F d x ∧ keysD d = some ks ∧ y = .ref b ∧ H b = some (.dK []) ∧ Q (.bl (if neg then !ks.isEmpty else ks.isEmpty)) H) := by
  intro pins s σ H x y v u Q I rx ry ⟨F, d, ks, b, le, r, hk, ey, hb, q⟩
  subst ey
  obtain ⟨a, o, es, ep, rfl, lo, ty, ho, hd, hl⟩ := dict_raw I le r hk
  obtain ⟨a2, o2, es2, ep2, e2, lo2, ty2, ho2, hd2, hl2⟩ := dict_raw (d := .dct []) (v := .ref b) I (Same.refl H) (.dK (.inl hb) .nil) rfl
  cases e2
  cases rx
  cases ry
  have e1 : (es.size == 0) = ks.isEmpty := by rw [hl]; cases ks <;> rfl
  cases neg with
  | false =>
    subst hop
    exact dict_eq_none lo lo2 ty ty2 ho hd ho2 hd2 hl2 hu ⟨.bl ks.isEmpty, H, I, by rw [e1]; rfl, q⟩
  | true =>
    subst hop
    exact dict_ne_none lo lo2 ty ty2 ho hd ho2 hd2 hl2 hu ⟨.bl (!ks.isEmpty), H, I, by rw [e1]; rfl, q⟩
def eIsE (neg : Bool) (f : Ef D) : Ef D := bnd f fun d => lift ((keysD d).map fun ks => .bl (if neg then !ks.isEmpty else ks.isEmpty))
theorem isE_core {neg : Bool} : ∀ σ H Q, tD X.K E (eIsE neg f) σ H Q → tOp (fun x y H Q => ∃ F d ks b, Same F H ∧ Rep X.K F d x ∧ keysD d = some ks ∧ y = .ref b ∧ H b = some (.dK []) ∧ Q (.bl (if neg then !ks.isEmpty else ks.isEmpty)) H) (tD X.K E f) tDNewK σ H Q := by
  rintro σ H Q ⟨bs, ex, F, e, s, p⟩
  refine ⟨bs, ex, F, e, s, p.bnd.imp fun d1 e1 H1 F1 _ s1 st1 p1 v1 r1 b hb => ?_⟩
  obtain ⟨z, hz, q⟩ := p1.lift
  obtain ⟨ks, hk, rfl⟩ := Option.map_eq_some_iff.mp hz
  obtain ⟨s3, st3⟩ := s1.grow (grow1 (o := .dK []) hb)
  exact ⟨_, d1, ks, b, s3.le, r1.same st3.1, hk, rfl, upd_same, q _ _ s3 st3 _ (.bl _)⟩
theorem dt_isE (hu : X.A.units + 1 < cLine) (ha : DE X E a f) (hm : behindInMarks .Eq (.Dict [] [] p2) = false := by rfl) : DT X E (.Compare a [.Eq] [.Dict [] [] p2] pos) (eB (eIsE false f)) :=
  ⟨PT.imp (pt_cmpR (op_none false .Eq rfl (by omega)) ha.pe pe_dnewK hm) (tst_core isE_core)⟩
/-! ### sorted of a list of data -/
def alikeB (xs : List D) : Bool := xs.all fun x => xs.all fun y => PySem.W.alike (py x) (py y)
def tupB : D → Bool
  | .tup (_ :: _) => true
  | .ktp (_ :: _) => true
  | _ => false
def othB : D → Bool
  | .tup _ => false
  | .ktp _ => false
  | .non => false
  | _ => true
def sortOk (xs : List D) : Bool := decide (xs.length ≤ 1) || (xs.all (okd dmax) && alikeB xs && (xs.all tupB || xs.all othB))
def sortD (xs : List D) : List D := xs.mergeSort (PySem.W.dataLe false py)
theorem sortable_of {xs : List D} (ho : xs.all (okd dmax) = true) (h : (xs.all tupB || xs.all othB) = true) : PySem.W.Sortable (xs.map py) := by
  rcases Bool.or_eq_true_iff.mp h with h | h
  · refine .inl fun d hd => ?_
    obtain ⟨x, hx, rfl⟩ := List.mem_map.mp hd
    have := List.all_eq_true.mp h x hx
    unfold tupB at this
    split at this
    · exact ⟨_, _, rfl⟩
    · exact ⟨_, _, rfl⟩
    · cases this
  · refine .inr fun d hd => ?_
    obtain ⟨x, hx, rfl⟩ := List.mem_map.mp hd
    have h1 := List.all_eq_true.mp h x hx
    have h2 := List.all_eq_true.mp ho x hx
    cases x <;> simp [othB] at h1 <;> simp [py] <;> simp [okd] at h2
theorem alike_of {xs : List D} (h : alikeB xs = true) : PySem.W.AllAlike (xs.map py) := by
  intro d hd d' hd'
  obtain ⟨x, hx, rfl⟩ := List.mem_map.mp hd
  obtain ⟨y, hy, rfl⟩ := List.mem_map.mp hd'
  exact List.all_eq_true.mp (List.all_eq_true.mp h x hx) y hy
def ValD (K : PySem.W.Frag) (F : Hp) (u : Value) (d : D) : Prop := ∃ x, RelV x u ∧ Rep K F d x
theorem each_of {K : PySem.W.Frag} {F : Hp} : ∀ {ds : List D} {xs : List V} {us : List Value}, Reps K F ds xs → Vals xs us → PySem.W.EachIs (ValD K F) us ds
  | _, _, _, .nil, .nil => .nil
  | _, _, _, .cons r t, .cons rv tv => .cons ⟨_, rv, r⟩ (each_of t tv)
theorem of_each {K : PySem.W.Frag} {F : Hp} : ∀ {ds : List D} {us : List Value}, PySem.W.EachIs (ValD K F) us ds → ∃ xs, Reps K F ds xs ∧ Vals xs us
  | _, _, .nil => ⟨[], .nil, .nil⟩
  | _, _, .cons ⟨x, h1, h2⟩ t => by
    obtain ⟨xs, a, b⟩ := of_each t
    exact ⟨x :: xs, .cons h2 a, .cons h1 b⟩
theorem each_reads {pins : List (Addr × Obj)} {σ : L2.St} {H : Hp} {s : Shared} {F : Hp} (I : Inv X pins σ H s) (le : Same F H) : ∀ {ds : List D} {us : List Value}, PySem.W.EachIs (ValD X.K F) us ds → ds.all (okd dmax) = true → PySem.W.EachIs (fun v b => ∃ as, Reads s.heap v (py b) as) us ds
  | _, _, .nil, _ => .nil
  | d :: ds, _, .cons ⟨x, h1, h2⟩ t, h => by
    rw [List.all_cons, Bool.and_eq_true] at h
    exact .cons ((h2.same le).reads I h.1 h1) (each_reads I le t h.2)
def fSortedD : D → Option D
  | .lst xs => if sortOk xs = true then some (.lst (sortD xs)) else none
  | _ => none
theorem sortD_one {xs : List D} (h : xs.length ≤ 1) : sortD xs = xs := by
  match xs, h with
  | [], _ => simp [sortD]
  | [x], _ => simp [sortD]
theorem cr_sortedD (hu : X.A.units + 64 < cLine) : CallR X (.builtin "sorted") (rFs X (fn1 fSortedD)) := by
  intro pins s σ H xs us Q I r h
  obtain ⟨x, rfl, F, d, z, le, r1, hf, q⟩ := rFs1 h
  cases r1 with
  | @lst a vs ds hs rs =>
    simp only [fSortedD] at hf
    split at hf
    · rename_i hok
      cases hf
      obtain ⟨its, rv, ⟨o, n, ho, hc, hdn, hdt⟩, hz⟩ := I.list (SqL.of (le _ _ hs))
      have hl : ds.length = its.length := by rw [rs.length, rv.length]
      have hz' : its.length ≤ sizeLine := by rw [← rv.length]; exact hz
      rw [Vals.ref1 r]
      by_cases c : its.length ≤ 1
      · have c2 : ds.length ≤ 1 := by omega
        rw [sortD_one c2] at q
        refine sorted_seqO (ltv := fun _ _ => false) ⟨fun _ _ _ => rfl, fun _ _ _ _ _ => rfl⟩ (.inl rfl) ho hc hdt hz' (fun h2 => absurd h2 (by omega)) fun h0 h' p ep out k0 hp k1 he h1 h2 => ?_
        have I1 : Inv X pins σ H { s with heap := h0 } := I.kept (t' := s.toks) k0
        have hfree : H p = none := I1.hok.fresh hp
        have eo : out = its := by
          have e1 := h2.perm
          match its, c, e1 with
          | [], _, e1 => exact e1.eq_nil
          | [y], _, e1 => exact List.perm_singleton.mp e1
        subst eo
        refine ⟨.ref p, upd H p (.lst vs), I1.laid (t' := s.toks) k1 hp ⟨hz, out, ep, rv, he⟩, rfl, ?_⟩
        exact q _ _ _ (grow1 hfree) (new_lst hfree le rs)
      · have hok' : (ds.all (okd dmax) && alikeB ds && (ds.all tupB || ds.all othB)) = true := by
          unfold sortOk at hok
          rw [decide_eq_false (by omega), Bool.false_or] at hok
          exact hok
        rw [Bool.and_eq_true, Bool.and_eq_true] at hok'
        obtain ⟨⟨h1, h2⟩, h3⟩ := hok'
        have ea := each_of rs rv
        refine PySem.W.sorted_data (R := ValD X.K F) (enc := py) (bs := ds) ⟨o, ho, hc, n, hdt⟩ ea (each_reads I le ea h1) (alike_of h2) (sortable_of h1 h3) (by rw [hl]; exact hz') (fun b hb => ?_) fun out ho' he' => ?_
        · have := (py_ok _ b (List.all_eq_true.mp h1 b hb)).2
          have : (py b).depth ≤ 12 := this
          omega
        · obtain ⟨ys, a1, a2⟩ := of_each he'
          obtain ⟨e, he⟩ := PyProof.Rows.sortedAll_at s.heap its out.toArray
          have hfree : H (s.heap.objs.size + 1) = none := I.hok.fresh (Nat.le_succ _)
          refine ⟨.ref (s.heap.objs.size + 1), upd H (s.heap.objs.size + 1) (.lst ys), I.laid (t' := s.toks) (fun b u e => PyProof.Rows.sortedAll_old e) (Nat.le_succ _) ⟨?_, out, e, a2, he⟩, rfl, ?_⟩
          · rw [← a1.length]
            have : (sortD ds).length = ds.length := by simp [sortD]
            rw [show (ds.mergeSort (PySem.W.dataLe false py)).length = ds.length from this, hl]; exact hz'
          · exact q _ _ _ (grow1 hfree) (new_lst hfree le a1)
    · cases hf
  | _ => cases hf
/-- ints, or data -/
def fSortedX (d : D) : Option D := match fSortedI d with
  | some z => some z
  | none => fSortedD d
theorem cr_sortedX (hu : X.A.units + 64 < cLine) : CallR X (.builtin "sorted") (rFs X (fn1 fSortedX)) := by
  intro pins s σ H xs us Q I r h
  obtain ⟨F, ds, z, le, rs, hf, q⟩ := h
  match ds, hf with
  | [d], hf =>
    have hf : fSortedX d = some z := hf
    unfold fSortedX at hf
    cases hi : fSortedI d with
    | some z' => rw [hi] at hf; cases hf; exact cr_sortedSq pins s σ H xs us Q I r ⟨F, [d], z, le, rs, hi, q⟩
    | none => rw [hi] at hf; exact cr_sortedD hu pins s σ H xs us Q I r ⟨F, [d], z, le, rs, hf, q⟩

/-! ### min of a list of data, of two -/
def leastD (x : D) (xs : List D) : D := xs.foldl (fun a y => if PySem.W.dataLt (py y) (py a) = true then y else a) x
def minOk (xs : List D) : Bool := xs.all (okd dmax) && alikeB xs && xs.all fun d => match d with
  | .non => false
  | _ => true
section
variable {prog : Program} {w : World} {A : Around} {E : Value → Shared → Prop} {s : Shared}
end
def fMin2D (d e : D) : Option D := if minOk [d, e] = true then some (leastD d [e]) else none
end

section
variable {X : Cx} {E : SK} {a b : Expr} {f g : Ef D} {pos p p2 : Pos}
def fMin2Y (d e : D) : Option D := match fMin2 d e with
  | some z => some z
  | none => fMin2D d e
/-! ### sorted(d) of a dict with tuple keys -/
def eSortK (f : Ef D) : Ef D := bnd f fun d => lift (match d with
  | .dcT kvs => if sortOk (kvs.map (·.1)) = true then some (.lst (sortD (kvs.map (·.1)))) else none
  | _ => none)
end

/-! ### a, b, c = e1, e2, e3 with local names: what is held while the rest is reckoned -/
inductive Held where
  | val (d : D) (v : V) | own (d : D) (a : Addr)
def Held.v : Held → V
  | .val _ v => v
  | .own _ a => .ref a
def Held.slot : Held → DL.Slot
  | .val d _ => .val d
  | .own d _ => .own d
def owns : List Held → List Addr
  | [] => []
  | .val _ _ :: r => owns r
  | .own _ a :: r => a :: owns r
def HeldR (K : PySem.W.Frag) (F H : Hp) : Held → Prop
  | .val d v => Rep K F d v
  | .own d a => OwnR K F H d a
structure HoldS (K : PySem.W.Frag) (bs ex : List Addr) (σ : L2.St) (H F : Hp) (e : En) (L : List Held) : Prop where
  st : StR K bs (owns L ++ ex) σ H F e
  nd : (owns L).Nodup
  dj : ∀ a ∈ owns L, a ∉ ex
  rs : ∀ x ∈ L, HeldR K F H x
theorem mem_owns {L : List Held} {d : D} {a : Addr} (h : Held.own d a ∈ L) : a ∈ owns L := by
  induction L with
  | nil => cases h
  | cons x r ih =>
    cases x with
    | val d' v =>
      rcases List.mem_cons.mp h with h | h
      · cases h
      · exact ih h
    | own d' b =>
      rcases List.mem_cons.mp h with h | h
      · cases h; exact List.mem_cons_self
      · exact List.mem_cons_of_mem _ (ih h)
theorem HeldR.step {K : PySem.W.Frag} {F H F' H' : Hp} {ex : List Addr} {L : List Held} {x : Held} (h : HeldR K F H x) (hx : x ∈ L) (st : Step (owns L ++ ex) H F H' F') : HeldR K F' H' x := by
  cases x with
  | val d v => exact Rep.same st.1 h
  | own d a => exact OwnR.same st.1 (st.2 a (List.mem_append_left _ (mem_owns hx))) h
theorem step_owns {L : List Held} {ex : List Addr} {H F H' F' : Hp} (st : Step (owns L ++ ex) H F H' F') : Step ex H F H' F' := ⟨st.1, fun a h => st.2 a (List.mem_append_right _ h)⟩
/-- all that is held is let go -/
theorem hold_drop {K : PySem.W.Frag} {bs ex : List Addr} {σ : L2.St} {H F : Hp} {e : En} : ∀ (L : List Held), HoldS K bs ex σ H F e L → ∃ F', StR K bs ex σ H F' e ∧ Step ex H F H F'
  | [], h => ⟨F, h.st, Step.refl _ _ _⟩
  | .val d v :: L, h => hold_drop L ⟨h.st, h.nd, h.dj, fun x hx => h.rs x (List.mem_cons_of_mem _ hx)⟩
  | .own d a :: L, h => by
    obtain ⟨n1, n2⟩ := List.nodup_cons.mp h.nd
    have na : a ∉ owns L ++ ex := by
      rw [List.mem_append, not_or]
      exact ⟨n1, h.dj a List.mem_cons_self⟩
    obtain ⟨F1, s1, st1, _⟩ := StR.release (ex := owns L ++ ex) h.st (h.rs _ List.mem_cons_self) na
    obtain ⟨F2, s2, st2⟩ := hold_drop (F := F1) L ⟨s1, n2, fun b hb => h.dj b (List.mem_cons_of_mem _ hb), fun x hx => (h.rs x (List.mem_cons_of_mem _ hx)).step hx st1⟩
    exact ⟨F2, s2, (step_owns st1).trans st2⟩
/-- one more -/
theorem hold_next {K : PySem.W.Frag} {E : SK} {o : Bool} {bs ex : List Addr} {σ : L2.St} {H0 F0 H F : Hp} {e : En} {f : Ef D} {L : List Held} {Q : VK} {P : D → En → L2.St → Hp → Hp → Prop} (h : HoldS K bs ex σ H F e L) (t0 : Step ex H0 F0 H F)
    (px : ∀ c as e', f e = .exc c as e' → ∀ dx H' F', StR K bs ex σ H' F' e' → Step ex H0 F0 H' F' → ExcR K F' as dx → E σ (.ref c) dx H') (ps : f e ≠ .stuck)
    (k : ∀ d e' H' F' x, f e = .ok d e' → HoldS K bs ex σ H' F' e' (L ++ [x]) → Step ex H0 F0 H' F' → (∃ v, x = .val d v ∧ o = false) ∨ (∃ a, x = .own d a ∧ o = true) → Q x.v H') : tX K E o f σ H Q := by
  have mono : ∀ {H' F' : Hp}, Step (owns L ++ ex) H F H' F' → Step ex H0 F0 H' F' := fun st => t0.trans (step_owns st)
  have ow : ∀ (M : List Held) x, owns (M ++ [x]) = owns M ++ owns [x] := fun M x => by
    induction M with
    | nil => rfl
    | cons y r ih => cases y <;> simp only [List.cons_append, owns, ih]
  unfold tX
  cases o with
  | false =>
    rw [if_neg Bool.false_ne_true]
    refine ⟨bs, owns L ++ ex, F, e, h.st, ?_⟩
    unfold Post
    generalize hr : f e = r at px ps k ⊢
    cases r with
    | stuck => exact absurd rfl ps
    | exc c as e' =>
      intro dx H' F' s' st x
      obtain ⟨F2, s2, st2⟩ := hold_drop L ⟨s', h.nd, h.dj, fun y hy => (h.rs y hy).step hy st⟩
      exact px c as e' rfl dx H' F2 s2 ((mono st).trans st2) (x.same st2.1)
    | ok d e' =>
      intro H' F' s' st v rv
      have e1 : owns (L ++ [.val d v]) = owns L := by rw [ow]; exact List.append_nil _
      refine k d e' H' F' (.val d v) rfl ⟨by rw [e1]; exact s', by rw [e1]; exact h.nd, by rw [e1]; exact h.dj, fun y hy => ?_⟩ (mono st) (.inl ⟨v, rfl, rfl⟩)
      rcases List.mem_append.mp hy with hy | hy
      · exact (h.rs y hy).step hy st
      · rw [List.mem_singleton.mp hy]; exact rv
  | true =>
    rw [if_pos rfl]
    refine ⟨bs, owns L ++ ex, F, e, h.st, ?_⟩
    unfold PostN
    generalize hr : f e = r at px ps k ⊢
    cases r with
    | stuck => exact absurd rfl ps
    | exc c as e' =>
      intro dx H' F' s' st x
      obtain ⟨F2, s2, st2⟩ := hold_drop L ⟨s', h.nd, h.dj, fun y hy => (h.rs y hy).step hy st⟩
      exact px c as e' rfl dx H' F2 s2 ((mono st).trans st2) (x.same st2.1)
    | ok d e' =>
      intro a H' F' s' st na rv
      have e1 : owns (L ++ [.own d a]) = owns L ++ [a] := ow _ _
      have na' := na
      rw [List.mem_append, not_or] at na'
      refine k d e' H' F' (.own d a) rfl ⟨?_, ?_, ?_, fun y hy => ?_⟩ (mono st) (.inr ⟨a, rfl, rfl⟩)
      · rw [e1]
        refine s'.perm fun b => ?_
        clear k px ps rv st s' mono na na' e1 hr
        have q1 : b ∈ [a] ↔ b = a := by simp
        simp only [List.mem_append, List.mem_cons, List.not_mem_nil, or_false]
        clear q1
        grind
      · rw [e1]
        exact List.nodup_append.mpr ⟨h.nd, by simp, fun x hx y hy => by rw [List.mem_singleton.mp hy]; exact fun z => na'.1 (z ▸ hx)⟩
      · rw [e1]
        intro b hb
        rcases List.mem_append.mp hb with hb | hb
        · exact h.dj b hb
        · rw [List.mem_singleton.mp hb]; exact na'.2
      · rcases List.mem_append.mp hy with hy | hy
        · exact (h.rs y hy).step hy st
        · rw [List.mem_singleton.mp hy]; exact rv
/-- what is held goes to a slot -/
theorem hold_set {K : PySem.W.Frag} {bs ex : List Addr} {σ : L2.St} {H F : Hp} {e : En} {x : Held} {L : List Held} (h : HoldS K bs ex σ H F e (x :: L)) (i : Nat) :
    ∃ F', HoldS K bs ex (σ.set i (some x.v)) H F' ⟨e.s.set i x.slot, e.b⟩ L ∧ Step ex H F H F' := by
  cases x with
  | val d v =>
    obtain ⟨F2, s2, st2⟩ := StR.setVal (ex := owns L ++ ex) h.st i (h.rs _ List.mem_cons_self)
    exact ⟨F2, ⟨s2, h.nd, h.dj, fun y hy => (h.rs y (List.mem_cons_of_mem _ hy)).step hy st2⟩, step_owns st2⟩
  | own d a =>
    obtain ⟨n1, n2⟩ := List.nodup_cons.mp h.nd
    have na : a ∉ owns L ++ ex := by
      rw [List.mem_append, not_or]
      exact ⟨n1, h.dj a List.mem_cons_self⟩
    obtain ⟨F2, s2, st2⟩ := StR.setOwn (ex := owns L ++ ex) h.st i (h.rs _ List.mem_cons_self) na
    exact ⟨F2, ⟨s2, n2, fun b hb => h.dj b (List.mem_cons_of_mem _ hb), fun y hy => (h.rs y (List.mem_cons_of_mem _ hy)).step hy st2⟩, step_owns st2⟩
def sPar3 (i j l : Nat) (o1 o2 o3 : Bool) (f g h : Ef D) : Ef Fl := bnd f fun d => bnd g fun d' => bnd h fun d'' => bnd (setX o1 i d) fun _ => bnd (setX o2 j d') fun _ => bnd (setX o3 l d'') fun _ => rtn .nx
section
variable {X : Cx} {E : SK} {a b c : Expr} {f g h : Ef D} {pos px py pz pt pt2 : Pos} {x y z : Str} {o1 o2 o3 : Bool} {kt k2 : Nat}
theorem setX_is {o : Bool} {i : Nat} {d : D} {e : En} {x : Held} (hx : (∃ v, x = .val d v ∧ o = false) ∨ ∃ a, x = .own d a ∧ o = true) : setX o i d e = .ok () ⟨e.s.set i x.slot, e.b⟩ := by
  rcases hx with ⟨v, rfl, rfl⟩ | ⟨a, rfl, rfl⟩ <;> rfl
theorem ds_par3 (C : DC X E) (i j l : Nat) (ha : DX X E o1 a f) (hb : DX X E o2 b g) (hc : DX X E o3 c h) (hij : i ≠ j := by decide) (hil : i ≠ l := by decide) (hjl : j ≠ l := by decide) (hi : X.N[i]? = some x := by rfl) (hj : X.N[j]? = some y := by rfl) (hl : X.N[l]? = some z := by rfl)
    (hx : X.env.scope.names.lookup x = some .local := by rfl) (hy : X.env.scope.names.lookup y = some .local := by rfl) (hz : X.env.scope.names.lookup z = some .local := by rfl)
    (hw : swappedStores [.Tuple [.Name x px, .Name y py, .Name z pz] kt pt] (.Tuple [a, b, c] k2 pt2) X.env = pure (some [x, y, z]) := by rfl)
    (hs : swapsWithSole [.Tuple [.Name x px, .Name y py, .Name z pz] kt pt] (.Tuple [a, b, c] k2 pt2) pos.line X.env = pure false := by rfl)
    (ns1 : starEach (a :: [b, c]) X.env = (false, eval a X.env) :: starEach [b, c] X.env := by rfl) (ns2 : starEach (b :: [c]) X.env = (false, eval b X.env) :: starEach [c] X.env := by rfl) (ns3 : starEach (c :: []) X.env = (false, eval c X.env) :: starEach [] X.env := by rfl) :
    DS X E (.Assign [.Tuple [.Name x px, .Name y py, .Name z pz] kt pt] (.Tuple [a, b, c] k2 pt2) pos) (sPar3 i j l o1 o2 o3 f g h) := by
  refine ⟨PS.imp (ps_par3 C.calm C.nd hi hj hl hij hil hjl hx hy hz (pa_cons ha.pe (pa_cons hb.pe (pa_cons hc.pe pa_nil ns3) ns2) ns1) hw hs) ?_⟩
  rintro D σ H ⟨bs, ex, F, e, s, p⟩
  unfold sPar3 at p
  have h0 : HoldS X.K bs ex σ H F e [] := ⟨s, .nil, fun _ h => (by cases h), fun _ h => (by cases h)⟩
  refine hold_next (P := fun _ _ _ _ _ => True) h0 (Step.refl _ _ _) (fun c as e' he => ?_) (fun he => ?_) fun d1 e1 H1 F1 x1 he1 h1 t1 k1 => ?_
  · unfold DL.bnd at p; rw [he] at p; exact fun dx H' F' s' st x => p σ dx H' F' s' st x
  · unfold DL.bnd at p; rw [he] at p; exact p
  unfold DL.bnd at p
  rw [he1] at p
  dsimp only at p
  refine hold_next (P := fun _ _ _ _ _ => True) h1 t1 (fun c as e' he => ?_) (fun he => ?_) fun d2 e2 H2 F2 x2 he2 h2 t2 k2 => ?_
  · rw [he] at p; exact fun dx H' F' s' st x => p σ dx H' F' s' st x
  · rw [he] at p; exact p
  rw [he2] at p
  dsimp only at p
  refine hold_next (P := fun _ _ _ _ _ => True) h2 t2 (fun c as e' he => ?_) (fun he => ?_) fun d3 e3 H3 F3 x3 he3 h3 t3 k3 => ?_
  · rw [he] at p; exact fun dx H' F' s' st x => p σ dx H' F' s' st x
  · rw [he] at p; exact p
  rw [he3] at p
  dsimp only at p
  rw [setX_is k1] at p
  dsimp only at p
  rw [setX_is k2] at p
  dsimp only at p
  rw [setX_is k3] at p
  have h3' : HoldS X.K bs ex σ H3 F3 e3 [x1, x2, x3] := h3
  obtain ⟨F4, h4, t4⟩ := hold_set h3' i
  obtain ⟨F5, h5, t5⟩ := hold_set h4 j
  obtain ⟨F6, h6, t6⟩ := hold_set h5 l
  exact ⟨_, _, _, rfl, p _ H3 F6 h6.st (((t3.trans t4).trans t5).trans t6)⟩
end

/-! ### sorted(set(a tuple of ints)) -/
section
variable {X : Cx} {E : SK} {a : Expr} {f : Ef D} {p p2 pos pos2 : Pos}
end
/-! ### a, b = a list -/
def gLstD (n : Nat) (gs : List D → Ef Unit) : D → Ef Unit
  | .lst ds => if ds.length = n then gs ds else stk
  | _ => stk
section
variable {X : Cx} {E : SK} {ts : List Nat} {es : List Expr} {gs : List D → Ef Unit} {pos : Pos}
end

theorem HoldS.grow {K : PySem.W.Frag} {bs ex : List Addr} {σ : L2.St} {H F : Hp} {e : En} {L : List Held} (h : HoldS K bs ex σ H F e L) {T : Addr} {o : HO} (hT : H T = none) (n : ∀ ps, o ≠ .tbl ps := by intro _ z; cases z) :
    HoldS K bs ex σ (upd H T o) (upd F T o) e L ∧ Step ex H F (upd H T o) (upd F T o) := by
  obtain ⟨s2, st2⟩ := StR.grow (ex := owns L ++ ex) h.st (grow1 (o := o) hT n)
  exact ⟨⟨s2, h.nd, h.dj, fun y hy => (h.rs y hy).step hy st2⟩, step_owns st2⟩
section
variable {X : Cx} {E : SK} {a b : Expr} {f g : Ef D} {pos px py pt pt2 : Pos} {x y : Str} {o1 o2 : Bool} {kt k2 : Nat}
end

/-! ### own exceptions: where their classes lie -/
class CA where
  «at» : Str → Addr
section
variable {X : Cx} {C : Addr} {bmB : List Value} {B newId initId : String}
/-- X(), X an own exception class without own __init__ -/
theorem pmk_own0 {x : Str} {p pos : Pos} (F : ExcBaseFacts B newId initId bmB) (q : PySem.W.excIn X.K C bmB newId = true) (gC : X.mg x = some (.ref C)) (kC : PySem.W.keepIn X.K (.ref C) = true) (r : Raises X (.ref C)) (hg : Gl X x := by rfl)
    (hdb : (x == ("__debug__" : Str)) = false := by decide) : PMk X (.Call (.Name x p) [] [] pos) (fun _ H Q => Q (.ref C) none H) := by
  intro pins s σ H Q I h
  refine wpAny_Call_Name_kw (ld_glob I hg gC ?_ hdb)
  refine PySem.W.callWith_K0 I.kIn kC ?_
  obtain ⟨bm, N, nm, qn, bs, hdct, sn, sub, ab, col, dd, k0, k1, k2, k3, k5, mN, hC, hN, hni, T⟩ := exc_obj I.kIn q
  show wpAny _ _ (call (.ref C) []) _ _ _
  obtain ⟨hp1, g1, d1, tk1, os1⟩ := s
  exact wpAny_call_exc_subT F T hC hN hni (fun h' e hm => mk_of I hm r h (I.hok.gone hm.new)) (Nat.zero_le _)
end
/-- what is known of an own exception class -/
structure OwnX (K : PySem.W.Frag) (mg : Str → Option Value) (x : Str) (C : Addr) : Prop where
  mg : mg x = some (.ref C)
  kp : PySem.W.keepIn K (.ref C) = true
  ex : ∃ bmB B newId initId, ExcBaseFacts B newId initId bmB ∧ PySem.W.excIn K C bmB newId = true
  su : PySem.W.subIn K (.ref C) (.type "BaseException") = some true
  ty : PySem.W.typeIn K (.ref C) = some (.type "type")
def sRaise (c : Addr) : Ef Fl := fun e => .exc c [] e
section
variable {X : Cx} {E : SK} {x : Str} {p pos pos2 : Pos} {c : Addr}
/-- raise X() -/
theorem ds_raise (C : DC X E) (o : OwnX X.K X.mg x c) (hg : Gl X x := by rfl) (hdb : (x == ("__debug__" : Str)) = false := by decide) : DS X E (.Raise (some (.Call (.Name x p) [] [] pos)) none pos2) (sRaise c) := by
  obtain ⟨bmB, B, newId, initId, F, q⟩ := o.ex
  refine ⟨PS.imp (L2.ps_raise C.calm C.tw (pmk_own0 F q o.mg o.kp (raises_own o.su o.ty) hg hdb)) ?_⟩
  rintro D σ H ⟨bs, ex, F0, e, s, p⟩
  exact p σ none H F0 s (Step.refl _ _ _) (by trivial)
end
/-! ### try: .. except X: -/
theorem PostS.mono {K : PySem.W.Frag} {E : SK} {bs ex : List Addr} {H F : Hp} {α : Type} {r : Res α} {P : α → En → L2.St → Hp → Hp → Prop} (p : PostS K E bs ex H F r P) (h : ∀ c as e, r ≠ .exc c as e) (E' : SK) : PostS K E' bs ex H F r P := by
  cases r with
  | ok a e => exact p
  | exc c as e => exact absurd rfl (h c as e)
  | stuck => exact p
section
variable {X : Cx} {E : SK} {x : Str} {np pos pos' : Pos} {c : Addr} {body suite : List Stmt} {b₀ : Stmt} {fb fh : Ef Fl} {m : Addr → Option Bool}
theorem DC.tr (C : DC X E) {E' : SK} {pn : List (Addr × Obj)} {xe : Value → Shared → Prop} (t : Takes (X.tr pn xe) fun c d σ H => E' σ c d H) (po : PassesOwn (model X.prog X.w) X.A X.env xe) : DC (X.tr pn xe) E' :=
  ⟨po, fun σ => passAt t σ, C.calm, C.nd, t⟩
end
/-- the clause's classes by name -/
def mOf [CA] (l : List (Str × Bool)) (c : Addr) : Option Bool := (l.find? fun p => decide (CA.at p.1 = c)).map (·.2)
theorem mOf_ok [CA] {K : PySem.W.Frag} {l : List (Str × Bool)} {c : Addr} (h : ∀ p ∈ l, PySem.W.exmOne K (.ref (CA.at p.1)) (.ref c) = some p.2) : ∀ c0 b, mOf l c0 = some b → PySem.W.exmOne K (.ref c0) (.ref c) = some b := by
  intro c0 b hb
  unfold mOf at hb
  cases hf : l.find? fun p => decide (CA.at p.1 = c0) with
  | none => rw [hf] at hb; cases hb
  | some p =>
    rw [hf] at hb
    cases hb
    have h1 := List.find?_some hf
    have h2 : CA.at p.1 = c0 := by simpa using h1
    rw [← h2]
    exact h p (List.mem_of_find?_eq_some hf)
def caOf (K : PySem.W.Frag) (x : Str) : Addr := match PySem.W.nsIn K mainGlobals x with
  | some (some (.ref C)) => C
  | _ => 0
theorem caOf_eq {K : PySem.W.Frag} {x : Str} {C : Addr} (h : PySem.W.nsIn K mainGlobals x = some (some (.ref C))) : caOf K x = C := by unfold caOf; rw [h]
/-! ### name = value in a clause's suite (no calm context there) -/
section
variable {X : Cx} {E : SK} {a : Expr} {f : Ef D} {pos : Pos}
end

/-! ### tuple(x), list(x), x[::-1] of a slot's list that stays as it is -/
def eTupS (i : Nat) : Ef D := bnd (rdV i) fun d => lift (match d with
  | .lst xs => some (.tup xs)
  | _ => none)
def eRevS (i : Nat) : Ef D := bnd (rdV i) fun d => lift (match d with
  | .lst xs => some (.lst xs.reverse)
  | _ => none)
def eListS (i : Nat) : Ef D := bnd (rdV i) fun d => lift (match d with
  | .lst xs => some (.lst xs)
  | _ => none)
section
variable {X : Cx} {E : SK} {x y : Str} {p py pos : Pos}
end
/-- a clause takes a class, by the classes' order -/
theorem exm_of {K : PySem.W.Frag} {C D : Addr} {b : Bool} (hb : PySem.W.subIn K (.ref D) (.type "BaseException") = some true) (hi : PySem.W.isClsIn K D = true) (ht : PySem.W.typeIn K (.ref D) = some (.type "type")) (hs : PySem.W.subIn K (.ref C) (.ref D) = some b) : PySem.W.exmOne K (.ref C) (.ref D) = some b := by
  unfold PySem.W.exmOne
  rw [if_pos (by rw [hb]; rfl)]
  unfold PySem.W.kitCls
  have : (PySem.W.clsIn K D).isSome = true := hi
  dsimp only
  rw [if_pos (by rw [this, ht]; rfl), hs]

/-! ### instances: fields, methods -/
theorem RepF.look {K : PySem.W.Frag} {F : Hp} {x : Str} : ∀ {kds : List (Str × D)} {fs : List (Str × V)}, RepF K F kds fs → (∀ d, kds.lookup x = some d → ∃ v, fs.lookup x = some v ∧ Rep K F d v) ∧ (kds.lookup x = none → fs.lookup x = none)
  | _, _, .nil => ⟨fun d h => by simp at h, fun _ => rfl⟩
  | _, _, .cons (x := y) (d := d0) (v := v0) h t => by
    obtain ⟨i1, i2⟩ := RepF.look (x := x) t
    rw [List.lookup_cons, List.lookup_cons]
    cases c : x == y with
    | true => exact ⟨fun d e => by cases e; exact ⟨_, rfl, h⟩, fun e => by cases e⟩
    | false => exact ⟨i1, i2⟩
def fFld (C : Addr) (x : Str) : D → Option D
  | .ins c fs => if c = C then fs.lookup x else none
  | _ => none
def eFld (C : Addr) (x : Str) (f : Ef D) : Ef D := bnd f fun d => lift (fFld C x d)
/-- what a method promises -/
structure CalM (P : Program) (w : World) (K : PySem.W.Frag) (mg : Str → Option Value) (base : Heap) (k : Nat) (C : Addr) (m : Str) (n : Nat) (g : Ef D) : Prop where
  ex : ∃ (f : Addr) (fd : FuncData) (ps : List Str) (sp : Sp), FnOk P w K mg base (L2.CX P w) k f fd ps sp ∧ Meth K C m f ∧ Binds K fd ps [] ∧ ∀ vs H Q E, spD K n g vs H Q E → sp vs H Q E
def asIns (C : Addr) (m : Str) (d : D) : Ef Unit := fun e => match d with
  | .ins c fs => if c = C ∧ fs.lookup m = none then .ok () e else .stuck
  | _ => .stuck
def eMeth (C : Addr) (m : Str) (n : Nat) (g : Ef D) (f : Ef D) (h : Ef (List D)) : Ef D := bnd f fun d => bnd (asIns C m d) fun _ => bnd h fun ds => callG n g (d :: ds)
def eMeth0 (C : Addr) (m : Str) (g : Ef D) (f : Ef D) : Ef D := bnd f fun d => bnd (asIns C m d) fun _ => callG 1 g [d]
section
variable {X : Cx} {E : SK} {a o : Expr} {es : List Expr} {f : Ef D} {h : Ef (List D)} {pos apos : Pos} {x m : Str} {C : Addr} {k j n : Nat} {g : Ef D}
end
/-! ### a tuple, a text of the module's top -/
section
variable {X : Cx} {E : SK} {pos : Pos} {x : Str}
end

/-! ### making an instance: __init__ that stores fields and fills a list -/
/-- slot 0 holds the instance -/
def ck (x : Addr) : Ef Unit := fun e => match e.s[0]? with
  | some (DL.Slot.val (D.fn y)) => if y = x then .ok () e else .stuck
  | _ => .stuck
theorem ck_ok {x : Addr} {e e' : En} {u : Unit} (h : ck x e = .ok u e') : e' = e ∧ e.s[0]? = some (.val (.fn x)) := by
  unfold ck at h
  split at h
  · rename_i y hy
    split at h
    · rename_i hc; subst hc; cases h; exact ⟨rfl, hy⟩
    · cases h
  · cases h
theorem putF_new {f : Str} {v : V} : ∀ {fs : List (Str × V)}, fs.lookup f = none → putF f v fs = fs ++ [(f, v)]
  | [], _ => rfl
  | (g, x) :: r, h => by
    rw [List.lookup_cons] at h
    have ng : ¬ g = f := fun z => by
      subst z
      rw [beq_self_eq_true] at h
      cases h
    have hb : (f == g) = false := by
      cases c : f == g with
      | false => rfl
      | true => exact absurd (beq_iff_eq.mp c).symm ng
    rw [hb] at h
    show (if g = f then (g, v) :: r else (g, x) :: putF f v r) = _
    rw [if_neg ng, putF_new h]; rfl
theorem RepF.snoc {K : PySem.W.Frag} {F : Hp} {x : Str} {d : D} {v : V} : ∀ {kds : List (Str × D)} {fs : List (Str × V)}, RepF K F kds fs → Rep K F d v → RepF K F (kds ++ [(x, d)]) (fs ++ [(x, v)])
  | _, _, .nil, r => .cons r .nil
  | _, _, .cons h t, r => .cons h (RepF.snoc t r)
theorem RepF.same {K : PySem.W.Frag} {F F' : Hp} (k : Same F F') {d : List (Str × D)} {v : List (Str × V)} (h : RepF K F d v) : RepF K F' d v := h.keep (.of_same k)
theorem RepF.length {K : PySem.W.Frag} {F : Hp} : ∀ {kds : List (Str × D)} {fs : List (Str × V)}, RepF K F kds fs → kds.length = fs.length
  | _, _, .nil => rfl
  | _, _, .cons _ t => by simp [RepF.length t]
/-- the instance x on its way -/
structure IS (K : PySem.W.Frag) (C dx x : Addr) (L : List Addr) (fs : List (Str × V)) (kds : List (Str × D)) (σ : L2.St) (H F : Hp) (e : En) : Prop where
  s : StR K [] (x :: L) σ H F e
  hx : H x = some (.ins C dx fs)
  rf : RepF K F kds fs
  s0 : e.s[0]? = some (.val (.fn x))
  nx : x ∉ L
/-- .. and its list l -/
structure IL (K : PySem.W.Frag) (C dx x l : Addr) (L : List Addr) (fs : List (Str × V)) (kds : List (Str × D)) (nm : Str) (cs : List D) (σ : L2.St) (H F : Hp) (e : En) : Prop where
  s : StR K [] (l :: x :: L) σ H F e
  hx : H x = some (.ins C dx (fs ++ [(nm, .ref l)]))
  hl : ∃ vs, H l = some (.lst vs) ∧ Reps K F cs vs
  rf : RepF K F kds fs
  s0 : e.s[0]? = some (.val (.fn x))
  nl : l ∉ x :: L
  nx : x ∉ L
  nk : fs.lookup nm = none
theorem self0 {K : PySem.W.Frag} {bs ex : List Addr} {σ : L2.St} {H F : Hp} {e : En} {x : Addr} (s : StR K bs ex σ H F e) (h : e.s[0]? = some (.val (.fn x))) : σ[0]? = some (some (.ref x)) := by
  obtain ⟨v, h1, h2⟩ := s.val 0 _ h
  cases h2
  exact h1
section
variable {X : Cx} {E : SK} {C dx x l : Addr} {L : List Addr} {fs : List (Str × V)} {kds : List (Str × D)} {σ : L2.St} {H F : Hp} {e : En} {f : Ef D} {nm : Str} {Dn : Ends}
/-- self.nm = e -/
theorem IS.fld (I : IS X.K C dx x L fs kds σ H F e) (cl : Cls X.K C) (na : NoAttr X.K C nm) (hn : kds.lookup nm = none) (hl : fs.length < 1000) {d : D} {e' : En} (hf : (bnd f fun d => bnd (ck x) fun _ => rtn d) e = .ok d e')
    (p : ∀ H' F' v, IS X.K C dx x L (fs ++ [(nm, v)]) (kds ++ [(nm, d)]) σ H' F' e' → Step L H F H' F' → Dn.nx σ H') : sFld X.K (tVar 0) (tD X.K E f) nm Dn σ H := by
  refine ⟨[], x :: L, F, e, I.s, ?_⟩
  unfold bnd at hf
  cases hfe : f e with
  | ok d1 e1 =>
    rw [hfe] at hf
    dsimp only at hf
    cases hc : ck x e1 with
    | ok u e2 =>
      rw [hc] at hf
      cases hf
      obtain ⟨rfl, s0⟩ := ck_ok hc
      refine fun H1 F1 s1 st1 v r => ⟨_, self0 s1 s0, x, C, dx, fs, rfl, (st1.2 x List.mem_cons_self).trans I.hx, cl, na, hl, ?_⟩
      obtain ⟨s2, st2⟩ := s1.writeEx (o := .ins C dx (putF nm v fs)) trivial I.nx
      have rf := I.rf.same st1.1
      have hnf := rf.look.2 hn
      rw [putF_new hnf] at s2 st2 ⊢
      exact p _ F1 v ⟨s2, upd_same, rf.snoc r, s0, I.nx⟩ ((show Step L H F H1 F1 from ⟨st1.1, fun a ha => st1.2 a (List.mem_cons_of_mem _ ha)⟩).trans st2)
    | exc c as e2 => rw [hc] at hf; cases hf
    | stuck => rw [hc] at hf; cases hf
  | exc c as e1 => rw [hfe] at hf; cases hf
  | stuck => rw [hfe] at hf; cases hf
theorem look_app {nm : Str} {u : V} : ∀ {fs : List (Str × V)}, fs.lookup nm = none → (fs ++ [(nm, u)]).lookup nm = some u
  | [], _ => by simp
  | (g, y) :: r, h => by
    rw [List.lookup_cons] at h
    rw [List.cons_append, List.lookup_cons]
    split at h
    · cases h
    · exact look_app h
/-- self.nm read -/
theorem IL.read {nm : Str} {cs : List D} (I : IL X.K C dx x l L fs kds nm cs σ H F e) (cl : Cls X.K C) (na : NoAttr X.K C nm) {Q : VK} (q : Q (.ref l) H) : tFld X.K (tVar 0) nm σ H Q :=
  ⟨_, self0 I.s I.s0, x, C, dx, _, _, rfl, I.hx, cl, na, look_app I.nk, q⟩
/-- all is made: the list and the instance are left to all -/
theorem IL.done {K : PySem.W.Frag} {nm : Str} {cs : List D} (I : IL K C dx x l L fs kds nm cs σ H F e) : ∃ F', StR K [] L [] H F' ⟨[], []⟩ ∧ Step L H F H F' ∧ Rep K F' (.ins C (kds ++ [(nm, .lst cs)])) (.ref x) := by
  obtain ⟨vs, h1, r⟩ := I.hl
  obtain ⟨F1, s1, st1, r1⟩ := I.s.release (.lst h1 r) I.nl
  obtain ⟨F2, s2, st2, r2⟩ := s1.release (.ins I.hx ((I.rf.same st1.1).snoc r1)) I.nx
  obtain ⟨F3, s3, st3⟩ := s2.leave
  have eb : e.b = [] := List.length_eq_zero_iff.mp (by rw [I.s.bl]; rfl)
  rw [eb] at s3
  exact ⟨F3, s3, ⟨st1.1.trans (st2.1.trans st3.1), fun a _ => rfl⟩, r2.same st3.1⟩
end

def fc (x : Addr) (f : Ef D) : Ef D := bnd f fun d => bnd (ck x) fun _ => rtn d
def tabLoop (x : Addr) (id ib ih : Nat) (b1 b2 : Ef Fl) : List D → List D → Ef (List D)
  | [], cs => rtn cs
  | d :: ds, cs => bnd (setV id d) fun _ => bnd (lift cs.getLast?) fun b => bnd (setV ib b) fun _ => bnd b1 fun fl => match fl with
    | .nx => bnd b2 fun fl2 => match fl2 with
      | .nx => bnd (fc x (eVar ih)) fun h => if cs.length < big then tabLoop x id ib ih b1 b2 ds (cs ++ [h]) else stk
      | _ => stk
    | _ => stk
def tabE (C x : Addr) (n1 n2 n3 n4 : Str) (f1 f2 f3 f4 : Ef D) (fw : Ef (List D)) (id ib ih : Nat) (b1 b2 : Ef Fl) : Ef D :=
  bnd (fc x f1) fun d1 => bnd (fc x f2) fun d2 => bnd (fc x f3) fun d3 => bnd (fc x f4) fun d4 => match d4 with
    | .lst cs0 => bnd fw fun ws => bnd (ck x) fun _ => bnd (tabLoop x id ib ih b1 b2 ws cs0) fun cs => rtn (.ins C [(n1, d1), (n2, d2), (n3, d3), (n4, .lst cs.reverse)])
    | _ => stk
section
variable {X : Cx} {E : SK} {C dx x l : Addr} {L : List Addr} {fs : List (Str × V)} {kds : List (Str × D)} {σ : L2.St} {H F : Hp} {e : En} {f : Ef D} {nm : Str} {Dn : Ends}
theorem IL.step {K : PySem.W.Frag} {cs : List D} (I : IL K C dx x l L fs kds nm cs σ H F e) {σ' : L2.St} {H' F' : Hp} {e' : En} (s : StR K [] (l :: x :: L) σ' H' F' e') (st : Step (l :: x :: L) H F H' F') (s0 : e'.s[0]? = some (.val (.fn x))) :
    IL K C dx x l L fs kds nm cs σ' H' F' e' ∧ Step L H F H' F' := by
  obtain ⟨vs, h1, r⟩ := I.hl
  exact ⟨⟨s, (st.2 x (List.mem_cons_of_mem _ List.mem_cons_self)).trans I.hx, ⟨vs, (st.2 l List.mem_cons_self).trans h1, r.same st.1⟩, I.rf.same st.1, s0, I.nl, I.nx, I.nk⟩,
    ⟨st.1, fun a ha => st.2 a (List.mem_cons_of_mem _ (List.mem_cons_of_mem _ ha))⟩⟩
end

/-! ### C(..): an instance made -/
def spT (K : PySem.W.Frag) (C : Addr) (n : Nat) (g : Addr → List D → Option D) : Sp := fun vs H Q _ => ∃ (x dx : Addr) (L : List Addr) (H0 F : Hp) (ds : List D) (vs' : List V) (z : D), vs = .ref x :: vs' ∧ ds.length = n ∧ H0 x = none ∧ H0 dx = none ∧ dx ≠ x ∧
  H = upd (upd H0 dx (.own x)) x (.ins C dx []) ∧ StR K [] L [] H0 F ⟨[], []⟩ ∧ Reps K F ds vs' ∧ g x ds = some z ∧ ∀ H' F', StR K [] L [] H' F' ⟨[], []⟩ → Step L H0 F H' F' → Rep K F' z (.ref x) → Q .non H'
def tabG (C : Addr) (m : Nat) (n1 n2 n3 n4 : Str) (f1 f2 f3 f4 : Ef D) (fw : Ef (List D)) (id ib ih : Nat) (b1 b2 : Ef Fl) (x : Addr) (ds : List D) : Option D := match tabE C x n1 n2 n3 n4 f1 f2 f3 f4 fw id ib ih b1 b2 ⟨(.fn x :: ds).map .val ++ List.replicate (m - (ds.length + 1)) .und, []⟩ with
  | .ok z _ => some z
  | _ => none
/-- what a class's call promises -/
structure CalN (P : Program) (w : World) (K : PySem.W.Frag) (mg : Str → Option Value) (base : Heap) (k : Nat) (x : Str) (C : Addr) (n : Nat) (g : Addr → List D → Option D) : Prop where
  ex : ∃ (f : Addr) (fd : FuncData) (ps : List Str) (sp : Sp), Mk K C f ∧ FnOk P w K mg base (L2.CX P w) k f fd ps sp ∧ mg x = some (.ref C) ∧ Binds K fd ps [] ∧ ∀ vs H Q E, spT K C n g vs H Q E → sp vs H Q E
open Classical in
noncomputable def newG (n : Nat) (g : Addr → List D → Option D) (ds : List D) : Ef D := fun e => if h : ds.length = n ∧ ∃ z, ∀ x, g x ds = some z then .ok (choose h.2) e else .stuck
noncomputable def eNew (n : Nat) (g : Addr → List D → Option D) (h : Ef (List D)) : Ef D := bnd h (newG n g)
section
variable {X : Cx} {E : SK} {a : Expr} {es : List Expr} {h : Ef (List D)} {pos p : Pos} {x : Str} {C : Addr} {k j n : Nat} {g : Addr → List D → Option D}
end
/-! ### x[k] += e, x a list -/
/-- slot i's list at k -/
def fIxL : D → D → Option D
  | .lst xs, .int j => if 0 ≤ j then xs[j.toNat]? else none
  | _, _ => none
def sAugL (i : Nat) (op : Int → Int → Int) (g f : Ef D) : Ef Fl := bnd (chkV i) fun _ => bnd g fun k => bnd (rdV i) fun o => bnd (lift (fIxL o k)) fun d => bnd f fun w => augP op i k d w
section
variable {X : Cx} {E : SK} {a b : Expr} {es : List Expr} {f g : Ef D} {h : Ef (List D)} {pos tpos pyo apos cpos : Pos} {y x : Str}
/-! ### methods that only read -/
end

/-! ### {k: v for ..}, keys whole numbers or texts -/
def dcLoop (g : D → Ef Unit) (ft : Ef Bool) (fk fe : Ef D) (vs : List Nat) : List D → List (D × D) → Ef (List (D × D))
  | [], acc => rtn acc
  | d :: ds, acc => bnd (g d) fun _ => bnd ft fun t => if t = true then (bnd fk fun k => bnd fe fun y => bnd (wipeD vs) fun _ => match keyM k with
      | some kk => if acc.length < big then dcLoop g ft fk fe vs ds (putDK acc kk y) else stk
      | none => stk) else bnd (wipeD vs) fun _ => dcLoop g ft fk fe vs ds acc
def dcRun (g : D → Ef Unit) (ft : Ef Bool) (fk fe : Ef D) (vs : List Nat) (ds : List D) : Ef D := fun e => if freeS e.s vs = true then (match dcLoop g ft fk fe vs ds [] ⟨wipeS e.s vs, e.b⟩ with
  | .ok acc e' => .ok (.dct acc) ⟨backS e.s e'.s vs, e'.b⟩
  | _ => .stuck) else .stuck
def eDc (fi : Ef (List D)) (g : D → Ef Unit) (ft : Ef Bool) (fk fe : Ef D) (vs : List Nat) : Ef D := bnd fi (dcRun g ft fk fe vs)
theorem RepK.same {K : PySem.W.Frag} {F F' : Hp} (k : Same F F') {d : List (D × D)} {v : List (Key × V)} (h : RepK K F d v) : RepK K F' d v := h.keep (.of_same k)
section
variable {X : Cx} {E : SK} {tg iter kx vx : Expr} {ifs : List Expr} {scope : Scope} {own : List (Str × Nat)} {pos : Pos} {fi : Ef (List D)} {g : D → Ef Unit} {ft : Ef Bool} {fk fe : Ef D} {ts : List Nat}
end

/-! ### great whole numbers -/
def fMulW : D → D → Option D
  | .int i, .int j => if i.natAbs.log2 + j.natAbs.log2 < 1000000 then some (.int (i * j)) else none
  | _, _ => none
def fDivW : D → D → Option D
  | .int i, .int j => if 0 < j ∧ j.natAbs.log2 < 9000 then some (.int (i / j)) else none
  | _, _ => none
section
variable {X : Cx}
end

/-! ### list + list and list * int as new lists of one's own -/
def fAddL : D → D → Option D
  | .lst xs, .lst ys => if xs.length + ys.length ≤ big then some (.lst (xs ++ ys)) else none
  | _, _ => none
def fMulL : D → D → Option D
  | .lst xs, .int k => if k.natAbs < 2 ^ 62 ∧ xs.length * k.toNat ≤ big then some (.lst (List.replicate k.toNat xs).flatten) else none
  | _, _ => none
section
variable {X : Cx} {E : SK} {a b : Expr} {f g : Ef D} {pos : Pos}
end
open LamX NdefX
/-- a lambda's names: its parameters (some of them read in an inner block), the captured ones, its own -/
structure LScope (N ps fr : List Str) (sc : Scope) : Prop where
  kind : sc.kind = .function
  co : sc.isCoroutine = false
  gen : sc.isGenerator = false
  nd : N.Nodup
  pre : N.take (ps.length + fr.length) = ps ++ fr
  par : ∀ x ∈ ps, sc.names.lookup x = some .local ∨ sc.names.lookup x = some .cell
  cel : ∀ y ∈ sc.names, y.2 = .cell → y.1 ∈ ps
  free : ∀ y ∈ sc.names, y.2 = .free → y.1 ∈ fr
  frk : ∀ x ∈ fr, sc.names.lookup x = some .free
section
variable {M : Model} {A : Around} {E : Value → Shared → Prop} {s0 s : Shared} {m cm : Str → Option Value} {env : PySem.Env} {oc : List (Str × Addr)}
end
section
variable {P : Program} {w : World} {K : PySem.W.Frag} {mg : Str → Option Value} {base : Heap} {N ps fr : List Str} {f c' : Addr} {A : Around} {outer : List PySem.Env} {s : Shared} {H : Hp} {E : XK} {us : List Value} {vs : List V} {ws : List (Option V)}
theorem DC.lam {F : NF} (nd : N.Nodup) : DC (ncx (L2.CX P w) P w K mg base N F f A outer s H E) (sk E) :=
  ⟨passes_of rfl, fun σ pins H s e s' => passes_call (takes_of rfl rfl rfl rfl) (fun _ _ _ _ h => h) pins σ H s e s', rfl, nd, takes_of rfl rfl rfl rfl⟩
/-- all cells of a lambda's frame: its own, the captured ones -/
abbrev lamC (s : Shared) (scope : Scope) (cl : List (Str × Addr)) : List (Str × Addr) := cellsFrom (s.heap.objs.size + 1) scope.names [] ++ cl
end
/-- the captured values -/
def capE : List Nat → En → Option (List D)
  | [], _ => some []
  | j :: r, e => match e.s[j]? with
    | some (.val d) => (capE r e).map (d :: ·)
    | _ => none
/-- a lambda called with values, in a def whose slots are e -/
def lamE (n : Nat) (js : List Nat) (g : Ef D) (e : En) (ds : List D) : Res D := match capE js e with
  | some cs => g ⟨(ds ++ cs).map .val ++ List.replicate (n - (ds.length + cs.length)) .und, []⟩
  | none => .stuck
open LamX NdefX
/-- an address that was free in a state -/
structure Fresh (X : Cx) (pins : List (Addr × Obj)) (a : Addr) : Prop where
  new : X.s_0.heap.objs.size ≤ a
  loc : a ≠ X.env.locals
  cel : ∀ x c, X.env.cells.lookup x = some c → c ≠ a
  pin : ∀ p ∈ X.pn ++ pins, p.1 ≠ a
  frm : a ∉ frs X.stack
section
open PySem.W
variable {X : Cx} {pins : List (Addr × Obj)} {σ : L2.St}
/-- what the turns keep -/
structure Keyed (X : Cx) (pins : List (Addr × Obj)) (σ : L2.St) (bs ex : List Addr) (e : En) (H F : Hp) (fA a kS : Addr) (fo : Obj) (e1 : Nat) (ks : List D) (i : Nat) (s' : Shared) : Prop where
  ex : ∃ (Hi Fi : Hp) (kA : Array Value) (ep : Nat), Inv X pins σ Hi s' ∧ StR X.K bs ex σ Hi Fi e ∧ Step ex H F Hi Fi ∧ s'.heap.get? kS = some (seqObj "list" kA ep) ∧ s'.heap.get? a = some (seqObj "list" #[] e1) ∧ Hi a = none ∧ Hi kS = none ∧
    s'.heap.get? fA = some fo ∧ Hi fA = none ∧ EachIs (ValD X.K Fi) kA.toList (ks.take i)
/-- the keys' checks -/
def keysOk (ks : List D) : Bool := ks.all (okd dmax) && alikeB ks && (ks.all tupB || ks.all othB)
/-- what is sorted: by the keys -/
def sortK (xs ks : List D) : List D := ((xs.zip ks).mergeSort (PySem.W.dataLe false fun p => py p.2)).map (·.1)
end
/-- what was no table stays: the state behind a lambda's making -/
theorem StR.ext {K : PySem.W.Frag} {bs ex : List Addr} {σ : L2.St} {H F H2 : Hp} {e : En} (s : StR K bs ex σ H F e) (x : ExtN H H2) (t : TabOk H2) : ∃ F2, StR K bs ex σ H2 F2 e ∧ Step ex H F H2 F2 := by
  have kw : ∀ a, (∃ o, H a = some o ∧ Wr o) → H2 a = H a := fun a ⟨o, h1, h2⟩ => by rw [h1, x a o h1 h2.ntb]
  have k : Same F (seen e.s σ bs ex H2) := fun a o q => by
    have nh : ¬ Hid e.s σ bs ex a := fun z => by rw [s.hid a z] at q; cases q
    have q2 := (s.vis a nh).symm.trans q
    rw [seen_vis nh]
    exact msk_at (x a o (msk_some q2).1 (msk_some q2).2) (msk_some q2).2
  have hd : ∀ a, Hid e.s σ bs ex a → H2 a = H a := fun a h => kw a (s.wr h)
  refine ⟨_, ⟨s.len, fun j d h => ?_, fun j d h => ?_, s.bor, s.inj, s.out, fun a h => seen_hid h, fun a h => seen_vis h, s.bl, fun j d h => ?_, s.bn, s.bx, fun a h => ?_, t⟩, k, fun a h => hd a (.inr (.inr h))⟩
  · obtain ⟨v, h1, h2⟩ := s.val j d h
    exact ⟨v, h1, h2.same k⟩
  · obtain ⟨a, h1, h2⟩ := s.own j d h
    exact ⟨a, h1, h2.same k (hd a (.inl ⟨j, d, h, h1⟩))⟩
  · obtain ⟨a, h1, h2⟩ := s.br j d h
    exact ⟨a, h1, h2.same k (hd a (.inr (.inl (List.mem_of_getElem? h1))))⟩
  · obtain ⟨o, h1, h2⟩ := s.mu a h
    exact ⟨o, by rw [hd a (.inr (.inr h))]; exact h1, h2⟩
/-- the keys of a list's items -/
def keysE (n : Nat) (js : List Nat) (g : Ef D) (e : En) : List D → Option (List D)
  | [] => some []
  | d :: r => match lamE n js g e [d] with
    | .ok k _ => (keysE n js g e r).map (k :: ·)
    | _ => none
/-- sorted(f, key=lambda x: g) -/
def eSortKey (f : Ef D) (n : Nat) (js : List Nat) (g : Ef D) : Ef D := bnd f fun d => fun e => match d with
  | .lst ds => (match keysE n js g e ds with
    | some ks => if ds.length ≤ big ∧ keysOk ks = true then .ok (.lst (sortK ds ks)) e else .stuck
    | none => .stuck)
  | _ => .stuck
section
open PySem.W PySem.Calls
variable {X : Cx} {pins : List (Addr × Obj)} {σ : L2.St}
end
open LamX NdefX
/-- what a def that makes lambdas knows of its code object -/
structure TabD (X : Cx) : Prop where
  ex : ∃ c P, X.env.code = .ref c ∧ TabB X.base X.mg c P ∧ (P, X.env.qual ++ "<lambda>") ∈ TBs.tb ∧ ∀ p ∈ TBs.tb, p.1 = P → p.2 = X.env.qual ++ "<lambda>"
section
open PySem.W PySem.Calls
variable {X : Cx} {E : SK} {a body : Expr} {f g : Ef D} {p lpos kp pos : Pos} {params : Arguments} {scope : Scope} {N fr : List Str} {x : Str} {js : List Nat} {k : Nat}
/-- how a lambda lies in its def -/
structure LamIn (X : Cx) (params : Arguments) (scope : Scope) (N ps fr : List Str) (js : List Nat) : Prop where
  sc : LScope N ps fr scope
  dfl : defaultsOf params X.env = ([], [])
  fre : ∀ y ∈ scope.names, y.2 = .free → X.env.scope.names.lookup y.1 = some .cell ∨ X.env.scope.names.lookup y.1 = some .free
  frs : ∀ y ∈ fr, (y, NameKind.free) ∈ scope.names
  at_ : js.map (fun j => X.N[j]?) = fr.map some
  len : ps.length + fr.length ≤ N.length
end
open LamX NdefX
/-- the def's code object has a table of its own -/
def TabF (mg : Str → Option Value) (base : Heap) (fd : FuncData) (q : Str) : Prop := ∃ c P, fd.code = .ref c ∧ TabB base mg c P ∧ (P, q) ∈ TBs.tb ∧ ∀ p ∈ TBs.tb, p.1 = P → p.2 = q
theorem tab_unique : ∀ {L : List (Addr × Str)} {P : Addr} {q : Str}, (L.map (·.1)).Nodup → (P, q) ∈ L → ∀ p ∈ L, p.1 = P → p.2 = q
  | [], P, q, _, h => nomatch h
  | a :: L, P, q, nd, h => fun p hp e => by
    have nd := List.nodup_cons.mp nd
    rcases List.mem_cons.mp h with h1 | h1
    · rcases List.mem_cons.mp hp with h2 | h2
      · rw [h2, ← h1]
      · exact absurd (List.mem_map.mpr ⟨p, h2, by rw [e, ← h1]⟩) nd.1
    · rcases List.mem_cons.mp hp with h2 | h2
      · exact absurd (List.mem_map.mpr ⟨(P, q), h1, by rw [← h2]; exact e.symm⟩) nd.1
      · exact tab_unique nd.2 h1 p h2 e
section
variable {P : Program} {w : World} {K : PySem.W.Frag} {mg : Str → Option Value} {base : Heap}
end
section
variable {X : Cx}
end
/-! ### on plain data -/
def dcLoopT (g : D → Ef Unit) (ft : Ef Bool) (fk fe : Ef D) (vs : List Nat) : List D → List (D × D) → Ef (List (D × D))
  | [], acc => rtn acc
  | d :: ds, acc => bnd (g d) fun _ => bnd ft fun t => if t = true then (bnd fk fun k => bnd fe fun y => bnd (wipeD vs) fun _ => match keysM k with
      | some kk => if acc.length < big then dcLoopT g ft fk fe vs ds (putDT acc kk y) else stk
      | none => stk) else bnd (wipeD vs) fun _ => dcLoopT g ft fk fe vs ds acc
def dcRunT (g : D → Ef Unit) (ft : Ef Bool) (fk fe : Ef D) (vs : List Nat) (ds : List D) : Ef D := fun e => if freeS e.s vs = true then (match dcLoopT g ft fk fe vs ds [] ⟨wipeS e.s vs, e.b⟩ with
  | .ok acc e' => .ok (.dcT acc) ⟨backS e.s e'.s vs, e'.b⟩
  | _ => .stuck) else .stuck
def eDcT (fi : Ef (List D)) (g : D → Ef Unit) (ft : Ef Bool) (fk fe : Ef D) (vs : List Nat) : Ef D := bnd fi (dcRunT g ft fk fe vs)
theorem RepT.same {K : PySem.W.Frag} {F F' : Hp} (k : Same F F') {d : List (D × D)} {v : List (List Key × V)} (h : RepT K F d v) : RepT K F' d v := h.keep (.of_same k)
section
variable {X : Cx} {E : SK} {tg iter kx vx : Expr} {ifs : List Expr} {scope : Scope} {own : List (Str × Nat)} {pos : Pos} {fi : Ef (List D)} {g : D → Ef Unit} {ft : Ef Bool} {fk fe : Ef D} {ts : List Nat}
end
section
variable {X : Cx} {E : SK} {tg iter elt : Expr} {ifs : List Expr} {scope : Scope} {pos : Pos} {g : D → Ef Unit} {ft : Ef Bool} {fe : Ef D} {ts : List Nat}
end
section
variable {X : Cx}
end
section
variable {X : Cx} {E : SK} {pos p2 py : Pos} {y : Str}
end
section
variable {X : Cx}
end
section
variable {X : Cx} {E : SK} {a b c d : Expr} {f g h k : Ef D} {pos : Pos} {fn fm fl : D → D → Option D} {ta tb tc td : TE} {op op' op'' : CmpOp}
end
section
variable {prog : Program} {w : World} {A : Around} {E : Value → Shared → Prop} {s : Shared}
end
section
variable {X : Cx} {E : SK} {a : Expr} {f : Ef D} {pos : Pos}
end
/-! ### the search that only asks -/
section
variable {P : Program} {w : World} {A : Around} {E : Value → Shared → Prop} {s : Shared} {a : Addr} {L : List (Addr × List Int)} {es : Array (Int × Value)} {ep : Nat} {t : SetTable}
abbrev wayP (t : SetTable) (h : Int) : SetTable.Probe := runAt t.mask (SetTable.bits h % (t.mask + 1)) (SetTable.bits h)
theorem nth_dummy (m : Nat) : ∀ (n : Nat) (p : SetTable.Probe), p.dummy = none → (nth m p n).dummy = none
  | 0, _, h => h
  | n + 1, p, h => nth_dummy m n (adv m p) (by unfold adv; split <;> exact h)
theorem way_add (t : SetTable) (h : Int) (c q : Nat) : (nth t.mask (nth t.mask (wayP t h) c) q).j = way t.mask h (c + q) := by
  show _ = (nth t.mask (wayP t h) (c + q)).j
  rw [nth_add]
/-- the set, in whatever world it was made -/
structure SetQ (P : Program) (w : World) (h : Heap) (a : Addr) (L : List (Addr × List Int)) (es : Array (Int × Value)) (ep : Nat) (t : SetTable) : Prop where
  ob : ∃ o, h.get? a = some o ∧ o.ExactSet ∧ o.data = .set es ep t
  rows : es.toList = rowsOf P w L
  tab : L2.TabOk t (L.map fun p => thash P w p.2)
  tup : ∀ p ∈ L, IsT P w h p.2 p.1
  room : L.length * 5 < t.mask * 3
  fits : t.fits es.size = true
  gw : ¬ t.gaveWay = true
  size : es.size = L.length
theorem SetQ.of {P' : Program} {w' : World} (R : SetTR P' w' s.heap a L es ep t) (T : ∀ p ∈ L, IsT P w s.heap p.2 p.1) : SetQ P w s.heap a L es ep t :=
  ⟨R.ob, R.rows, R.tab, T, R.room, R.fits, R.gw, R.size⟩
theorem SetQ.entry {h : Heap} (R : SetQ P w h a L es ep t) {i : Nat} {p : Addr × List Int} (hp : L[i]? = some p) : es[i]? = some (thash P w p.2, Value.ref p.1) := by
  have := congrArg (fun l => l[i]?) R.rows
  unfold rowsOf at this
  rw [List.getElem?_map, hp, Array.getElem?_toList] at this
  exact this
/-- what an asking search does from the c-th step on; where is a place of the key on the way, if the key is there -/
theorem ask_from (R : SetQ P w s.heap a L es ep t) {x : Addr} {k : List Int} (hx : IsT P w s.heap k x) (hu : A.units < cLine) {K : Nat} (hKf : K < 10 * SetTable.turns t.mask)
    (hK : way t.mask (thash P w k) K ∉ t.place.toList) (hKb : ∀ c, c < K → way t.mask (thash P w k) c ∈ t.place.toList) {Q : SetFound → Shared → Prop}
    (hin : ∀ i, k ∈ L.map (·.2) → Q (.there (some i)) s) (hout : k ∉ L.map (·.2) → Q (.free (way t.mask (thash P w k) K) false) s) :
    ∀ (f c : Nat) (stand : Option SetTable.Probe), stand.getD (t.probeStart (thash P w k)) = nth t.mask (wayP t (thash P w k)) c → c ≤ K → K - c < f →
      (∀ (i : Nat) p, L[i]? = some p → p.2 = k → ∃ c', c ≤ c' ∧ c' < K ∧ t.place.toList[i]? = some (way t.mask (thash P w k) c')) →
      wpAny (model P w) A (setSearchFrom a (.ref x) (thash P w k) false f stand) Q E s := by
  have hash : ∀ (i : Nat) p, L[i]? = some p → (es[i]?.map (·.1)).getD 0 = thash P w p.2 := fun i p hp => by rw [R.entry hp]; rfl
  have lens : t.place.toList.length = L.length := by
    have h2 := R.tab.sz
    rw [List.length_map] at h2
    rw [Array.length_toList]; exact h2
  intro f
  induction f with
  | zero => intro c stand _ _ hf; exact absurd hf (Nat.not_lt_zero _)
  | succ f ih =>
    intro c stand hst hc hf hre
    obtain ⟨o, ho, hex, hd⟩ := R.ob
    have spec := go_spec t R.tab.ris R.tab.dm (fun i => (es[i]?.map (·.1)).getD 0) (thash P w k) (10 * SetTable.turns t.mask) (K - c) (nth t.mask (wayP t (thash P w k)) c) (nth_dummy _ _ _ rfl) (by omega)
      (fun q hq => by rw [way_add]; exact hKb _ (by omega)) (by rw [way_add, show c + (K - c) = K by omega]; exact hK)
    rw [setSearchFrom_succ]
    refine wpAny_bind (wpAny_setState_of ho hd R.fits ?_)
    dsimp only
    refine wp_if_neg R.gw ?_
    try refine wpAny_bind (wpAny_pure ?_)
    rw [hst]
    rcases spec with ⟨q, i, hq, hi, hh, hno, hpr⟩ | ⟨hno, hpr⟩
    · rw [way_add] at hi hpr
      rw [show nth t.mask (nth t.mask (wayP t (thash P w k)) c) (q + 1) = nth t.mask (wayP t (thash P w k)) (c + (q + 1)) from (nth_add _ _ _ _).symm] at hpr
      rw [show t.probe (fun i => (es[i]?.map (·.1)).getD 0) (thash P w k) (nth t.mask (wayP t (thash P w k)) c) = _ from hpr]
      dsimp only
      have hil : i < L.length := by
        have := (List.getElem?_eq_some_iff.mp hi).1
        omega
      obtain ⟨p, hp⟩ : ∃ p, L[i]? = some p := ⟨_, List.getElem?_eq_getElem hil⟩
      have mp := List.mem_of_getElem? hp
      have live : t.slot (way t.mask (thash P w k) (c + q)) = .live i := slot_live R.tab.ris hi
      have go : wpAny (model P w) A (searchRest a (.ref x) (thash P w k) false f es t (way t.mask (thash P w k) (c + q)) i (nth t.mask (wayP t (thash P w k)) (c + (q + 1)))) Q E s := by
        unfold searchRest
        rw [R.entry hp]
        dsimp only
        refine wpAny_bind (wpAny_holding (wpAny_eqBool_tuple hu (R.tup p mp) hx ?_))
        refine wpAny_bind (wpAny_setState_of ho hd R.fits ?_)
        dsimp only
        refine wp_if_neg (by simp) ?_
        try refine wpAny_bind (wpAny_pure ?_)
        rw [sameMem]
        dsimp only
        simp only [if_true, live, R.entry hp]
        refine wpAny_bind (wpAny_isSame_ref_self (wpAny_bind (wpAny_pure ?_)))
        simp only [if_true]
        by_cases e : p.2 = k
        · refine wp_if_pos (by simp [e]) ?_
          exact wpAny_pure (hin i (List.mem_map.mpr ⟨p, mp, e⟩))
        · refine wp_if_neg (by simp [e]) ?_
          refine ih (c + (q + 1)) _ rfl (by omega) (by omega) fun i0 p0 h0 k0 => ?_
          obtain ⟨c', a1, a2, a3⟩ := hre i0 p0 h0 k0
          refine ⟨c', ?_, a2, a3⟩
          apply Classical.byContradiction
          intro z
          by_cases y : c' = c + q
          · subst y
            have l0 := slot_live R.tab.ris a3
            rw [live] at l0
            cases l0
            rw [hp] at h0
            cases h0
            exact e k0
          · refine hno (c' - c) i0 (by omega) (by rw [way_add, show c + (c' - c) = c' by omega]; exact a3) ?_
            rw [← k0]
            exact hash i0 p0 h0
      by_cases led : t.led = true
      · refine wp_if_neg (by simp [led]) ?_
        try refine wpAny_bind (wpAny_pure ?_)
        exact go
      · refine wp_if_pos (by simp [led]) ?_
        refine wpAny_bind (seen_tup hx (fun y hy => ?_) ?_)
        · obtain ⟨u, hu1, rfl⟩ := List.mem_map.mp hy
          have hu2 : u ∈ es.toList ∧ u.1 = thash P w k := by simpa using hu1
          rw [R.rows] at hu2
          obtain ⟨p2, h2, rfl⟩ := List.mem_map.mp hu2.1
          exact ⟨p2.2, p2.1, rfl, R.tup p2 h2⟩
        · refine wp_if_neg (by decide) ?_
          try refine wpAny_bind (wpAny_pure ?_)
          exact go
    · rw [way_add, show c + (K - c) = K by omega] at hpr
      rw [show t.probe (fun i => (es[i]?.map (·.1)).getD 0) (thash P w k) (nth t.mask (wayP t (thash P w k)) c) = _ from hpr]
      dsimp only
      refine wpAny_pure (hout fun hm => ?_)
      obtain ⟨p0, m0, k0⟩ := List.mem_map.mp hm
      obtain ⟨i0, h0⟩ := List.mem_iff_getElem?.mp m0
      obtain ⟨c', a1, a2, a3⟩ := hre i0 p0 h0 k0
      refine hno (c' - c) i0 (by omega) (by rw [way_add, show c + (c' - c) = c' by omega]; exact a3) ?_
      rw [← k0]
      exact hash i0 p0 h0
theorem ask (R : SetQ P w s.heap a L es ep t) {x : Addr} {k : List Int} (hx : IsT P w s.heap k x) (hu : A.units < cLine) {Q : Option Nat → Shared → Prop}
    (h : ∀ r : Option Nat, r.isSome = decide (k ∈ L.map (·.2)) → Q r s) : wpAny (model P w) A (setFind a (.ref x) (thash P w k)) Q E s := by
  have room := R.room
  obtain ⟨K, hKf, hK, hKb⟩ := R.tab.first (by rw [List.length_map]; omega) (thash P w k)
  obtain ⟨o, ho, hex, hd⟩ := R.ob
  unfold setFind setFindIn
  refine wpAny_bind (wpAny_setState_of ho hd R.fits ?_)
  dsimp only
  refine wp_if_neg (by unfold byScan; simp [Value.scannable]) ?_
  try refine wpAny_bind (wpAny_pure ?_)
  have big : K < 100000 := by
    have : 10 * SetTable.turns t.mask ≤ 1420 := by
      unfold SetTable.turns
      rcases R.tab.mok with e | e | e <;> omega
    omega
  refine wpAny_bind (show wpAny _ _ (setSearch a (.ref x) (thash P w k)) _ _ _ from ask_from R hx hu hKf hK hKb (fun i hm => ?_) (fun hm => ?_) 100000 0 none rfl (Nat.zero_le _) (by omega) fun i p hp hk => ?_)
  · exact wpAny_pure (h (some i) (by rw [decide_eq_true hm]; rfl))
  · exact wpAny_pure (h none (by rw [decide_eq_false hm]; rfl))
  · have hil : i < t.place.toList.length := by
      have h1 := (List.getElem?_eq_some_iff.mp hp).1
      have h2 := R.tab.sz
      rw [List.length_map] at h2
      rw [Array.length_toList]; omega
    have hi : (L.map fun p => thash P w p.2)[i]? = some (thash P w k) := by rw [List.getElem?_map, hp]; exact congrArg (fun z => some (thash P w z)) hk
    have hj := List.getElem?_eq_getElem hil
    obtain ⟨c, hc, e⟩ := R.tab.before hK hi hj
    exact ⟨c, Nat.zero_le _, hc, by rw [hj, e]⟩
theorem has_tup (R : SetQ P w s.heap a L es ep t) {x : Addr} {k : List Int} (hx : IsT P w s.heap k x) (hu : A.units + 1 < cLine) {Q : Bool → Shared → Prop}
    (h : ∀ tk, Q (decide (k ∈ L.map (·.2))) { s with toks := tk }) : wpAny (model P w) A (contains (.ref a) (.ref x)) Q E s := by
  obtain ⟨o, ho, hex, hd⟩ := R.ob
  have ty : s.TypeIs (.ref a) "set" := ⟨o, ho, hex.1⟩
  unfold contains
  try with_reducible refine wpAny_holding ?_
  refine wpAny_bind (wpAny_specialOf ty F.slot_set_contains.lookup ?_)
  refine wp_if_neg (by rw [beq_builtin_none]; exact Bool.false_ne_true) ?_
  try refine wpAny_bind (wpAny_pure ?_)
  refine wpAny_bind (wpAny_callSpecialUnlessNone?_slot (name := Str.ofString "__contains__") ty F.slot_set_contains (wpAny_call_entry F.slot_set_contains ty entry_set_contains ?_ (F.args_set_contains_2 _ _)))
  unfold Builtin.«frozenset.__contains__» Builtin.Frozenset.oneOther
  simp only [List.isEmpty_nil, bind_assoc]
  unfold Builtin.Frozenset.addrOf Builtin.Frozenset.withSetAsKey setContains
  refine wpAny_bind (wpAny_pure ?_)
  try dsimp only
  refine wpAny_bind (wpAny_pure ?_)
  try dsimp only
  refine wpAny_bind (wpAny_tryCatch (wpAny_holding (wpAny_bind (wpAny_pyHash_tuple (knd := intKind P w) (by show A.units + 1 < cLine; exact hu) hx ?_))))
  refine wpAny_bind (ask (s := { s with toks := s.toks + (k.length + 1) }) R hx (by show A.units + 1 < cLine; exact hu) fun r hr => ?_)
  refine wpAny_pure ?_
  show wpAny _ _ (ret (Value.bool r.isSome)) _ _ _
  rw [hr]
  exact wpAny_pure ⟨_, rfl, wpAny_truthy_bool (h _)⟩
end
/-! ### as data -/
def tupInts : D → Option (List Int)
  | .tup xs => toInts xs
  | _ => none
def tupsInts : List D → Option (List (List Int))
  | [] => some []
  | d :: r => match tupInts d, tupsInts r with
    | some k, some ks => some (k :: ks)
    | _, _ => none
def dedT : List (List Int) → List (List Int)
  | [] => []
  | k :: r => if k ∈ dedT r then dedT r else k :: dedT r
theorem mem_dedT {k : List Int} : ∀ {r : List (List Int)}, k ∈ dedT r ↔ k ∈ r
  | [] => Iff.rfl
  | a :: r => by
    unfold dedT
    by_cases c : a ∈ dedT r
    · rw [if_pos c, mem_dedT, List.mem_cons]
      exact ⟨.inr, fun h => h.elim (fun e => by rw [e]; exact mem_dedT.mp c) id⟩
    · rw [if_neg c, List.mem_cons, List.mem_cons, mem_dedT]
theorem dedT_nodup : ∀ r : List (List Int), (dedT r).Nodup
  | [] => List.nodup_nil
  | a :: r => by
    unfold dedT
    by_cases c : a ∈ dedT r
    · rw [if_pos c]; exact dedT_nodup r
    · rw [if_neg c]; exact List.nodup_cons.mpr ⟨c, dedT_nodup r⟩
def fSetT : D → Option D
  | .lst xs => match tupsInts xs with
    | some ks => if ks.length < 64 then some (.stt (dedT ks)) else none
    | none => none
  | _ => none
def fInS2 (x y : D) : Option Bool := match y with
  | .stt rows => match tupInts x with
    | some k => some (decide (k ∈ rows))
    | none => none
  | _ => none
def fNotInT (x y : D) : Option D := (fInS2 x y).map fun b => .bl (!b)
theorem tupInts_rep {K : PySem.W.Frag} {F : Hp} {d : D} {v : V} {k : List Int} (r : Rep K F d v) (h : tupInts d = some k) : ∃ a, v = .ref a ∧ F a = some (.tup (k.map V.int)) := by
  cases r with
  | @tup a xs ds hs rs =>
    have e := toInts_eq h
    subst e
    have := rs.ints
    subst this
    exact ⟨a, rfl, hs⟩
  | _ => cases h
theorem tupsInts_reps {K : PySem.W.Frag} {F : Hp} : ∀ {ds : List D} {vs : List V} {ks : List (List Int)}, Reps K F ds vs → tupsInts ds = some ks → ∃ as : List (Addr × List Int), vs = as.map (fun p => V.ref p.1) ∧ as.map (·.2) = ks ∧ ∀ p ∈ as, F p.1 = some (.tup (p.2.map V.int))
  | _, _, _, .nil, h => by cases h; exact ⟨[], rfl, rfl, fun p hp => nomatch hp⟩
  | _, _, _, .cons (d := d) (ds := ds) r t, h => by
    unfold tupsInts at h
    cases h1 : tupInts d with
    | none => rw [h1] at h; cases h
    | some k =>
      cases h2 : tupsInts ds with
      | none => rw [h1, h2] at h; cases h
      | some ks =>
        rw [h1, h2] at h; cases h
        obtain ⟨a, rfl, ha⟩ := tupInts_rep r h1
        obtain ⟨as, rfl, rfl, has⟩ := tupsInts_reps t h2
        refine ⟨(a, k) :: as, rfl, rfl, fun p hp => ?_⟩
        rcases List.mem_cons.mp hp with rfl | hp
        · exact ha
        · exact has p hp
section
variable {X : Cx}
theorem cr_setT (hc : X.calm = true) (hu : X.A.units + 64 < cLine) : CallR X (.type "set") (rFs X (fn1 fSetT)) := by
  intro pins s σ H xs us Q I r h
  obtain ⟨x, rfl, F, d, z, le, r1, hf, q⟩ := rFs1 h
  cases r1 with
  | @lst a xs ds hs rs =>
    unfold fSetT at hf
    dsimp only at hf
    cases hk : tupsInts ds with
    | none => rw [hk] at hf; cases hf
    | some ks =>
      rw [hk] at hf
      dsimp only at hf
      split at hf
      · rename_i hl
        cases hf
        obtain ⟨as, rfl, rfl, has⟩ := tupsInts_reps rs hk
        rw [Vals.ref1 r]
        obtain ⟨its, rv, pl, hz⟩ := I.list (.of (le _ _ hs))
        have hn : H s.heap.objs.size = none := I.hok.fresh (Nat.le_refl _)
        refine call_set_tups (P := X.prog) (w := X.w) as (I.ok.hd hc) pl.isList (by simpa using refs_of_vals rv) (fun p hp => I.isT (sqt le (has p hp))) (by simpa using hl) (by omega) fun h' tk L es ep t R g k => ?_
        have sub : ∀ p ∈ L, p ∈ as := fun p hp => List.mem_of_mem_take (g.sub p hp)
        refine ⟨.ref s.heap.objs.size, _, I.laid (t' := tk) k (Nat.le_refl _) (setTO_new R.t0), rfl, q _ _ _ (grow1 hn fun _ z => by cases z) (.stt upd_same ?_ (dedT_nodup _) fun p hp => ?_)⟩
        · refine (List.perm_ext_iff_of_nodup R.nd (dedT_nodup _)).mpr fun k => ?_
          rw [mem_dedT]
          constructor
          · intro hk
            obtain ⟨p, hp, rfl⟩ := List.mem_map.mp hk
            exact List.mem_map.mpr ⟨p, sub p hp, rfl⟩
          · intro hk
            obtain ⟨p, hp, rfl⟩ := List.mem_map.mp hk
            exact g.all p (by rw [List.take_length]; exact hp)
        · have := has p (sub p hp)
          rw [upd_ne fun z : p.1 = s.heap.objs.size => by rw [z, le.free hn] at this; cases this]
          exact this
      · cases hf
  | _ => cases hf
/-- the set that stands there -/
theorem items_any {P P' : Program} {w w' : World} : ∀ {k : List Int} {vs : List Value}, ItemsAre (intKind P w) k vs → ItemsAre (intKind P' w') k vs
  | _, _, .nil => .nil
  | _, _, .cons h t => .cons h (items_any t)
theorem isT_any {P P' : Program} {w w' : World} {h : Heap} {k : List Int} {a : Addr} (x : IsT P w h k a) : IsT P' w' h k a := by
  obtain ⟨o, its, n, h1, h2, h3, h4⟩ := x
  exact ⟨o, its, n, h1, h2, h3, items_any h4⟩
theorem set_at {P : Program} {w : World} {pins : List (Addr × Obj)} {σ : L2.St} {F H : Hp} {s : Shared} {a : Addr} {L : List (Addr × List Int)} (I : Inv X pins σ H s) (le : Same F H) (h : F a = some (SetTO P w a L)) (ht : ∀ p ∈ L, F p.1 = some (.tup (p.2.map V.int))) :
    ∃ es ep t, SetQ X.prog X.w s.heap a L es ep t := by
  have R0 : SetT0 P w s.heap a L := (I.hok a _ (le _ _ h)).1
  obtain ⟨es, ep, t, R⟩ := R0.full fun p hp => isT_any (I.isT (sqt le (ht p hp)))
  exact ⟨es, ep, t, SetQ.of R fun p hp => I.isT (sqt le (ht p hp))⟩
theorem in_core (neg : Bool) (hu : X.A.units + 1 < cLine) (op : CmpOp) (hop : op = if neg then .NotIn else .In) :
    ∀ (pins : List (Addr × Obj)) (s : Shared) (σ : L2.St) (H : Hp) (x y : V) (v u : Value) (Q : VK), Inv X pins σ H s → RelV x v → RelV y u → (∃ F d e z, Same F H ∧ Rep X.K F d x ∧ Rep X.K F e y ∧ fInS2 d e = some z ∧ Q (.bl (if neg then !z else z)) H) →
      wpAny (model X.prog X.w) X.A (compareOp op v u) (EP X pins σ Q) X.xe s := by
  intro pins s σ H x y v u Q I rx ry ⟨F, d, e, z, le, r1, r2, hf, q⟩
  cases r2 with
  | @stt a P w L rows h hr nd ht =>
    unfold fInS2 at hf
    dsimp only at hf
    cases hk : tupInts d with
    | none => rw [hk] at hf; cases hf
    | some k =>
      rw [hk] at hf
      cases hf
      obtain ⟨b, rfl, hb⟩ := tupInts_rep r1 hk
      cases rx
      cases ry
      obtain ⟨es, ep, t, R⟩ := set_at I le h ht
      have e1 : decide (k ∈ L.map (·.2)) = decide (k ∈ rows) := decide_eq_decide.mpr hr.mem_iff
      have hx := I.isT (sqt (K := X.K) le hb)
      have go : ∀ (Q' : Bool → Shared → Prop), (∀ tk, Q' (decide (k ∈ rows)) { s with toks := tk }) → wpAny (model X.prog X.w) X.A (contains (.ref a) (.ref b)) Q' X.xe s := fun Q' hq => has_tup R hx hu fun tk => by rw [e1]; exact hq tk
      cases neg with
      | true =>
        subst hop
        show wpAny _ _ (do return Value.bool (!(← contains (Value.ref a) (Value.ref b)))) _ _ s
        refine wpAny_bind (go _ fun tk => ?_)
        exact wpAny_pure ⟨.bl _, H, I.tok _, rfl, q⟩
      | false =>
        subst hop
        show wpAny _ _ (do return Value.bool (← contains (Value.ref a) (Value.ref b))) _ _ s
        refine wpAny_bind (go _ fun tk => ?_)
        exact wpAny_pure ⟨.bl _, H, I.tok _, rfl, q⟩
  | _ => cases hf
theorem or_ninT (hu : X.A.units + 65 < cLine) : OpR X (compareOp .NotIn) (rF2 X fNotInT) := by
  intro pins s σ H x y v u Q I rx ry ⟨F, d, e, z, le, r1, r2, hf, q⟩
  unfold fNotInT at hf
  cases hb : fInS2 d e with
  | none => rw [hb] at hf; cases hf
  | some t =>
    rw [hb] at hf; cases hf
    exact in_core true (by omega) .NotIn rfl pins s σ H x y v u Q I rx ry ⟨F, d, e, t, le, r1, r2, hb, q _ _ _ grow0 (.bl !t)⟩
end
section
variable {X : Cx}
end
section
variable {X : Cx} {E : SK} {tg iter kx vx : Expr} {ifs : List Expr} {scope : Scope} {own : List (Str × Nat)} {pos : Pos} {f : Ef D} {g : D → Ef Unit} {ft : Ef Bool} {fk fe : Ef D} {ts : List Nat}
end
section
variable {X : Cx}
theorem kit_dT {pins : List (Addr × Obj)} {σ : L2.St} {H : Hp} {s : Shared} {a : Addr} {kvs : List (List Key × V)} (I : L2.Inv X pins σ H s) (hs : Rd H a (.dT kvs)) : ∃ P : Heap → Prop, PySem.W.KitX X.K (.ref a) (.type "dict") P ∧ P s.heap ∧ (Value.ref a) ≠ .builtin "__main__.__loader__#opaque" := by
  rcases hs with ea | ⟨ob, ea⟩
  · obtain ⟨_, _, xs, _, o, es, ep, h1, h2, _⟩ := (show ObjOk X.prog X.w H s.heap a (.dT kvs) from I.hok a _ ea)
    exact ⟨_, PySem.W.kitx_dict, ⟨o, h1, h2.1⟩, fun z => nomatch z⟩
  · obtain ⟨_, _, _, xs, _, o, es, ep, h1, h2, _⟩ := (show ObjOk X.prog X.w H s.heap a (.frz ob (.dT kvs)) from I.hok a _ ea)
    exact ⟨_, PySem.W.kitx_dict, ⟨o, h1, h2.1⟩, fun z => nomatch z⟩
def fIsiY (d c : D) : Option D := match d with
  | .dcT _ => (match c with
    | .ty n => (kitB "dict" n).map .bl
    | _ => none)
  | _ => fIsi d c
theorem cr_isiY : CallR X (.builtin "isinstance") (rFs X (fn2 fIsiY)) := by
  intro pins s σ H xs us Q I r h
  obtain ⟨x, y, rfl, F, d, c, z, le, r1, r2, hf, q⟩ := rFs2 h
  by_cases hd : ∃ kds, d = .dcT kds
  · obtain ⟨kds, rfl⟩ := hd
    cases r1 with
    | @dT a kvs _ h1 h2 =>
      unfold fIsiY at hf
      dsimp only at hf
      split at hf
      · rename_i n
        cases r2
        cases hb : kitB "dict" n with
        | none => rw [hb] at hf; cases hf
        | some b =>
          rw [hb] at hf; cases hf
          obtain ⟨u1, u2, rfl, ra, rb⟩ := vals2 r
          cases (show u1 = Value.ref a from ra)
          have e2 := (ClsV.ty n).eq rb
          subst e2
          obtain ⟨P, Z, p, hx⟩ := kit_dT I ((Keeps.of_same le).rd _ _ h1)
          exact PySem.W.kia_one Z I.kIn p (kit_ty hb) hx fun tk => ⟨.bl b, H, I.tok tk, rfl, q _ _ _ grow0 (.bl b)⟩
      · cases hf
  · have e : fIsiY d c = fIsi d c := by
      cases d with
      | dcT kds => exact absurd ⟨kds, rfl⟩ hd
      | _ => rfl
    rw [e] at hf
    exact cr_isi pins s σ H _ us Q I r ⟨F, [d, c], z, le, .cons r1 (.cons r2 .nil), hf, q⟩
def fIsiTY (d c : D) : Option D := match d with
  | .dcT _ => (match c with
    | .tup cs => (match tyL cs with
      | some ns => (kitAnyB "dict" ns).map .bl
      | none => none)
    | _ => none)
  | _ => fIsiT d c
theorem cr_isiTY : CallR X (.builtin "isinstance") (rFs X (fn2 fIsiTY)) := by
  intro pins s σ H xs us Q I r h
  obtain ⟨x, y, rfl, F, d, c, z, le, r1, r2, hf, q⟩ := rFs2 h
  by_cases hd : ∃ kds, d = .dcT kds
  · obtain ⟨kds, rfl⟩ := hd
    cases r1 with
    | @dT a kvs _ h1 h2 =>
      unfold fIsiTY at hf
      dsimp only at hf
      split at hf
      · rename_i cs
        split at hf
        · rename_i ns hns
          cases r2 with
          | @tup tp vs _ ht rs =>
            cases hb : kitAnyB "dict" ns with
            | none => rw [hb] at hf; cases hf
            | some b =>
              rw [hb] at hf; cases hf
              obtain ⟨u1, u2, rfl, ra, rb⟩ := vals2 r
              cases (show u1 = Value.ref a from ra)
              cases (show u2 = Value.ref tp from rb)
              obtain ⟨P, Z, p, hx⟩ := kit_dT I ((Keeps.of_same le).rd _ _ h1)
              obtain ⟨_, its, rv, o, g1, g2, n, g3⟩ := (show ObjOk X.prog X.w H s.heap tp (.tup vs) from I.hok tp _ (le _ _ ht))
              have e3 := ClsV.all (tyL_rep rs hns) rv
              subst e3
              obtain ⟨oc, od, dt, sl⟩ := o
              simp only at g2 g3
              subst g2 g3
              exact PySem.W.kia_tup Z I.kIn p g1 (kitAny_of hb) hx fun tk => ⟨.bl b, H, I.tok tk, rfl, q _ _ _ grow0 (.bl b)⟩
        · cases hf
      · cases hf
  · have e : fIsiTY d c = fIsiT d c := by
      cases d with
      | dcT kds => exact absurd ⟨kds, rfl⟩ hd
      | _ => rfl
    rw [e] at hf
    exact cr_isiT pins s σ H _ us Q I r ⟨F, [d, c], z, le, .cons r1 (.cons r2 .nil), hf, q⟩
end
section
variable {X : Cx} {E : SK} {x y : Str} {p py pos : Pos}
end
section
variable {X : Cx}
end
theorem tuple_mul_nil (l : Addr) (items : Array Value) (n : Nat) (dd : Option Addr) (sl : Array (Option Value)) (x : Int) (u : Tok) (c0 : (decide (x < -(2 ^ 63)) || decide (x ≥ 2 ^ 63)) = false) (c1 : (items.isEmpty || x == 1) = false) (c2 : (decide (x ≤ 0) || items.isEmpty) = true) :
    Meets (Builtin.«tuple.__mul__» ⟨[.ref l, .int x u], []⟩) (fun _ R s => s.heap.get? l = some { cls := .type "tuple", dict := dd, data := .seq items n, slots := sl } ∧
      R (.ok (.ret (Value.ref s.heap.objs.size))) { s with heap := s.heap.push { cls := Value.type "tuple", data := Data.seq #[] }, toks := s.toks }) :=
  .of_wp fun prog w A R s h => by
    obtain ⟨hp, g, d, tk, os⟩ := s
    obtain ⟨hl, h⟩ := h
    have f1 := AutoSeq1.idx_int
    wp_walk using wpAny_loadPart' hl
    repeat (first
      | (refine wpAny_ite_false (decide_eq_false (by rw [c0]; exact Bool.false_ne_true)) ?_; wp_walk using wpAny_loadPart' hl)
      | (refine wpAny_ite_false (decide_eq_false (by rw [c1]; exact Bool.false_ne_true)) ?_; wp_walk using wpAny_loadPart' hl)
      | (refine wpAny_ite_true (decide_eq_true c2) ?_; wp_walk using wpAny_loadPart' hl))
    exact ⟨_, rfl, h⟩
theorem tuple_mul_one (l : Addr) (items : Array Value) (n : Nat) (dd : Option Addr) (sl : Array (Option Value)) (x : Int) (u : Tok) (c0 : (decide (x < -(2 ^ 63)) || decide (x ≥ 2 ^ 63)) = false) (c1 : (items.isEmpty || x == 1) = true) :
    Meets (Builtin.«tuple.__mul__» ⟨[.ref l, .int x u], []⟩) (fun _ R s => s.heap.get? l = some { cls := .type "tuple", dict := dd, data := .seq items n, slots := sl } ∧
      R (.ok (.ret (Value.ref l))) s) :=
  .of_wp fun prog w A R s h => by
    obtain ⟨hp, g, d, tk, os⟩ := s
    obtain ⟨hl, h⟩ := h
    have f1 := AutoSeq1.idx_int
    wp_walk using wpAny_loadPart' hl
    repeat (first
      | (refine wpAny_ite_false (decide_eq_false (by rw [c0]; exact Bool.false_ne_true)) ?_; wp_walk using wpAny_loadPart' hl)
      | (refine wpAny_ite_true (decide_eq_true c1) ?_; wp_walk using wpAny_loadPart' hl))
    exact ⟨_, rfl, h⟩
def fMulT : D → D → Option D
  | .tup xs, .int k => if xs ≠ [] ∧ xs.length ≤ 1000 ∧ 0 ≤ k ∧ k ≤ 1000 then some (.tup (List.replicate k.toNat xs).flatten) else none
  | _, _ => none
section
variable {X : Cx}
theorem or_mulT : OpR X (binaryOp .Mult) (rF2 X fMulT) := by
  rintro pins s σ H x y v u Q I rx ry ⟨Fp, d, e, z, le, r1, r2, hf, q⟩
  cases d <;> cases e <;> first | (cases hf; done) | skip
  rename_i ds k
  cases r1 with
  | @tup l xs _ h1 rs1 =>
    cases r2
    simp only [fMulT] at hf
    split at hf
    · rename_i hc
      cases hf
      obtain ⟨hne, hl, k0, k1⟩ := hc
      have xl : ds.length = xs.length := rs1.length
      have hT : SqT X.K H l xs := sqt le h1
      by_cases c : 2 ≤ k
      · refine op_repT pins s σ H _ _ v u Q I rx ry ⟨l, k, xs, rfl, rfl, hT, fun e => hne (List.eq_nil_of_length_eq_zero (by rw [xl, e]; rfl)), c, k1, by omega, fun p hp => q _ _ _ (grow1 hp) (new_tup hp le ?_)⟩
        generalize k.toNat = m
        clear q rx ry
        induction m with
        | zero => exact .nil
        | succ m ih =>
          rw [List.replicate_succ, List.replicate_succ, List.flatten_cons, List.flatten_cons]
          exact rs1.append ih
      · cases rx
        obtain ⟨t, rfl⟩ := ry
        obtain ⟨its, r, ⟨⟨cls, dd, data, sl⟩, ho, hcl, n, hd⟩, hs⟩ := I.tuple hT
        simp only at hcl hd
        subst hcl hd
        have hle : its.length = xs.length := r.length.symm
        have hi : its.toArray.isEmpty = false := by
          cases its with
          | nil => exact absurd (List.eq_nil_of_length_eq_zero (by rw [xl, ← hle]; rfl)) hne
          | cons a b => rfl
        have c0 : (decide (k < -(2 ^ 63)) || decide (k ≥ 2 ^ 63)) = false := by
          rw [decide_eq_false (by omega), decide_eq_false (by omega)] <;> rfl
        by_cases c' : k = 1
        · subst c'
          have c1 : (its.toArray.isEmpty || (1 : Int) == 1) = true := by rw [hi]; rfl
          refine wpAny_binaryOp_repeat_ref (T := "tuple") (U := "int") (by decide) ⟨_, ho, rfl⟩ (fun s' => typeIs_int s' 1 t) noFill_tuple_mul PySem.F.fills_int_mul PySem.F.slot_int_rmul repeat_tuple PySem.F.slot_int_index.lookup
            (call_meets PySem.F.slot_int_rmul (typeIs_int s 1 t) PySem.F.entry_int_rmul (PySem.F.args_int_rmul_2 _ _) (int_rmul_tuple 1 t l its.toArray n dd sl)
              ⟨ho, rfl, ⟨_, ho, rfl⟩, call_meets PySem.F.slot_tuple_mul ⟨_, ho, rfl⟩ PySem.F.entry_tuple_mul (PySem.F.args_tuple_mul_2 _ _) (tuple_mul_one l its.toArray n dd sl 1 t c0 c1) ⟨ho, ?_⟩⟩)
          refine ⟨.ref l, H, I.tok (t := s.toks), rfl, ?_⟩
          have e : (List.replicate (1 : Int).toNat ds).flatten = ds := by
            show (List.replicate 1 ds).flatten = ds
            simp
          rw [e] at q
          exact q _ _ _ grow0 (.tup h1 rs1)
        · have c2 : k = 0 := by omega
          subst c2
          have c1 : (its.toArray.isEmpty || (0 : Int) == 1) = false := by rw [hi]; rfl
          have c3 : (decide ((0 : Int) ≤ 0) || its.toArray.isEmpty) = true := rfl
          refine wpAny_binaryOp_repeat_ref (T := "tuple") (U := "int") (by decide) ⟨_, ho, rfl⟩ (fun s' => typeIs_int s' 0 t) noFill_tuple_mul PySem.F.fills_int_mul PySem.F.slot_int_rmul repeat_tuple PySem.F.slot_int_index.lookup
            (call_meets PySem.F.slot_int_rmul (typeIs_int s 0 t) PySem.F.entry_int_rmul (PySem.F.args_int_rmul_2 _ _) (int_rmul_tuple 0 t l its.toArray n dd sl)
              ⟨ho, rfl, ⟨_, ho, rfl⟩, call_meets PySem.F.slot_tuple_mul ⟨_, ho, rfl⟩ PySem.F.entry_tuple_mul (PySem.F.args_tuple_mul_2 _ _) (tuple_mul_nil l its.toArray n dd sl 0 t c0 c1 c3) ⟨ho, ?_⟩⟩)
          have hn0 : H s.heap.objs.size = none := I.hok.fresh (Nat.le_refl _)
          refine ⟨.ref s.heap.objs.size, _, I.laid (t' := s.toks) (o := .tup []) (fun b ob q => Heap.get?_push_of_some _ q) (Nat.le_refl _) ⟨by rw [sizeLine_eq]; exact Nat.zero_le _, [], .nil, IsTup.new _ _⟩, rfl, q _ _ _ (grow1 hn0) (new_tup hn0 le .nil)⟩
    · cases hf
end
section
variable {X : Cx}
end
section
variable {prog : Program} {w : World} {A : Around} {E : Value → Shared → Prop} {s : Shared} {l : Addr} {its : List Value} {ns : List Int} {Q : Value → Shared → Prop}
end
section
variable {X : Cx}
end
section
variable {prog : Program} {w : World} {A : Around} {R : Result → Shared → Prop} {s : Shared} {elt t1 it1 t2 it2 : Expr} {ifs1 ifs2 : List Expr} {scope : Scope} {pos : Pos} {it acc : Value} {env : Env}
end
section
variable {Y : Cx} {pins : List (Addr × Obj)} {σ : L2.St} {H : Hp} {s : Shared} {elt t1 it1 t2 it2 : Expr} {ifs1 ifs2 : List Expr} {scope : Scope} {pos : Pos} {it D : Addr} {fp : List Addr} {tn : Nat → Heap → Prop} {J : It} {g2 : TG} {tt2 : TT} {te : TE} {vs2 : List Nat} {Nx : Hp → Prop} {R : Result → Shared → Prop}
end
section
variable {X : Cx}
end
/-! ### on plain data -/
section
variable {X : Cx} {E : SK} {tg iter tg2 iter2 elt : Expr} {ifs ifs2 : List Expr} {scope : Scope} {own : List (Str × Nat)} {pos : Pos} {fi fi2 : Ef (List D)} {g g2 : D → Ef Unit} {ft ft2 : Ef Bool} {fe : Ef D} {ts ts2 : List Nat}
end
section
variable {X : Cx}
end
section
variable {X : Cx} {E : SK} {tg iter kx vx : Expr} {ifs : List Expr} {scope : Scope} {own : List (Str × Nat)} {pos : Pos} {f : Ef D} {g : D → Ef Unit} {ft : Ef Bool} {fk fe : Ef D} {ts : List Nat}
end
section
variable {X : Cx} {E : SK} {pos p2 py : Pos} {y : Str}
end
section
variable {K : PySem.W.Frag} {bs ex : List Addr} {σ : L2.St} {H F H' F' : Hp} {e : En}
end
section
variable {X : Cx} {E : SK} {a b c : Expr} {g f h z : Ef D} {pos p py : Pos} {x y : Str} {k j n : Nat}
end
section
variable {X : Cx} {E : SK} {o a : Expr} {f g : Ef D} {apos pos : Pos}
end
/-- the promise of that __init__ -/
def spI (C : Addr) (fld : Str) : Sp := fun vs H Q _ => ∃ a y, vs = [.ref a, y] ∧ H a = some (exo a C none) ∧ ∀ dx, H dx = none → dx ≠ a → Q .non (upd (upd H dx (exd dx [(fld, y)])) a (exo a C (some dx)))
section
open PySem.W PySem.Calls
variable {prog : Program} {w : World} {A : Around} {E : Value → Shared → Prop} {h : Heap} {g : Array GenState} {d : Drawn} {t : Nat} {os : OsState}
variable {nm q : Str} {C N : Addr} {bs bm : List Value} {hdct : Bool} {sn : List Str} {sub : List Value} {ab : Bool} {col : Option Bool} {dd : Option Addr} {k0 k1 k2 k3 k5 : Option Value}
theorem call_mwV {u e t0 : Addr} {rest : List Value} {Q : Value → Shared → Prop}
    (hC : h.get? C = some (excClassObj nm q C N bs bm hdct sn sub ab col dd k0 k1 k2 k3 k5 "ValueError.__new__")) (he : h.get? e = some (excObj C t0 none .none)) (hu : h.get? u = some (kxs_mw "ValueError.__init__" e)) (hrest : rest.length ≤ sizeLine)
    (hq : ∀ h' t1, (∀ b o, b ≠ e → h.get? b = some o → h'.get? b = some o) → h'.get? e = some (excObj C t1 none .none) → Q .none ⟨h', g, d, t, os⟩) :
    wpAny (model prog w) A (call (.ref u) rest) Q E ⟨h, g, d, t, os⟩ := by
  refine wpAny_call (codeAny_of_tree ?_)
  show wpAny _ A.in1 (callAny (.ref u) ⟨rest, []⟩) _ _ _
  simp only [callAny]
  refine wpAny_bind (wpAny_load hu ?_)
  simp only [kxs_mw, show (Value.type "method-wrapper" == Value.type "method" || Value.type "method-wrapper" == Value.type "builtin_function_or_method" || Value.type "method-wrapper" == Value.type "method-wrapper") = true by decide, if_true]
  refine KFB.if_so (by decide) ?_
  refine wpAny_bind (check_bound_init F.excBase_ValueError.toExcCallFacts hC he rfl ?_)
  refine wpAny_bind (wpAny_pure (wpAny_pure ?_))
  refine ⟨plainId_quiet F.excBase_ValueError.init.plain _, codeAny_builtin F.excBase_ValueError.initEntry ?_⟩
  refine exc_init_tree (cls := .ref C) (t0 := t0) (dv := none) (c2 := .none) (c3 := .none) (b4 := .bool false) he hrest fun h' k e1 e2 => ?_
  exact hq h' _ k e1
end
theorem objok_there {P : Program} {w : World} {H : Hp} {h : Heap} {a : Addr} {o : HO} (x : ObjOk P w H h a o) : ∃ u, h.get? a = some u := by
  cases o with
  | lst xs => obtain ⟨_, _, _, _, e⟩ := x; exact ⟨_, e⟩
  | tup xs => obtain ⟨_, _, _, ob, e, _⟩ := x; exact ⟨_, e⟩
  | dK kvs => obtain ⟨_, _, _, _, o, _, _, e, _⟩ := x; exact ⟨_, e⟩
  | dT kvs => obtain ⟨_, _, _, _, o, _, _, e, _⟩ := x; exact ⟨_, e⟩
  | set S n => obtain ⟨o, _, _, _, e, _⟩ := x; exact ⟨_, e⟩
  | ins C dx fs => obtain ⟨_, _, _, e, _⟩ := x; exact ⟨_, e⟩
  | own y => obtain ⟨_, e⟩ := x; exact ⟨_, e⟩
  | xd fs => obtain ⟨_, ⟨_, _, _, e, _⟩, _⟩ := x; exact ⟨_, e⟩
  | rng lo hi => obtain ⟨_, _, _, e⟩ := x; exact ⟨_, e⟩
  | frz ob u => obtain ⟨e, _⟩ := x; exact ⟨_, e⟩
  | tbl ps => exact ⟨_, show h.get? a = some _ from x⟩
  | met f y => exact ⟨_, show h.get? a = some _ from x⟩
  | ext φ => obtain ⟨_, ⟨_, e⟩, _⟩ := x; exact ⟨_, e⟩
section
open PySem.W PySem.Calls
variable {P : Program} {w : World} {K : PySem.W.Frag} {mg : Str → Option Value} {base : Heap} {f C cda cc : Addr} {par fld qual : Str} {params : Arguments} {scope : Scope} {dV kV doc pm ct oc : Value} {an od : Option Addr} {osl : Array (Option Value)}
  {p0 p1 p2 p3 p4 p5 p6 p7 p8 p9 : Pos} {ar : Arg} {ccl cl : Value} {cdd cld : Option Addr} {vs0 : Array Value} {ccs csl : Array (Option Value)} {file : Str} {tf : Tok}
abbrev supBody (par fld : Str) (p0 p1 p2 p3 p4 p5 p6 p7 p8 p9 : Pos) : List Stmt :=
  [.Expr (.Call (.Attribute (.Call (.Name "super" p0) [] [] p1) "__init__" p2) [.Name par p3] [] p4) p5, .Assign [.Attribute (.Name "self" p6) fld p7] (.Name par p8) p9]
theorem supinit_ok (T : OexC K C) (hfl : findIn K (.ref C) fld = some none)
    (ho : K.lookup f = some ⟨oc, od, .func (ksFn "__init__" qual params (supBody par fld p0 p1 p2 p3 p4 p5 p6 p7 p8 p9) scope dV kV doc pm an (.ref cda) ct cc), osl⟩) (hcd : codeIn K (.ref cda) qual = true)
    (hp : (params.posonlyargs ++ params.args).head? = some ar) (har : ar.arg = "self") (hpar : (("self" : Str) == par) = false)
    (hcode : K.lookup cda = some ⟨ccl, cdd, .fields vs0, ccs⟩) (hvs : vs0[2]? = some (.str file tf)) (hfile : ((P.main.file : Str) == file) = true)
    (hcc : K.lookup cc = some ⟨cl, cld, .cell (some (.ref C)), csl⟩)
    (hsup : ks_superIn K C C "__init__" = some (some (.builtin "ValueError.__init__"))) (hmr : mroIn K C (.ref C) = some true) (hB : subIn K (.ref C) (.type "ValueError") = some true)
    (hop : nsIn K cStatics "thirdparty.any" = some none) (hsn : nsIn K mainGlobals "super" = some none) (htop : (P.main.scope.names.lookup ("super" : Str)).isSome = false)
    (hks : scope.names.lookup ("super" : Str) = some .globalImplicit) (hkc : scope.names.lookup ("__class__" : Str) = some .free) (hkself : scope.names.lookup ("self" : Str) = some .local) (hkpar : scope.names.lookup par = some .local)
    (hcell : ∀ x ∈ scope.names, x.2 ≠ .cell) (hev : ∀ L : Addr, ∃ pl : Sem Bool, eval (.Call (.Attribute (.Call (.Name "super" p0) [] [] p1) "__init__" p2) [.Name par p3] [] p4) (ksEnv qual scope L f (.ref cda) cc) = (do
      let ov ← attributeBase (.Call (.Name "super" p0) [] [] p1) "__init__" (ksEnv qual scope L f (.ref cda) cc) (eval (.Call (.Name "super" p0) [] [] p1) (ksEnv qual scope L f (.ref cda) cc))
      standAt p2.atName
      let (f1, first) ← holding [ov] (getMethod ov "__init__" pl)
      callWith p4 f1 first (backTo p4 (starEach [.Name par p3] (ksEnv qual scope L f (.ref cda) cc))) []))
    (hint : ∀ L : Addr, interactive (ksEnv qual scope L f (.ref cda) cc) = false) (hsw1 : ∀ L : Addr, swapsWith (.Call (.Attribute (.Call (.Name "super" p0) [] [] p1) "__init__" p2) [.Name par p3] [] p4) none p5.line (ksEnv qual scope L f (.ref cda) cc) = pure false)
    (hsw2 : ∀ L : Addr, swapsWith (.Name par p8) (some (.Attribute (.Name "self" p6) fld p7)) p9.line (ksEnv qual scope L f (.ref cda) cc) = pure false)
    (hdb : (par == ("__debug__" : Str)) = false) (hco : scope.isCoroutine = false) (hgen : scope.isGenerator = false) (hk : scope.kind = .function) :
    FnOk P w K mg base (L2.CX P w) 1 f (ksFn "__init__" qual params (supBody par fld p0 p1 p2 p3 p4 p5 p6 p7 p8 p9) scope dV kV doc pm an (.ref cda) ct cc) ["self", par] (spI C fld) := by
  refine ⟨fun vs H Q E h => by obtain ⟨a, y, rfl, _⟩ := h; rfl, fun A outer s H args us vs Q E hr e0 hb hv hs => ?_⟩
  obtain ⟨a, y, rfl, ha, hq⟩ := hs
  obtain ⟨u, rfl, ry⟩ : ∃ u, us = [.ref a, u] ∧ RelV y u := by
    cases hv with
    | cons r1 t => cases t with
      | cons r2 t2 => cases t2; exact ⟨_, by rw [show _ = Value.ref a from r1], r2⟩
  obtain ⟨hp0, g, d, t, os⟩ := s
  have kin : K.In hp0 := e0.mod.kin.keeps fun b o e => (e0.bs b o e).1
  obtain ⟨nm, q, N, bs, bm, sn, sub, ab, col, dd, k0, k1, k2, k3, k5, hC, hbm⟩ := T.cls
  have hcl : clsIn K C = some { name := nm, bases := bs, mro := .ref C :: bm, ns := N, qualname := q, hasDict := true, slotNames := sn, subclasses := sub, abstract := ab, collection := col, hasDel := false } := by unfold clsIn; rw [hC] <;> rfl
  have hal : alongIn K "__init__" bm = some (some (.builtin "ValueError.__init__")) := by
    have z := hsup
    unfold ks_superIn at z
    rw [hcl, Option.bind_some] at z
    rw [PySem.ESX.drop_own] at z
    exact z
  obtain ⟨t1, hx⟩ := exo_at e0.hok ha
  have bl : ∀ {x : Str × Value}, x ∈ [(("self" : Str), Value.ref a), (par, u)] → scope.names.lookup x.1 = some .local := fun {x} hx => by
    rcases List.mem_cons.mp hx with rfl | hx
    · exact hkself
    · rcases List.mem_cons.mp hx with rfl | hx
      · exact hkpar
      · cases hx
  refine ks_codeAny_call_defAt (fd := ksFn "__init__" qual params (supBody par fld p0 p1 p2 p3 p4 p5 p6 p7 p8 p9) scope dV kV doc pm an (.ref cda) ct cc) (binds := [("self", .ref a), (par, u)]) hr.depth (kin _ _ ho) rfl (e0.mod.nolimit.keeps fun b o e => (e0.bs b o e).1) (codeRec_of kin hcd) rfl hb hcell (fun x hx => bl hx) (fun h1 hns hk1 => ?_) hco hgen hk
  have kin1 : K.In h1 := kin.keeps hk1
  have mself : (fun x => ([(("self" : Str), Value.ref a), ((par : Str), u)] : List (Str × Value)).reverse.lookup x) "self" = some (.ref a) := by
    show List.lookup ("self" : Str) ([(par, u), ("self", .ref a)] : List (Str × Value)) = _
    rw [List.lookup_cons, hpar]
    rfl
  have mpar : (fun x => ([(("self" : Str), Value.ref a), ((par : Str), u)] : List (Str × Value)).reverse.lookup x) par = some u := by
    show List.lookup par ([(par, u), ("self", .ref a)] : List (Str × Value)) = _
    rw [List.lookup_cons]
    simp
  have hx1 := hk1 _ _ hx
  obtain ⟨mb, hmb, hmbs⟩ := e0.mod.blt
  have kb1 : ∀ b o, base.get? b = some o → h1.get? b = some o := fun b o e => hk1 _ _ (e0.bs b o e).1
  obtain ⟨pl, hev⟩ := hev hp0.objs.size
  refine ks_wpAt_execs_cons (ks_wpAt_Expr_any (hi := hint _) (hs := hsw1 _) (ks_wpAt_MethodCall (he := hev) (ks_wpAt_super_base hks hkc (by decide) rfl (kin1 _ _ ho) rfl hp rfl (kin1 _ _ hcode) rfl hvs hfile htop ?_)))
  rw [har]
  refine ks_loadName_global hk hks (loadGlobal_builtin (mg := mg) (e0.mod.glob.keeps kb1) (mg_none_of (K := K) e0.mod.kin e0.mod.glob hsn) (hmb.keeps kb1) ((hmbs _ (by decide)).trans Boot.«super») ⟨rfl, ?_⟩)
  have hc1 := kin1 _ _ hcc
  refine wpAny_loadName_free hk hkc rfl ⟨_, hc1, rfl⟩ ?_
  refine wpAny_loadName_local hk hkself hns mself ?_
  have hC1 := kin1 _ _ hC
  refine ks_wpAny_isType_cls hC1 rfl ⟨rfl, ?_⟩
  refine ks_wpAny_call_super hC1 rfl hx1 rfl (fun c e => by cases e) (looks_mroIn kin1 hmr) (fun h2 e2 k2 => ?_)
  have kin2 : K.In h2 := kin1.keeps k2
  have hx2 := k2 _ _ hx1
  have hnC : a ≠ C := fun z => by rw [z, hC1] at hx1; cases hx1
  have I2 : InstAt h2 a { cls := .ref C, dict := none, data := .fields #[.ref t1, .none, .none, .none, .bool false, .none] } C none := ⟨hx2, rfl, rfl, trivial⟩
  refine kxs_getMethod kxs_ValueError e2 (looks_opaque kin2 hop) (l₀ := .ref C :: bm) (fun A Q E s k q => wpAny_bind ((looks_clsIn kin2 hcl) A _ E s k (wpAny_pure q))) (PySem.ESX.drop_own C bm) kin2 hal (I2.type.andThen (looks_subIn kin2 hB)) hnC (by decide) ?_
  have k3 : ∀ b o, h2.get? b = some o → (h2.push (kxs_mw "ValueError.__init__" a)).get? b = some o := fun b o e => Heap.get?_push_of_some _ e
  have hu3 : (h2.push (kxs_mw "ValueError.__init__" a)).get? h2.objs.size = some (kxs_mw "ValueError.__init__" a) := Heap.get?_push_at rfl rfl
  generalize hh3 : h2.push (kxs_mw "ValueError.__init__" a) = h3 at k3 hu3
  have k13 : ∀ b o, h1.get? b = some o → h3.get? b = some o := fun b o e => k3 b o (k2 b o e)
  have hns3 := hns.keeps k13
  have hC3 := k13 _ _ hC1
  have hx3 := k13 _ _ hx1
  have haL : a ≠ hp0.objs.size := Nat.ne_of_lt (Heap.lt_size hx)
  refine kxs_callWith (i := "ValueError.__init__") (x := a) rfl (evalArgs_plain (Calls.spliced_cons (PySem.ESX.ldL hns3 mpar (Calls.spliced_nil ⟨hu3, ?_⟩) hk hkpar hdb)))
  show wpAny _ _ (call (.ref h2.objs.size) [u]) _ _ _
  refine call_mwV hC3 hx3 hu3 (show 1 ≤ sizeLine from by rw [sizeLine_eq]; decide) (fun h4 t4 k4 e4 => ?_)
  have hns4 : h4.Ns hp0.objs.size _ := hns3.at fun o e => k4 _ _ haL.symm e
  have kin4 : K.In h4 := fun b o e => k4 b o (fun z => by
    subst z
    have z2 := (e0.mod.kin b o e)
    rw [(e0.bs b o z2).2] at ha
    cases ha) (k13 _ _ (kin1 b o e))
  refine ks_wpAt_execs_cons (ks_wpAt_Assign_Attr (hs := hsw2 _) (wpAt_of_wpAny (PySem.ESX.ldL hns4 mpar (PySem.ESX.ldL hns4 mself ?_ hk hkself (by decide)) hk hkpar hdb)))
  refine set_plain kin4 (ox := { cls := .ref C, dict := none, data := .fields #[.ref t4, .none, .none, .none, .bool false, .none] }) (od := none) ⟨e4, rfl, rfl, trivial⟩ T.sa ?_
  refine PySem.HandSPX.exc_osa kin4 e4 hcl (show PySem.HandSPX.refsVE (.ref C :: bm) = true from hbm) rfl hfl (fun h5 tk' dx k5 dn dne hx5 hn5 => ?_)
  refine wpAt_of_wpAny (wpAny_execs_nil ?_)
  have k05 : ∀ b o, b ≠ a → hp0.get? b = some o → h5.get? b = some o := fun b o hb e => k5 b o hb (k4 b o hb (k13 _ _ (hk1 b o e)))
  have nd : ∀ {b : Addr} {o : Obj}, b ≠ a → hp0.get? b = some o → b ≠ dx := fun {b o} hb q => Nat.ne_of_lt (Nat.lt_of_lt_of_le (Heap.lt_size (k4 b o hb (k13 _ _ (hk1 b o q)))) dn)
  have hnd : H dx = none := by
    cases q : H dx with
    | none => rfl
    | some o =>
      obtain ⟨ob, e⟩ := objok_there (e0.hok dx o q)
      exact absurd rfl (nd dne e)
  have na : ∀ {b : Addr}, H b = none → b ≠ a := fun {b} n z => by
    rw [z, ha] at n
    cases n
  refine ⟨.non, _, rfl, e0.bare, ?_, fun b o q => ?_, rfl, hq dx hnd dne⟩
  · exact {
      keep := fun b o q n _ _ => k05 b o (na n) q
      slot := fun b o q n _ _ => ⟨o.slots, k05 b o (na n) q⟩
      free := fun b o q n _ => by rw [upd_ne (na n), upd_ne (nd (na n) q)]; exact n
      there := fun b o q _ => by
        by_cases hb : b = a
        · exact ⟨_, by rw [hb]; exact hx5⟩
        · exact ⟨o, k05 b o hb q⟩
      tups := fun b xs q => by rw [upd_ne (at_ne ha q exo_tup), upd_ne (ne_of_none q hnd)]; exact q
      frzs := fun b o v q => by rw [upd_ne (at_ne ha q exo_frz), upd_ne (ne_of_none q hnd)]; exact q
      tbls := fun b ps q => ⟨#[], by rw [upd_ne (at_ne ha q exo_tbl), upd_ne (ne_of_none q hnd), q]; simp⟩ }
  · by_cases hb : b = a
    · subst hb
      rw [upd_same] at q
      cases q
      exact exo_ok hx5
    · rw [upd_ne hb] at q
      by_cases hd : b = dx
      · subst hd
        rw [upd_same] at q
        cases q
        exact exd_ok hn5 (relO_put (fs := []) ry fun g => True.intro)
      · rw [upd_ne hd] at q
        exact (e0.hok b o q).stay (fun c v hc z => k05 c v (by
            rcases hc with hc | hc
            · rw [hc]
              exact hb
            · exact at_ne ha hc exo_own) z)
          (fun c hc => by rw [upd_ne (at_ne ha hc exo_own), upd_ne (ne_of_none hc hnd)]; exact hc) (fun c xs hc => by rw [upd_ne (at_ne ha hc exo_tup), upd_ne (ne_of_none hc hnd)]; exact hc)
end
def oexB (K : PySem.W.Frag) (C : Addr) : Bool := match K.lookup C with
  | some ⟨.type "type", _, .cls cd, sl⟩ => (match cd.mro, sl.toList with
    | .ref C' :: bm, [_, _, _, _, some (.builtin n), _] => C' == C && n == "ValueError.__new__" && cd.hasDict && !cd.hasDel && PySem.HandSPX.refsVE bm
    | _, _ => false)
  | _ => false
theorem oexB_of {K : PySem.W.Frag} {C : Addr} (h : oexB K C = true) (sa : PySem.W.findIn K (.ref C) "__setattr__" = some (some (.builtin "object.__setattr__"))) (ex : PySem.W.subIn K (.ref C) (.type "BaseException") = some true)
    (ty : PySem.W.typeIn K (.ref C) = some (.type "type")) (kp : PySem.W.keepIn K (.ref C) = true) : OexC K C := by
  refine ⟨?_, sa, ex, ty, kp⟩
  unfold oexB at h
  split at h
  · rename_i dd cd sl ho
    split at h
    · rename_i C' bm k0 k1 k2 k3 n k5 hm hs
      simp only [Bool.and_eq_true, beq_iff_eq, Bool.not_eq_true'] at h
      obtain ⟨⟨⟨⟨h1, h2⟩, h3⟩, h4⟩, h5⟩ := h
      subst h1
      subst h2
      obtain ⟨nm, bs, mro, N, q, hd, sn, sub, ab, col, del⟩ := cd
      dsimp only at hm h3 h4
      subst hm
      subst h3
      subst h4
      obtain ⟨sl⟩ := sl
      dsimp only at hs
      subst hs
      exact ⟨nm, q, N, bs, bm, sn, sub, ab, col, dd, k0, k1, k2, k3, k5, ho, h5⟩
    · cases h
  · cases h
structure OwnXA (P : Program) (w : World) (K : PySem.W.Frag) (mg : Str → Option Value) (base : Heap) (x : Str) (C : Addr) (fld : Str) : Prop where
  gl : mg x = some (.ref C)
  T : OexC K C
  ini : ∃ fI fd par, PySem.W.findIn K (.ref C) "__init__" = some (some (.ref fI)) ∧ PySem.W.typeIn K (.ref fI) = some (.type "function") ∧ FnOk P w K mg base (L2.CX P w) 1 fI fd ["self", par] (spI C fld) ∧ Binds K fd ["self", par] []
  xf : XfC K C
  nof : PySem.W.findIn K (.ref C) fld = some none
def sRaiseA (c : Addr) (fld : Str) (f : Ef D) : Ef Fl := bnd f fun d e => .exc c [.str fld, d] e
section
variable {X : Cx} {E : SK} {x fld : Str} {p pos pos2 : Pos} {c : Addr} {a : Expr} {f : Ef D}
theorem ds_raiseA (C : DC X E) (o : OwnXA X.prog X.w X.K X.mg X.base x c fld) (hr : Room 2 X.A) (h : DE X E a f) (hg : Gl X x := by rfl) (hdb : (x == ("__debug__" : Str)) = false := by decide)
    (he : starEach [a] X.env = (false, eval a X.env) :: starEach [] X.env := by rfl) (hpl : (backTo pos (starEach [] X.env)).any (·.1) = false := by rfl) :
    DS X E (.Raise (some (.Call (.Name x p) [a] [] pos)) none pos2) (sRaiseA c fld f) := by
  obtain ⟨fI, fd, par, iC, tI, F1, hb⟩ := o.ini
  have hx : Passes (L2.CX X.prog X.w) X (fun _ _ _ => False) := fun pins σ H s e s' I c => by
    obtain ⟨_, _, _, _, _, _, _, _, _, _, _, _, z⟩ := c
    exact z.elim
  refine ⟨PS.imp (L2.ps_raise C.calm C.tw (pmk_oex o.T iC tI F1 hr hb .nil hx hg o.gl (pa_cons h.pe pa_nil he) hdb he hpl)) ?_⟩
  rintro D σ H ⟨bs, ex, F, e, s, p⟩
  refine ⟨bs, ex, F, e, s, p.bndE.imp fun d e1 H1 F1 _ s1 st1 p1 v r => ?_⟩
  refine ⟨Nat.le_of_ble_eq_true rfl, fun a0 ha => ⟨a0, v, rfl, upd_same, fun dx hdx hne => ⟨rfl, dx, [(fld, v)], upd_same, ?_, ?_, ?_⟩⟩⟩
  · rw [upd_ne hne, upd_same]
  · rw [upd_ne hne] at hdx
    exact hdx
  · have hdx1 : H1 dx = none := by rw [upd_ne hne] at hdx; exact hdx
    have e0 : upd (del (upd (upd (upd H1 a0 (exo a0 c none)) dx (exd dx [(fld, v)])) a0 (exo a0 c (some dx))) a0) dx (.xd [(fld, v)]) = upd H1 dx (.xd [(fld, v)]) := by
      funext b
      by_cases hb : b = dx
      · rw [hb, upd_same, upd_same]
      · rw [upd_ne hb, upd_ne hb]
        by_cases hba : b = a0
        · rw [hba, del_same, ha]
        · rw [del_ne hba, upd_ne hba, upd_ne hb, upd_ne hba]
    rw [e0]
    obtain ⟨s2, st2⟩ := s1.grow (F' := upd F1 dx (.xd [(fld, v)])) (H' := upd H1 dx (.xd [(fld, v)])) (.inr ⟨dx, _, hdx1, (fun ps z => by cases z), rfl, rfl⟩)
    exact p1 σ (some dx) _ _ s2 st2 ⟨dx, [(fld, v)], rfl, upd_same, .cons (.str _) (.cons (r.same st2.1) .nil)⟩
end
/-- a clause: its class, its name's slot, what its suite does -/
abbrev Cls3 := Value × Option Nat × (Addr → Value → Option Addr → TS)
/-- behind the suite the name is gone -/
def gone (oi : Option Nat) (D : Ends) : Ends := match oi with
  | none => D
  | some i => { nx := fun σ' H' => D.nx (σ'.set i none) H', rt := D.rt, bk := fun σ' H' => D.bk (σ'.set i none) H', ct := fun σ' H' => D.ct (σ'.set i none) H' }
def named (oi : Option Nat) (a : Addr) (σ : L2.St) : L2.St := match oi with
  | none => σ
  | some i => σ.set i (some (.ref a))
def wCl (K : PySem.W.Frag) (Wout : WX) (D : Ends) : List Cls3 → WX
  | [] => Wout
  | q :: r => fun cls d σ H => ∃ b, PySem.W.exmOne K cls q.1 = some b ∧ (b = true → ∀ a, H a = none → q.2.2 a cls d (gone q.2.1 D) (named q.2.1 a σ) H) ∧ (b = false → wCl K Wout D r cls d σ H)
/-- the name of a clause is a local name with a slot -/
def NmOk (X : Cx) (nm : Option Str) (oi : Option Nat) : Prop := match nm, oi with
  | none, none => True
  | some n, some i => X.N[i]? = some n ∧ X.env.kindOf n = some .local
  | _, _ => False
inductive HdsA (X : Cx) : List ExceptHandler → List Cls3 → Prop
  | nil : HdsA X [] []
  | cons {x : Str} {q : Cls3} {nm : Option Str} {b₀ : Stmt} {suite : List Stmt} {np pos' : Pos} {hds : List ExceptHandler} {l : List Cls3} (hn : NmOk X nm q.2.1) (hc : Names X x q.1)
      (hsu : ∀ (a : Addr) (oe : Obj) (cls : Value) (d : Option Addr) (pn : List (Addr × Obj)), Zc cls d oe → (∃ vs, oe.data = .fields vs) → PSs (X.suite a ((a, oe) :: pn)) (b₀ :: suite) (q.2.2 a cls d)) (r : HdsA X hds l) :
      HdsA X (.ExceptHandler (some (.Name x np)) nm (b₀ :: suite) pos' :: hds) (q :: l)
section
variable {X : Cx} {body : List Stmt} {h₀ : ExceptHandler} {hds : List ExceptHandler} {l : List Cls3} {pos : Pos} {tb : WX → TS} {Wout : WX}
theorem ps_try_names (hs : X.stack = X.env :: X.outer) (hf : X.env.frame = some X.env.locals) (nd : X.N.Nodup) (tk : Takes X Wout)
    (hb : ∀ (W : WX) (pn : List (Addr × Obj)) (xe : Value → Shared → Prop), Takes (X.tr pn xe) W → PassesOwn (model X.prog X.w) X.A X.env xe → PSs (X.tr pn xe) body (tb W))
    (hh : HdsA X (h₀ :: hds) l) : PS X (.Try body (h₀ :: hds) [] [] pos) (fun D σ H => tb (wCl X.K Wout D l) D σ H) := by
  refine ⟨fun pins s σ H D I h => ?_⟩
  have ok := I.ok
  have frm : X.A.frames = some (X.env :: X.outer) := ok.frames.trans (congrArg some hs)
  refine wpAny_Try_except ?_
  refine wpAny_mono ((hb (wCl X.K Wout D l) (X.pn ++ pins) (fun e z1 => wpAny (model X.prog X.w) X.A (noteFrame e X.env) (fun _ z2 => wpAny (model X.prog X.w) X.A (setFlight e none) (fun _ z3 =>
    wpAny (model X.prog X.w) X.A (handleBy e X.env (h₀ :: hds)) (SP X pins D) X.xe z3) X.xe z2) X.xe z1) (fun u z xx => ?_) PassesOwn.looking).run [] s σ H D (I.toTry _) h) (fun f z1 sp => ?_) (fun e z1 he => he)
  · obtain ⟨a, B, sI, pins', σ', H', cls, d, rfl, J', nb, up, sky, na, os, ag, wq⟩ := xx
    have J := J'.ofTry ok
    rw [hs] at sky
    show wpAny _ _ (noteFrame (.ref a) X.env) _ _ _
    refine Sky.land Zc.steady frm hf sky fun h3 fl3 up3 => ?_
    have J3 : Inv X pins σ' H' { z with heap := h3 } := J.landed nb fl3.1 (up.trans up3) os ag
    obtain ⟨oe3, vs3, he3, hz3, hd3⟩ := fl3.there
    have nfr : a ∉ frs (X.env :: X.outer) := fun hm => by
      obtain ⟨_, o', e', hnf⟩ := fl3.2.2.1.mem hm
      rw [he3] at e'
      cases e'
      exact hnf _ hd3
    have nL : a ≠ X.env.locals := fun y => nfr (List.mem_filterMap.mpr ⟨X.env, List.mem_cons_self, hf.trans (congrArg some y.symm)⟩)
    have nF : a ∉ X.fs := fun hm => by
      obtain ⟨v, hv, y⟩ := List.mem_filterMap.mp hm
      exact nfr (List.mem_filterMap.mpr ⟨v, List.mem_cons_of_mem _ hv, y⟩)
    have S3 := J3.suite he3 hd3 na nL nF
    have go : ∀ {hl : List ExceptHandler} {ql : List Cls3}, HdsA X hl ql → wCl X.K Wout D ql cls d σ' H' → wpAny (model X.prog X.w) X.A (handleBy (.ref a) X.env hl) (SP X pins D) X.xe { z with heap := h3 } := by
      intro hl ql hk
      induction hk with
      | nil =>
        intro wn
        refine wpAny_handleBy_nil ?_
        obtain ⟨_, _, _, oe, vs, T, oT, _, he, hz, hd, h1, _⟩ := id fl3
        unfold PySem.passOn
        refine wpAny_bind (wpAny_field he hd h1 ?_)
        rw [if_neg (show ¬ ((Value.ref T == Value.none) = true) from by simp)]
        have fin : wpAny (model X.prog X.w) X.A (setFlight (.ref a) X.env.frame) (fun _ z4 => wpAny (model X.prog X.w) X.A (throw (.ref a) : Sem Flow) (SP X pins D) X.xe z4) X.xe { z with heap := h3 } := by
          rw [hf]
          exact HandSPX.setFlight_upZ fl3 fun h4 hh4 up4 => wpAny_throw (tk _ _ ⟨a, B, sI, pins, σ', H', cls, d, rfl, J, nb, (up.trans up3).trans up4, .inr (.inr (by rw [hs]; exact hh4)), na, os, ag, wn⟩)
        first
          | exact wpAny_bind (wpAny_pure (wpAny_bind fin))
          | exact wpAny_bind fin
      | @cons x q nm b0 suite np pos' hds2 l2 hn hc hsu r ih =>
        intro wn
        obtain ⟨b, hb1, hyes, hno⟩ := wn
        refine wpAny_handleBy_cons (codeAny_handlers_test ?_) (by intro y; cases y)
        have LT : PySem.W.Looks (model X.prog X.w) h3 (typeOf (.ref a)) cls := fun A Q E s k y => wpAny_typeOf_ref (k _ _ he3) (by rw [hz3.1]; exact y)
        have LM := PySem.W.exm_one (M := model X.prog X.w) (J3.kIn) LT hb1
        have nmd : ∀ {Q : Value → Shared → Prop} {E : Value → Shared → Prop}, Q q.1 { z with heap := h3 } → wpAny (model X.prog X.w) (X.A.mark (some (.ref a))) (eval (.Name x np) X.env) Q E { z with heap := h3 } := fun {Q E} y => by
          obtain ⟨hg, hdb, hm | ⟨hm, hv, hnn⟩⟩ := hc
          · exact ld_glob (X := X.suite a ((a, oe3) :: (X.pn ++ pins))) S3 hg hm y hdb
          · exact ld_blt (X := X.suite a ((a, oe3) :: (X.pn ++ pins))) S3 hg hm hv y hnn hdb
        refine nmd (LM.here ?_)
        cases b with
        | false => exact ih (hno rfl)
        | true =>
          obtain ⟨c, oi, ts⟩ := q
          cases nm with
          | none =>
            cases oi with
            | some i => exact hn.elim
            | none =>
              refine codeAny_handlers_suite ?_
              refine HandSPX.lands_againZ fl3 fun h4 fl4 up4 => ?_
              have J4 : Inv X pins σ' H' { z with heap := h4 } := J.landed nb fl4.1 ((up.trans up3).trans up4) os ag
              obtain ⟨oe4, vs4, he4, hz4, hd4⟩ := fl4.there
              have S4 := J4.suite he4 hd4 na nL nF
              refine wpAny_mono ((hsu a oe4 cls d (X.pn ++ pins) hz4 ⟨_, hd4⟩).run [] _ _ H' _ S4 (hyes rfl a na)) (fun f s6 sp6 => ?_) (fun _ _ y => False.elim y)
              cases f with
              | ret u =>
                obtain ⟨v6, σ6, H6, S6, r6, q6⟩ := sp6
                exact ⟨_, _, _, S6.unsuite ok, r6, q6⟩
              | _ =>
                obtain ⟨σ6, H6, S6, q6⟩ := sp6
                exact ⟨_, _, S6.unsuite ok, q6⟩
          | some n =>
            cases oi with
            | none => exact hn.elim
            | some i =>
              obtain ⟨hi, hln⟩ := hn
              refine codeAny_handlers_suite_as ?_
              refine HandSPX.lands_againZ fl3 fun h4 fl4 up4 => ?_
              have J4 : Inv X pins σ' H' { z with heap := h4 } := J.landed nb fl4.1 ((up.trans up3).trans up4) os ag
              obtain ⟨oe4, vs4, he4, hz4, hd4⟩ := fl4.there
              have S4 := J4.suite he4 hd4 na nL nF
              refine store_ok (X := X.suite a ((a, oe4) :: (X.pn ++ pins))) (v := .ref a) S4 nd hi (.inl hln) rfl (fun s5 S5 => ?_) (.inr hln)
              refine wpAny_mono ((hsu a oe4 cls d (X.pn ++ pins) hz4 ⟨_, hd4⟩).run [] s5 _ H' _ S5 (hyes rfl a na)) (fun f s6 sp6 => ?_) (fun _ _ y => False.elim y)
              have fin : ∀ {σ6 : L2.St} {H6 : Hp} {Q : Shared → Prop}, Inv (X.suite a ((a, oe4) :: (X.pn ++ pins))) [] σ6 H6 s6 → (∀ s7, Inv X pins (σ6.set i none) H6 s7 → Q s7) →
                  wpAny (model X.prog X.w) X.A (do bindName X.env n .none; unbindBehindTheSuite X.env n pos') (fun _ s7 => Q s7) X.xe s6 := fun {σ6 H6 Q} S6 hq => gone_ok (S6.unsuite ok) nd hi hln hq
              cases f with
              | ret u =>
                obtain ⟨v6, σ6, H6, S6, r6, q6⟩ := sp6
                exact fin S6 fun s7 J7 => ⟨_, _, _, J7, r6, q6⟩
              | _ =>
                obtain ⟨σ6, H6, S6, q6⟩ := sp6
                exact fin S6 fun s7 J7 => ⟨_, _, J7, q6⟩
    exact go hh wq
  · cases f with
    | next =>
      obtain ⟨σ', H', J', y⟩ := sp
      exact wpAny_execs_nil ⟨σ', H', J'.ofTry ok, y⟩
    | ret u =>
      obtain ⟨v, σ', H', J', r, y⟩ := sp
      exact ⟨v, σ', H', J'.ofTry ok, r, y⟩
    | _ =>
      obtain ⟨σ', H', J', y⟩ := sp
      exact ⟨σ', H', J'.ofTry ok, y⟩
end
section
variable {K : PySem.W.Frag} {bs ex : List Addr} {σ : L2.St} {H F : Hp} {e : En}
end
/-- a clause on data: its name's slot, which classes it takes, what its suite does with the exception's fields -/
abbrev ClD := Option Nat × (Addr → Option Bool) × (List D → Ef Fl)
/-- what a suite is told -/
def tSX (K : PySem.W.Frag) (m : Addr → Option Bool) (oi : Option Nat) (fh : List D → Ef Fl) (a : Addr) (cls : Value) (d : Option Addr) : TS := fun Dn σ H =>
  ∃ bs ex F e as c, cls = .ref c ∧ m c = some true ∧ ExcR K F as d ∧ (∀ i, oi = some i → i < σ.length ∧ σ[i]? = some (some (.ref a))) ∧ StR K bs ex σ H F e ∧ PostS K ES0 bs ex H F (fh as e) fun fl _ σ' H' F' => FlP K Dn fl σ' H' F'
inductive DHs (X : Cx) : List ExceptHandler → List Cls3 → List ClD → Prop
  | nil : DHs X [] [] []
  | cons {x : Str} {c : Addr} {nm : Option Str} {oi : Option Nat} {m : Addr → Option Bool} {fh : List D → Ef Fl} {b₀ : Stmt} {suite : List Stmt} {np pos' : Pos} {hds : List ExceptHandler} {l : List Cls3} {cl : List ClD}
      (hn : NmOk X nm oi) (hc : Names X x (.ref c)) (hm : ∀ c0 b, m c0 = some b → PySem.W.exmOne X.K (.ref c0) (.ref c) = some b)
      (hh : ∀ (a : Addr) (oe : Obj) (cls : Value) (d : Option Addr) (pn : List (Addr × Obj)), Zc cls d oe → (∃ vs, oe.data = .fields vs) → PSs (X.suite a ((a, oe) :: pn)) (b₀ :: suite) (tSX X.K m oi fh a cls d)) (r : DHs X hds l cl) :
      DHs X (.ExceptHandler (some (.Name x np)) nm (b₀ :: suite) pos' :: hds) ((.ref c, oi, tSX X.K m oi fh) :: l) ((oi, m, fh) :: cl)
theorem DHs.toA {X : Cx} : ∀ {hds : List ExceptHandler} {l : List Cls3} {cl : List ClD}, DHs X hds l cl → HdsA X hds l
  | _, _, _, .nil => .nil
  | _, _, _, .cons hn hc hm hh r => .cons (q := (_, _, _)) hn hc hh r.toA
section
variable {X : Cx} {E : SK} {pos : Pos} {body : List Stmt} {h₀ : ExceptHandler} {hds : List ExceptHandler} {l : List Cls3} {cl : List ClD} {fb : Ef Fl}
/-- a clause whose suite does not ask for the exception -/
theorem DHs.plain {x : Str} {c : Addr} {m : Addr → Option Bool} {b₀ : Stmt} {suite : List Stmt} {np pos' : Pos} {f : Ef Fl} (o : X.mg x = some (.ref c)) (hm : ∀ c0 b, m c0 = some b → PySem.W.exmOne X.K (.ref c0) (.ref c) = some b)
    (hh : ∀ (Y : Cx) (a : Addr) (pn : List (Addr × Obj)), Y = X.suite a pn → DSs Y ES0 (b₀ :: suite) f) (r : DHs X hds l cl) (hg : Gl X x := by rfl) (hdb : (x == ("__debug__" : Str)) = false := by decide) :
    DHs X (.ExceptHandler (some (.Name x np)) none (b₀ :: suite) pos' :: hds) ((.ref c, none, tSX X.K m none (fun _ => f)) :: l) ((none, m, fun _ => f) :: cl) := by
  refine .cons (nm := none) trivial ⟨hg, hdb, .inl o⟩ hm (fun a oe cls d pn _ _ => ⟨fun pins s σ H Dn I h => (hh _ a _ rfl).ps.run pins s σ H Dn I ?_⟩) r
  obtain ⟨bs, ex, F, e, as, c, _, _, _, _, s1, p⟩ := h
  exact ⟨bs, ex, F, e, s1, p⟩
end
/-! ### the suites that ask for the exception's field -/
/-- the one field -/
def fldOf (fld : Str) : List D → Option D
  | [.str g, d] => if g = fld then some d else none
  | _ => none
section
variable {X : Cx} {K : PySem.W.Frag} {F : Hp} {dx : Option Addr} {fld : Str} {d : D}
theorem fldOf_ok {as : List D} (hx : ExcR K F as dx) (h : fldOf fld as = some d) : ∃ dd fs v, dx = some dd ∧ F dd = some (.xd fs) ∧ fs.lookup fld = some v ∧ Rep K F d v := by
  unfold fldOf at h
  split at h
  · rename_i g d'
    split at h
    · rename_i hg
      cases h
      subst hg
      obtain ⟨dd, fs, e1, e2, r⟩ := hx
      cases fs with
      | nil => cases r
      | cons q r' =>
        obtain ⟨y, v⟩ := q
        rw [List.flatMap_cons] at r
        cases r with
        | cons r1 r2 =>
          cases r1
          cases r2 with
          | cons r3 r4 =>
            exact ⟨dd, _, v, e1, e2, by simp [List.lookup], r3⟩
    · cases h
  · cases h
end
theorem mOf_xf [CA] {K : PySem.W.Frag} {fld : Str} {l : List (Str × Bool)} (h : ∀ p ∈ l, p.2 = true → XfC K (CA.at p.1) ∧ PySem.W.findIn K (.ref (CA.at p.1)) fld = some none) : ∀ c, mOf l c = some true → XfC K c ∧ PySem.W.findIn K (.ref c) fld = some none := by
  intro c hb
  unfold mOf at hb
  cases hf : l.find? fun p => decide (CA.at p.1 = c) with
  | none => rw [hf] at hb; cases hb
  | some p =>
    rw [hf] at hb
    have hb : p.2 = true := Option.some.inj hb
    have h2 : CA.at p.1 = c := by simpa using List.find?_some hf
    rw [← h2]
    exact h p (List.mem_of_find?_eq_some hf) hb
open LamX
/-- what is read where the heap was (F, H) is read at (F', H') -/
def Grws (K : PySem.W.Frag) (F H F' H' : Hp) : Prop := ∀ bs ex σ e, StR K bs ex σ H F e → StR K bs ex σ H' F' e ∧ Step ex H F H' F'
theorem Grws.refl {K : PySem.W.Frag} {F H : Hp} : Grws K F H F H := fun bs ex σ e s => ⟨s, Step.refl _ _ _⟩
theorem Grws.of {K : PySem.W.Frag} {F H F' H' : Hp} (g : Grow F H F' H') : Grws K F H F' H' := fun bs ex σ e s => s.grow g
theorem Grws.trans {K : PySem.W.Frag} {F H F1 H1 F2 H2 : Hp} (a : Grws K F H F1 H1) (b : Grws K F1 H1 F2 H2) : Grws K F H F2 H2 := fun bs ex σ e s => by
  obtain ⟨s1, t1⟩ := a _ _ _ _ s
  obtain ⟨s2, t2⟩ := b _ _ _ _ s1
  exact ⟨s2, t1.trans t2⟩
/-- a clause that gives a value -/
abbrev ClV := Option Nat × (Addr → Option Bool) × (List D → Option D)
def selV (c : Addr) (as : List D) : List ClV → Option D
  | [] => none
  | q :: r => match q.2.1 c with
    | some true => q.2.2 as
    | some false => selV c as r
    | none => none
def eErr (g : Ef D) (cl : List ClV) (z : Str) : Ef D := fun e => match g e with
  | .ok _ e' => .ok (.str z) e'
  | .exc c as e' => (match selV c as cl with
    | some v => .ok v e'
    | none => .stuck)
  | .stuck => .stuck
def tSV (K : PySem.W.Frag) (m : Addr → Option Bool) (oi : Option Nat) (fv : List D → Option D) (a : Addr) (cls : Value) (d : Option Addr) : TS := fun Dn σ H =>
  ∃ F as c v, cls = .ref c ∧ m c = some true ∧ Same F H ∧ ExcR K F as d ∧ fv as = some v ∧ (∃ σ0, σ = named oi a σ0) ∧ ∀ F' H' w, Grws K F H F' H' → Rep K F' v w → Dn.rt w H'
inductive HdsV (Z : Cx) : List ExceptHandler → List Cls3 → List ClV → Prop
  | nil : HdsV Z [] [] []
  | cons {x : Str} {c : Addr} {nm : Option Str} {oi : Option Nat} {m : Addr → Option Bool} {fv : List D → Option D} {b₀ : Stmt} {suite : List Stmt} {np pos' : Pos} {hds : List ExceptHandler} {l : List Cls3} {cl : List ClV}
      (hn : NmOk Z nm oi) (hc : Names Z x (.ref c)) (hm : ∀ c0 b, m c0 = some b → PySem.W.exmOne Z.K (.ref c0) (.ref c) = some b)
      (hh : ∀ (a : Addr) (oe : Obj) (cls : Value) (d : Option Addr) (pn : List (Addr × Obj)), Zc cls d oe → (∃ vs, oe.data = .fields vs) → PSs (Z.suite a ((a, oe) :: pn)) (b₀ :: suite) (tSV Z.K m oi fv a cls d)) (r : HdsV Z hds l cl) :
      HdsV Z (.ExceptHandler (some (.Name x np)) nm (b₀ :: suite) pos' :: hds) ((.ref c, oi, tSV Z.K m oi fv) :: l) ((oi, m, fv) :: cl)
theorem HdsV.toA {Z : Cx} : ∀ {hds : List ExceptHandler} {l : List Cls3} {cl : List ClV}, HdsV Z hds l cl → HdsA Z hds l
  | _, _, _, .nil => .nil
  | _, _, _, .cons hn hc hm hh r => .cons (q := (_, _, _)) hn hc hh r.toA
theorem wV_ok {Z : Cx} {Wout : WX} {Dn : Ends} {hds : List ExceptHandler} {l : List Cls3} {cl : List ClV} (h : HdsV Z hds l cl) {F H : Hp} {c : Addr} {as : List D} {d : Option Addr} {v : D} (sm : Same F H) (x : ExcR Z.K F as d) (hs : selV c as cl = some v)
    (q : ∀ F' H' w, Grws Z.K F H F' H' → Rep Z.K F' v w → Dn.rt w H') (σ : L2.St) : wCl Z.K Wout Dn l (.ref c) d σ H := by
  induction h with
  | nil => cases hs
  | @cons y c1 nm oi m fv b0 suite np pos' hds l cl hn hc hm hh r ih =>
    unfold selV at hs
    dsimp only at hs
    cases hmc : m c with
    | none => rw [hmc] at hs; cases hs
    | some b =>
      rw [hmc] at hs
      refine ⟨b, hm c b hmc, fun hb a na => ?_, fun hb => ?_⟩
      · subst hb
        refine ⟨F, as, c, v, rfl, hmc, sm, x, hs, ⟨σ, rfl⟩, ?_⟩
        cases oi with
        | none => exact q
        | some i => exact q
      · subst hb
        exact ih hs
/-- what such a def is -/
structure ErrFn (K : PySem.W.Frag) (mg : Str → Option Value) (x : Str) (cl : List ClV) (z : Str) : Prop where
  ex : ∃ (st : Stmt) (f : Addr) (fd : FuncData) (a : Str) (Ng : List Str), FunD K x x (defArgs st) (defBody st) (defScope st) [] [] f fd ∧ mg x = some (.ref f) ∧ L2.Binds K fd [a] [] ∧ FnScope Ng [a] (defScope st) ∧ Ng[0]? = some a ∧ Vis (defScope st) a ∧
    (a == ("__debug__" : Str)) = false ∧ (a == ("__classdict__" : Str)) = false ∧ (x == ("__debug__" : Str)) = false ∧ ∃ (h₀ : ExceptHandler) (hds : List ExceptHandler) (p1 p2 p3 p4 p5 p6 : Pos) (j : Nat),
      defBody st = [.Try [.Expr (.Call (.Name a p1) [] [] p2) p3] (h₀ :: hds) [] [] p4, .Return (some (.Constant (.str z) j p5)) p6] ∧ ∀ Z : Cx, Z.K = K → Z.mg = mg → Z.N = Ng → Z.env.scope = defScope st → ∃ l, HdsV Z (h₀ :: hds) l cl
/-- what it makes of the lambda's reading -/
def TErr (K : PySem.W.Frag) (cl : List ClV) (z : Str) : (XK → Hp → VK → Prop) → Hp → VK → Prop := fun tl H Q => ∃ Ech : XK, tl Ech H (fun _ H' => Q (.str z) H') ∧
  ∀ cls d H', Ech cls d H' → ∃ c as F' v, cls = .ref c ∧ Same F' H' ∧ ExcR K F' as d ∧ selV c as cl = some v ∧ ∀ F'' H'' w, Grws K F' H' F'' H'' → Rep K F'' v w → Q w H''
theorem err_gives {X : Cx} {Ng : List Str} {x a q z : Str} {sg : Scope} {g : Addr} {cdg : Value} {cl : List ClV} {h₀ : ExceptHandler} {hds : List ExceptHandler} {p1 p2 p3 p4 p5 p6 : Pos} {j : Nat} (nd : Ng.Nodup)
    (hh : ∀ Z : Cx, Z.K = X.K → Z.mg = X.mg → Z.N = Ng → Z.env.scope = sg → ∃ l, HdsV Z (h₀ :: hds) l cl) (h0 : ∀ f : Addr, (L2.start Ng [V.ref f])[0]? = some (some (V.ref f))) :
    GivesTo X Ng x sg g cdg [.Try [.Expr (.Call (.Name a p1) [] [] p2) p3] (h₀ :: hds) [] [] p4, .Return (some (.Constant (.str z) j p5)) p6] a q (TErr X.K cl z) := by
  intro f c' s H Q tl act hc h
  obtain ⟨l, hl⟩ := hh ((cxOf C8.CX0 X.prog X.w X.K X.mg X.base Ng x sg g cdg X.A X.stack s H C8.E0).nox) rfl rfl rfl rfl
  obtain ⟨Ech, h1, h2⟩ := h
  refine ⟨_, pss_cons (ps_try_names (X := (cxOf C8.CX0 X.prog X.w X.K X.mg X.base Ng x sg g cdg X.A X.stack s H C8.E0).nox) (Wout := fun _ _ _ _ => False)
      (tb := fun W D σ H => ∃ Ech : XK, (∀ cls d σ' H', Ech cls d H' → W cls d σ' H') ∧ σ[0]? = some (some (.ref f)) ∧ H c' = some (CodeO c' q) ∧ tl Ech H (fun _ H' => D.nx σ H'))
      rfl rfl nd LamX.takes0 (fun W pn xe tk _ => ?_) hl.toA) (pss_one (ps_ret pe_str)), ?_⟩
  · refine ⟨fun pins s' σ H' D I h' => ?_⟩
    obtain ⟨E1, hW, k1, k2, k3⟩ := h'
    have hp := act W pn xe E1 p1 p2 tk hW
    have hq := pss_one (ps_expr (pos := p3) hp)
    exact hq.run pins s' σ H' D I ⟨k1, k2, k3⟩
  · refine ⟨Ech, fun cls d σ' H' he => ?_, h0 f, hc, h1⟩
    obtain ⟨c, as, F', v, rfl, sm, x, hs, hq⟩ := h2 cls d H' he
    exact wV_ok (Dn := { nx := fun σ1 H1 => tRet (tC (.str z)) { nx := fun _ H' => Q .non H', rt := Q } σ1 H1, rt := Q }) hl sm x hs hq σ'
section
variable {X : Cx}
theorem DC.lamC {A : Around} {outer : List PySem.Env} {s : Shared} {H : Hp} {E : XK} {scope : Scope} {f c' : Addr} (nd : X.N.Nodup) : DC (lamCx X A outer s H E scope f c') (sk E) :=
  ⟨passes_of rfl, fun σ pins H s e s' => passes_call (takes_of rfl rfl rfl rfl) (fun _ _ _ _ h => h) pins σ H s e s', rfl, nd, takes_of rfl rfl rfl rfl⟩
theorem de_err {E : SK} {x z : Str} {cl : List ClV} {k : Nat} {params : Arguments} {body : Expr} {scope : Scope} {g : Ef D} {p lpos pos : Pos} (C : DC X E) (TD : TabD X) (EF : ErrFn X.K X.mg x cl z) (hr : Room (k + 2) X.A) (L : LamS X.env.scope scope)
    (hbody : ∀ (Y : Cx) (E1 : XK), (∃ A outer s H f c', Y = lamCx X A outer s H E1 scope f c') → DC Y (sk E1) → Room k Y.A → DE Y (sk E1) body g)
    (hbind : ∀ (q : Str) (cl : List (Str × Addr)) (pm cv ctv : Value), bindArgs (PySem.W.kla_fn "<lambda>" q params body scope cl pm cv ctv) ⟨[], []⟩ = pure [] := by intros; rfl)
    (hg : Gl X x := by rfl) (hdef : defaultsOf params X.env = ([], []) := by rfl) : DE X E (.Call (.Name x p) [.Lambda params body scope lpos] [] pos) (eErr g cl z) := by
  obtain ⟨st, fg, fd, a, Ng, F, hm, hb, Sg, hNg, hva, d1, d2, d3, h₀, hds, p1, p2, p3, p4, p5, p6, j, hB, hh⟩ := EF.ex
  obtain ⟨oc, od, dV, kV, doc, pm, an, cdv, ct, osl, rfl, lk, hcd, _, _⟩ := F.ex
  obtain ⟨c, P, hcode, TB, hmT, huT⟩ := TD.ex
  have hG := err_gives (X := X) (x := x) (q := X.env.qual ++ "<lambda>") (g := fg) (cdg := cdv) (p1 := p1) (p2 := p2) (p3 := p3) (p4 := p4) (p5 := p5) (p6 := p6) (j := j) (a := a) (z := z) Sg.nd hh (fun f => by
    have hl : 0 < Ng.length := (List.getElem?_eq_some_iff.mp hNg).1
    unfold L2.start
    rfl)
  rw [← hB] at hG
  refine ⟨PE.imp (pe_lamcall (k := k) (t := fun E1 => tD X.K (sk E1) g) (lpos := lpos) (p := p) (pos := pos) hg hm F.kp lk hcd hb Sg hNg hva hG TB hcode hmT huT hr L hdef hbind (fun A outer s H E1 f c' hr' => (hbody _ E1 ⟨A, outer, s, H, f, c', rfl⟩ (DC.lamC C.nd) hr').pe) d3 d1 d2) ?_⟩
  rintro σ H Q ⟨bs, ex, F0, e, s0, p0⟩
  refine ⟨s0.tb, fun H1 eN T1 => ?_⟩
  obtain ⟨F2, S2, st2⟩ := s0.ext eN T1
  have p2 := p0.shift st2
  unfold eErr at p2
  refine ⟨fun cls d H' => ∃ c as e' F', cls = .ref c ∧ g e = .exc c as e' ∧ StR X.K bs ex σ H' F' e' ∧ Step ex H1 F2 H' F' ∧ ExcR X.K F' as d, ⟨bs, ex, F2, e, S2, ?_⟩, fun cls d H' hE => ?_⟩
  · cases hr : g e with
    | stuck => rw [hr] at p2; exact p2.elim
    | ok y e' =>
      rw [hr] at p2
      exact fun H' F' s' st v r => p2 H' F' s' st _ (.str z)
    | exc c as e' => exact fun dx H' F' s' st x => ⟨c, as, e', F', rfl, rfl, s', st, x⟩
  · obtain ⟨c, as, e', F', rfl, hr, s', st, x⟩ := hE
    rw [hr] at p2
    dsimp only at p2
    cases hv : selV c as cl with
    | none => rw [hv] at p2; exact p2.elim
    | some v =>
      rw [hv] at p2
      refine ⟨c, as, F', v, rfl, s'.le, x, hv, fun F'' H'' w gr r => ?_⟩
      obtain ⟨s3, st3⟩ := gr _ _ _ _ s'
      exact p2 H'' F'' s3 (st.trans st3) w r
end
section
variable {X : Cx} {E : SK} {x : Str} {p pos : Pos}
end
section
variable [CA]
variable {X : Cx} {E : SK} {x : Str} {p pos : Pos} {a : Expr} {es : List Expr} {h : Ef (List D)} {l : List (Str × Ef D)} {n i j : Nat}
end
/-! ### suites that tell -/
section
variable {Z : Cx} {m : Addr → Option Bool} {oi : Option Nat} {a : Addr} {oe : Obj} {cls : Value} {d : Option Addr} {pn : List (Addr × Obj)} {z : Str} {j : Nat} {p1 p2 p3 p4 p5 p6 p7 : Pos}
theorem sv_const : PSs (Z.suite a ((a, oe) :: pn)) [.Return (some (.Constant (.str z) j p1)) p2] (tSV Z.K m oi (fun _ => some (.str z)) a cls d) := by
  refine ⟨fun pins s σ H Dn I h => (pss_one (ps_ret pe_str)).run pins s σ H Dn I ?_⟩
  obtain ⟨F, as, c, v, _, _, _, _, hv, _, q⟩ := h
  cases hv
  exact q F H _ .refl (.str z)
end
section
variable {X : Cx} {E : SK} {a c : Expr} {g f z : Ef D} {pos p py : Pos} {x y : Str} {k j n : Nat}
end
theorem gl_of {Z : Cx} {sc : Scope} {x : Str} (h : Z.env.scope = sc) (h2 : sc.names.lookup x = some .globalImplicit) : Gl Z x := by
  show Z.env.scope.names.lookup x = _
  rw [h]
  exact h2
theorem nm_of {Z : Cx} {sc : Scope} {N : List Str} {x : Str} {i : Nat} (hN : Z.N = N) (h : Z.env.scope = sc) (h1 : N[i]? = some x) (h2 : sc.names.lookup x = some .local) : NmOk Z (some x) (some i) := by
  refine ⟨by rw [hN]; exact h1, ?_⟩
  show Z.env.scope.names.lookup x = _
  rw [h]
  exact h2
theorem vis_of {Z : Cx} {sc : Scope} {x : Str} (h : Z.env.scope = sc) (h2 : sc.names.lookup x = some .local) : Vis Z.env.scope x := by
  rw [h]
  exact .inl h2
/-- names that stand at places of their own -/
def CAND [CA] (l : List Str) : Prop := (l.map CA.at).Nodup
section
variable {prog : Program} {w : World} {A : Around} {E : Value → Shared → Prop} {s : Shared} {x y : Addr} {ox oy : Obj}
end
section
variable {X : Cx}
end
section
variable {X : Cx} {E : SK} {pos : Pos}
end
/-- the pairs as they lie -/
inductive PrT (F : Hp) : List Addr → List (List Key × Addr × V) → Prop
  | nil : PrT F [] []
  | cons {p b : Addr} {k : List Key} {v : V} {ps : List Addr} {ks : List (List Key × Addr × V)} (h : F p = some (.tup [.ref b, v])) (hb : F b = some (.tup (k.map kV))) (t : PrT F ps ks) : PrT F (p :: ps) ((k, b, v) :: ks)
theorem PrT.same {F H : Hp} (le : Same F H) : ∀ {ps : List Addr} {ks : List (List Key × Addr × V)}, PrT F ps ks → PrT H ps ks
  | _, _, .nil => .nil
  | _, _, .cons h hb t => .cons (le _ _ h) (le _ _ hb) (t.same le)
section
variable {X : Cx} {E : SK} {a : Expr} {f : Ef D} {pos p : Pos}
end
section
variable {P : Program} {w : World} {A : Around} {E : Value → Shared → Prop} {s : Shared} {a : Addr} {L : List (Addr × List Int)} {es : Array (Int × Value)} {ep : Nat} {t : SetTable}
end
section
variable {X : Cx}
end
section
variable {K : PySem.W.Frag} {bs ex : List Addr} {σ : L2.St} {H F : Hp} {e : En}
end
section
variable {X : Cx} {E : SK} {tg iter elt : Expr} {ifs : List Expr} {scope : Scope} {own : List (Str × Nat)} {pos : Pos} {fi : Ef (List D)} {g : D → Ef Unit} {ft : Ef Bool} {fe : Ef D} {ts : List Nat}
end
section
variable {X : Cx} {E : SK} {es : List Expr} {pos : Pos} {t : TA}
end
section
variable {X : Cx} {E : SK} {o b : Expr} {es : List Expr} {f : Ef D} {h : Ef (List D)} {apos cpos : Pos} {to : TE} {t : TA}
end
open LamX NdefX
/-- one parameter (not a name of the def's), no other name of its own -/
structure LamSD (sc scope : Scope) (N : List Str) (a : Str) : Prop where
  kind : scope.kind = .function
  co : scope.isCoroutine = false
  gen : scope.isGenerator = false
  own : ∀ y ∈ scope.names, y.2 ≠ .cell ∧ (y.2 = .local → y.1 ∉ N)
  free : ∀ y ∈ scope.names, y.2 = .free → sc.names.lookup y.1 = some .cell ∨ sc.names.lookup y.1 = some .free
  par : scope.names.lookup a = some .local
def lamSDB (sc scope : Scope) (N : List Str) (a : Str) : Bool :=
  decide (scope.kind = .function) && (!scope.isCoroutine && (!scope.isGenerator && (decide (scope.names.lookup a = some .local) && scope.names.all fun y => !decide (y.2 = .cell) && ((!decide (y.2 = .local) || !decide (y.1 ∈ N)) && (!decide (y.2 = .free) || (decide (sc.names.lookup y.1 = some .cell) || decide (sc.names.lookup y.1 = some .free)))))))
theorem lamSD_by {sc scope : Scope} {N : List Str} {a : Str} (h : lamSDB sc scope N a = true) : LamSD sc scope N a := by
  unfold lamSDB at h
  simp only [Bool.and_eq_true, Bool.or_eq_true, Bool.not_eq_true', decide_eq_true_eq, decide_eq_false_iff_not, List.all_eq_true] at h
  obtain ⟨h1, h2, h3, hp, h4⟩ := h
  refine ⟨h1, h2, h3, fun y hy => ⟨(h4 y hy).1, fun e => ?_⟩, fun y hy e => ?_, hp⟩
  · rcases (h4 y hy).2.1 with z | z
    · exact absurd e z
    · exact z
  · rcases (h4 y hy).2.2 with z | z
    · exact absurd e z
    · exact z
theorem LamSD.has {X : Cx} {scope : Scope} {N : List Str} {a : Str} (L : LamSD X.env.scope scope N a) (ok : X.Ok) : ∀ y ∈ scope.names, y.2 = .free → ∃ c, X.env.cells.lookup y.1 = some c := fun y hy e => by
  rcases L.free y hy e with k | k
  · exact ok.has _ (.inl k)
  · exact ok.has _ (.inr k)
section
variable {X : Cx} {pins : List (Addr × Obj)} {σ : L2.St} {H HZ : Hp} {s s1 : Shared}
theorem lam_makeD {T : List (Addr × Str)} {c P : Addr} {params : Arguments} {body e0 : Expr} {scope : Scope} {pos : Pos} {E : Value → Shared → Prop} {Q : Value → Shared → Prop} (hE : E = X.xe) (I : L2.Inv X pins σ H s) (TB : TabB X.base X.mg c P) (hcode : X.env.code = .ref c)
    (hm : (P, X.env.qual ++ "<lambda>") ∈ T) (hu : ∀ p ∈ T, p.1 = P → p.2 = X.env.qual ++ "<lambda>") (hT : Tabs T H) (hd : params.defaults = [e0]) (hk0 : params.kw_defaults = []) (pe0 : PE X e0 (tC (.int 0))) (hfree : ∀ y ∈ scope.names, y.2 = .free → ∃ c, X.env.cells.lookup y.1 = some c)
    (h : ∀ (f c' D0 : Addr) (doc pm ctv : Value) (H1 : Hp) (s' : Shared), L2.Inv X pins σ H1 s' → ExtN H H1 → Tabs T H1 →
      s'.heap.get? f = some (PySem.W.kdv_obj "<lambda>" (X.env.qual ++ "<lambda>") params (.expr body) scope (cloFrom X.env.cells scope.names []) (.ref D0) doc pm c' ctv) → H1 f = none → f ∉ frs X.stack → H1 c' = some (CodeO c' (X.env.qual ++ "<lambda>")) → H1 D0 = some (.tup [.int 0]) → Q (.ref f) s') :
    wpAny (model X.prog X.w) X.A (eval (.Lambda params body scope pos) X.env) Q E s := by
  subst hE
  refine PySem.W.kdv_lam (by rw [hd]; rfl) hk0 ?_
  rw [hd]
  refine PySem.W.kdv_all1 (thn (pe0.run pins s σ H (fun v H1 => v = .int 0 ∧ H1 = H) I ⟨rfl, rfl⟩) fun u s0 ⟨v, H0, I0, r0, ev, eH⟩ => PySem.W.kdv_all0 ?_)
  subst ev
  subst eH
  obtain ⟨t0, rfl⟩ := r0
  rw [makeFunction_eq]
  simp only [List.zip_nil_right, List.filterMap_nil, List.isEmpty_nil, List.isEmpty_cons, if_true, pure_bind, Bool.false_eq_true, if_false]
  refine wpAny_bind (wpAny_newTextTuple ?_)
  -- the tuple of the defaults
  have nD : H0 s0.heap.objs.size = none := I0.hok.fresh (Nat.le_refl _)
  obtain ⟨D0, hD0⟩ : ∃ D0, D0 = s0.heap.objs.size := ⟨_, rfl⟩
  have I2 : L2.Inv X pins σ (upd H0 D0 (.tup [.int 0])) { s0 with heap := s0.heap.push { cls := .type "tuple", data := .seq [Value.int 0 t0].toArray } } := by
    rw [hD0]
    exact I0.laid (t' := s0.toks) (fun b u e => Heap.get?_push_of_some _ e) (Nat.le_refl _) (show ObjOk X.prog X.w _ _ _ (.tup [.int 0]) from ⟨by decide, [.int 0 t0], .cons ⟨t0, rfl⟩ .nil, ⟨_, Heap.get?_push_size _ rfl, rfl, _, rfl⟩⟩)
  rw [← hD0] at nD ⊢
  have hT2 : Tabs T (upd H0 D0 (.tup [.int 0])) := hT.ext fun b o e => by rw [upd_ne (ne_of_none e nD)]; exact e
  have eD : ExtN H0 (upd H0 D0 (.tup [.int 0])) := .of fun b o e => by rw [upd_ne (ne_of_none e nD)]; exact e
  have dD : upd H0 D0 (.tup [.int 0]) D0 = some (.tup [.int 0]) := upd_same
  generalize upd H0 D0 (.tup [.int 0]) = H2 at I2 hT2 eD dD
  generalize ({ s0 with heap := s0.heap.push { cls := .type "tuple", data := .seq [Value.int 0 t0].toArray } } : Shared) = s2 at I2 ⊢
  obtain ⟨ps, hP, ht, ha⟩ := hT2 _ hm
  have bP : s2.heap.BuiltinsAt X.mg P := TB.bm.keeps I2.bk
  have hP' : s2.heap.get? P = some { cls := .none, data := .fields ps } := I2.hok P _ hP
  have nofr : ∀ f, s2.heap.objs.size ≤ f → f ∉ frs X.stack := fun f hf z => by
    rcases List.mem_cons.mp (I2.stkSub _ z) with e | e
    · have h1 := I2.lt
      rw [← e] at h1
      exact Nat.lt_irrefl _ (Nat.lt_of_lt_of_le h1 hf)
    · exact I2.nofs hf e
  cases hc : codeAmong pos ps.toList with
  | none =>
    refine PySem.W.kdv_makeTail (mg := X.mg) (c := c) (P := P) (ps := ps) (closure_ok hfree) I2.ok.glob (I2.mod.glob.keeps I2.bk) hcode (TB.code.keeps I2.bk) hP' ht hc TB.gP bP fun c' ctv doc h' tk hx hge hlt hrec htb => ?_
    obtain ⟨c2, oc, vs, t, e2, hoc, hd, hv⟩ := hrec
    cases e2
    have hsz : s2.heap.objs.size ≤ h'.objs.size := Nat.le_trans hge (Nat.le_of_lt hlt)
    have nC : H2 c' = none := I2.hok.fresh hge
    have I1 := inv_table (t' := tk) (more := #[rawInt pos.line, rawInt pos.col, .ref c']) (h' := h'.push (PySem.W.kdv_obj "<lambda>" (X.env.qual ++ "<lambda>") params (.expr body) scope (cloFrom X.env.cells scope.names []) (.ref D0) doc ((X.mg "__name__").getD .none) c' ctv)) I2 hP
      (fun b o hb e => Heap.get?_push_of_some _ (hx b o hb e)) (Heap.get?_push_of_some _ htb) hge ⟨oc, vs, t, Heap.get?_push_of_some _ hoc, hd, hv⟩
    have hE : ExtN H2 (upd (upd H2 P (.tbl (ps ++ #[rawInt pos.line, rawInt pos.col, .ref c']))) c' (CodeO c' (X.env.qual ++ "<lambda>"))) := fun b o e n => by
      rw [upd_ne (ne_of_none e nC), upd_ne (fun z => n ps (Option.some.inj (e.symm.trans (by rw [z]; exact hP))))]
      exact e
    have eL : (ps ++ #[rawInt pos.line, rawInt pos.col, .ref c']).toList = ps.toList ++ [rawInt pos.line, rawInt pos.col, .ref c'] := by simp
    refine h h'.objs.size c' D0 doc ((X.mg "__name__").getD .none) ctv _ _ I1 (eD.trans hE) (fun p hp => ?_) (Heap.get?_push_size _ rfl) ?_ (nofr _ hsz) upd_same (hE _ _ dD (fun _ z => by cases z))
    · by_cases hb : p.1 = P
      · rw [hu p hp hb, hb]
        refine ⟨_, by rw [upd_ne (ne_of_none hP nC), upd_same], by rw [eL]; exact PySem.TriplesOk_snoc _ _ _ _ ht, fun p' cv hcv => ?_⟩
        rw [eL] at hcv
        rcases among_app _ ht hcv with z | z
        · obtain ⟨c0, e1, e2⟩ := ha p' cv z
          exact ⟨c0, e1, hE _ _ e2 codeO_ne⟩
        · exact ⟨c', z, upd_same⟩
      · obtain ⟨ps', a1, a2, a3⟩ := hT2 p hp
        refine ⟨ps', by rw [upd_ne (ne_of_none a1 nC), upd_ne hb]; exact a1, a2, fun p' cv hcv => ?_⟩
        obtain ⟨c0, e1, e2⟩ := a3 p' cv hcv
        exact ⟨c0, e1, hE _ _ e2 codeO_ne⟩
    · have n1 : h'.objs.size ≠ c' := Nat.ne_of_gt hlt
      have n2 : h'.objs.size ≠ P := Nat.ne_of_gt (Nat.lt_of_lt_of_le (Heap.lt_size hP') hsz)
      rw [upd_ne n1, upd_ne n2]
      exact I2.hok.fresh hsz
  | some cv =>
    obtain ⟨c', e, hco⟩ := ha pos cv hc
    subst e
    refine PySem.W.kdv_makeTailHit (mg := X.mg) (c := c) (P := P) (ps := ps) (closure_ok hfree) I2.ok.glob (I2.mod.glob.keeps I2.bk) hcode (TB.code.keeps I2.bk) hP' ht hc bP fun ctv doc h' tk hx hsz => ?_
    have I1 : L2.Inv X pins σ H2 { s2 with heap := h'.push (PySem.W.kdv_obj "<lambda>" (X.env.qual ++ "<lambda>") params (.expr body) scope (cloFrom X.env.cells scope.names []) (.ref D0) doc ((X.mg "__name__").getD .none) c' ctv), toks := tk } := I2.kept fun b o e => Heap.get?_push_of_some _ (hx b o e)
    exact h h'.objs.size c' D0 doc ((X.mg "__name__").getD .none) ctv H2 _ I1 eD hT2 (Heap.get?_push_size _ rfl) (I2.hok.fresh hsz) (nofr _ hsz) hco dD
theorem lam_start2D {A : Around} {outer : List PySem.Env} {E : XK} {scope : Scope} {a : Str} {f c' : Addr} {h₁ : Heap} {tk : Nat} {m : Str → Option Value} (I : L2.Inv X pins σ H s) (L : LamSD X.env.scope scope X.N a) (e0 : Env0 X.prog X.w X.K X.mg X.base A outer s1 HZ) (hd : A.handled = none)
    (un : Un (frs X.stack) [] H HZ s.heap s1.heap) (hns : h₁.Ns s1.heap.objs.size m) (kp : ∀ b o, s1.heap.get? b = some o → h₁.get? b = some o) :
    L2.Inv (lamCx X A outer s1 HZ E scope f c') [] σ HZ { s1 with heap := h₁, toks := tk } := by
  have hfree := L.has I.ok
  have cm : ∀ {y c}, (cloFrom X.env.cells scope.names []).lookup y = some c → X.env.cells.lookup y = some c := fun {y c} e => by
    rcases cloFrom_mem (PySem.mem_of_lookup e) with hm | ⟨h1, h2⟩
    · cases hm
    · obtain ⟨c1, hc⟩ := hfree _ h1 rfl
      have hc : X.env.cells.lookup y = some c1 := hc
      have e2 : c = c1 := by
        rw [h2, hc] <;> rfl
      rw [e2]
      exact hc
  have look : ∀ {y}, scope.names.lookup y = some .free → ∃ c, (cloFrom X.env.cells scope.names []).lookup y = some c := fun {y} hl => by
    have hy : (y, NameKind.free) ∈ scope.names := PySem.mem_of_lookup hl
    exact mem_lookup (cloFrom_has (cells := X.env.cells) (acc := []) hy)
  have cellK : ∀ {c : Addr} {v : Option Value}, H c = none → s.heap.IsCell c v → h₁.IsCell c v := fun {c v} n ⟨o, ho, hd⟩ => by
    obtain ⟨sl, q⟩ := un.any ho n (by simp)
    exact ⟨_, kp _ _ q, hd⟩
  have noA : ∀ b : Addr, b ∉ (lamCx X A outer s1 HZ E scope f c').ex := fun b z => absurd (show b ∈ ([] : List Addr) from z) (by simp)
  refine ⟨⟨e0.mod, L.kind, rfl, rfl, Nat.le_refl _, fun y z c e1 e2 => I.ok.inj y z c (cm e1) (cm e2), fun y hy => ?_, fun y c z _ => ?_, fun _ => hd, Around.frames_deeper e0.frames, .inr ⟨rfl, rfl⟩, fun b z => absurd z (noA b), e0.bs, e0.bsz, fun b _ _ => noA b,
      fun b z => absurd z (noA b), e0.funs, e0.frf⟩,
    rfl, e0.bare, Un.kept kp, ⟨_, hns, fun i y v e1 e2 e3 => ?_⟩, fun y c e => ?_, e0.hok.fresh (Nat.le_refl _), fun y c e => ?_, fun q hq => absurd (show q ∈ ([] : List (Addr × Obj)) ++ [] from hq) (by simp), e0.hok.kept kp, I.len⟩
  · have hy : scope.names.lookup y = some .cell ∨ scope.names.lookup y = some .free := hy
    rcases hy with hy | hy
    · exact absurd rfl (L.own _ (PySem.mem_of_lookup hy)).1
    · exact look hy
  · have z : false = true := z
    cases z
  · have e3 : Vis scope y := e3
    rcases e3 with k | k | k
    · exact absurd (List.mem_of_getElem? e1) ((L.own _ (PySem.mem_of_lookup k)).2 rfl)
    · exact absurd rfl (L.own _ (PySem.mem_of_lookup k)).1
    · obtain ⟨m, hn, hl⟩ := I.loc
      have hvis : Vis X.env.scope y := (L.free _ (PySem.mem_of_lookup k) rfl).elim (fun k => .inr (.inl k)) (fun k => .inr (.inr k))
      obtain ⟨w', r, q⟩ := hl i y v e1 e2 hvis
      obtain ⟨c2, h2⟩ := look k
      refine ⟨w', r, .inr ⟨.inr k, c2, h2, ?_⟩⟩
      have c1 := cm h2
      rcases q with ⟨k', _⟩ | ⟨_, c3, e', z⟩
      · have k' : X.env.scope.names.lookup y = some .local := k'
        rcases L.free _ (PySem.mem_of_lookup k) rfl with k2 | k2 <;> rw [show X.env.scope.names.lookup y = _ from k2] at k' <;> cases k'
      · rw [c1] at e'
        cases e'
        exact cellK (I.freeC y _ c1) z
  · obtain ⟨w', z⟩ := I.cell y c (cm e)
    exact ⟨w', cellK (I.freeC y c (cm e)) z⟩
  · obtain ⟨v, o, ho, hd⟩ := I.cell y c (cm e)
    exact un.free c o ho (I.freeC y c (cm e)) (by simp)
/-- how the one default is bound -/
def BindD (params : Arguments) (body : Expr) (scope : Scope) (a : Str) : Prop :=
  ∀ (q : Str) (cl : List (Str × Addr)) (D0 : Addr) (doc pm cv ctv : Value), ∃ k : Option (Array Value) → Sem (List (Str × Value)), bindArgs (PySem.W.kdv_fn "<lambda>" q params (.expr body) scope cl (.ref D0) doc pm cv ctv) ⟨[], []⟩ = (seqItems? (.ref D0) >>= k) ∧ ∀ t, k (some #[.int 0 t]) = pure [(a, .int 0 t)]
theorem pe_actD {CXg : CXT} {Eg : XK} {Ng : List Str} {qg : Str} {sg : Scope} {g f c' D0 : Addr} {cdg doc pm ctv : Value} {params : Arguments} {body : Expr} {scope : Scope} {k i : Nat} {a b : Str} {pn : List (Addr × Obj)} {xe : Value → Shared → Prop} {W : WX} {E : XK} {tb : TE} {p1 p2 : Pos}
    (I : L2.Inv X pins σ H s) (L : LamSD X.env.scope scope X.N b) (hf : s.heap.get? f = some (PySem.W.kdv_obj "<lambda>" (X.env.qual ++ "<lambda>") params (.expr body) scope (cloFrom X.env.cells scope.names []) (.ref D0) doc pm c' ctv)) (hfn : H f = none) (hfr : f ∉ frs X.stack)
    (hbind : BindD params body scope b)
    (tk : Takes ((cxOf CXg X.prog X.w X.K X.mg X.base Ng qg sg g cdg X.A X.stack s H Eg).tr pn xe) W) (hW : ∀ cls d σ' H', E cls d H' → W cls d σ' H') (hr : Room (k + 1) (X.A.deeper (envOfC qg sg s.heap.objs.size g cdg)))
    (hbody : ∀ (A : Around) (outer : List PySem.Env) (s : Shared) (H : Hp), Room k (A.deeper (lamEnv X scope s.heap.objs.size f c')) → PE (lamCx X A outer s H E scope f c') body tb)
    (hN : Ng[i]? = some a) (hv : Vis sg a) (hd : (a == ("__debug__" : Str)) = false := by decide) (hcd : (a == ("__classdict__" : Str)) = false := by decide) :
    PE ((cxOf CXg X.prog X.w X.K X.mg X.base Ng qg sg g cdg X.A X.stack s H Eg).tr pn xe) (.Call (.Name a p1) [] [] p2)
      (fun σZ HZ Q => σZ[i]? = some (some (.ref f)) ∧ (HZ c' = some (CodeO c' (X.env.qual ++ "<lambda>")) ∧ HZ D0 = some (.tup [.int 0])) ∧ tb σ HZ Q) := by
  refine ⟨fun pinsZ sZ σZ HZ Q IZ h => ?_⟩
  obtain ⟨hs, ⟨hc, hD⟩, ht⟩ := h
  refine wpAny_Call_Name_kw (thn ((pe_var (pos := p1) (i := i) hN hv hd hcd).run pinsZ sZ σZ HZ (fun v H1 => v = .ref f ∧ H1 = HZ) IZ ⟨.ref f, hs, rfl, rfl⟩) fun u s1 ⟨v, H1, I1, r1, q1⟩ => ?_)
  obtain ⟨ev, eH⟩ := q1
  subst ev
  rw [eH] at I1
  obtain rfl : u = Value.ref f := r1
  have of1 : s1.heap.get? f = some (PySem.W.kdv_obj "<lambda>" (X.env.qual ++ "<lambda>") params (.expr body) scope (cloFrom X.env.cells scope.names []) (.ref D0) doc pm c' ctv) := I1.base.keep f _ hf hfn hfr (fun z => nomatch (show f ∈ ([] : List Addr) from z))
  refine PySem.W.callWith_F0 ⟨_, _, _, _, of1⟩ ?_
  have un : Un (frs X.stack) [] H HZ s.heap s1.heap := I1.base
  obtain ⟨⟨oc, vs, t, hoc, hdc, hvc⟩, _, _⟩ := I1.hok c' _ hc
  obtain ⟨_, its, hv2, ⟨oD, hoD, _, nD, hdD⟩⟩ := I1.hok D0 _ hD
  obtain ⟨t0, rfl⟩ : ∃ t0, its = [.int 0 t0] := by
    cases hv2 with
    | cons r rt =>
      cases rt
      obtain ⟨t, rfl⟩ := r
      exact ⟨t, rfl⟩
  obtain ⟨kb, hb1, hb2⟩ := hbind (X.env.qual ++ "<lambda>") (cloFrom X.env.cells scope.names []) D0 doc pm (.ref c') ctv
  have bt : BindsTo s1 (PySem.W.kdv_fn "<lambda>" (X.env.qual ++ "<lambda>") params (.expr body) scope (cloFrom X.env.cells scope.names []) (.ref D0) doc pm (.ref c') ctv) ⟨[], []⟩ [(b, .int 0 t0)] := BindsTo.of_defaults rfl hoD hdD hb1 (hb2 t0)
  have rc : codeAny (model X.prog X.w) (X.A.deeper (envOfC qg sg s.heap.objs.size g cdg)) (.call (.ref f) ⟨[], []⟩) (CR (L2.CX X.prog X.w) (envOfC qg sg s.heap.objs.size g cdg :: X.stack) X.prog X.w HZ s1 Q E) s1 := by
    refine PySem.W.kla_callFunE hr.depth of1 rfl L.co L.gen rfl ⟨c', oc, vs, t, rfl, hoc, hdc, hvc⟩ (bt _ _ _ _ ?_)
    refine wpAny_newFunctionEnv (fun y hy => (L.own y hy).1) (fun y hy => by
      rcases List.mem_cons.mp hy with rfl | hy
      · exact L.par
      · cases hy) (fun h₁ hns hsb => ⟨I1.nolimit.fresh _ hsb, ?_⟩) L.kind
    show codeAny _ _ (.expr body (lamEnv X scope s1.heap.objs.size f c')) _ _
    have kp : ∀ b o, s1.heap.get? b = some o → h₁.get? b = some o := fun b o e => hsb.extBut b o (Nat.ne_of_lt (Heap.lt_size e)) (Heap.get?_push_of_some _ e)
    have J : L2.Inv (lamCx X (X.A.deeper (envOfC qg sg s.heap.objs.size g cdg)) (envOfC qg sg s.heap.objs.size g cdg :: X.stack) s1 HZ E scope f c') [] σ HZ { s1 with heap := h₁, toks := s1.toks + ([(b, Value.int 0 t0)] : List (Str × Value)).length } :=
      lam_start2D I L I1.env0 hr.hd un hns kp
    refine PySem.W.kla_codeExpr (wpAny_mono ((hbody _ _ s1 HZ (hr.deeper _)).run [] _ _ HZ Q J ht) (fun v s' hq => ?_) fun e s' hq => hq)
    obtain ⟨w', H', J', rv, q⟩ := hq
    exact ⟨w', H', J'.os, J'.bare, J'.base, J'.hok, rv, q⟩
  have hx : Passes (L2.CX X.prog X.w) ((cxOf CXg X.prog X.w X.K X.mg X.base Ng qg sg g cdg X.A X.stack s H Eg).tr pn xe) E := passes_call tk hW
  refine wpAny_call (codeAny_mono rc fun r s' hq => ?_)
  cases r with
  | error e => exact hx pinsZ σZ HZ s1 e s' I1 hq
  | ok fl =>
    cases fl with
    | ret u => exact I1.after hq
    | next => exact False.elim hq
    | brk => exact False.elim hq
    | cont => exact False.elim hq
end
section
variable {X : Cx}
theorem de_errD {E : SK} {x z b : Str} {cl : List ClV} {k : Nat} {params : Arguments} {body e0 : Expr} {scope : Scope} {g : Ef D} {p lpos pos : Pos} (C : DC X E) (TD : TabD X) (EF : ErrFn X.K X.mg x cl z) (hr : Room (k + 2) X.A) (L : LamSD X.env.scope scope X.N b)
    (hbody : ∀ (Y : Cx) (E1 : XK), (∃ A outer s H f c', Y = lamCx X A outer s H E1 scope f c') → DC Y (sk E1) → Room k Y.A → DE Y (sk E1) body g)
    (hbind : BindD params body scope b) (pe0 : PE X e0 (tC (.int 0)))
    (hg : Gl X x := by rfl) (hdd : params.defaults = [e0] := by rfl) (hk0 : params.kw_defaults = [] := by rfl) : DE X E (.Call (.Name x p) [.Lambda params body scope lpos] [] pos) (eErr g cl z) := by
  obtain ⟨st, fg, fd, a, Ng, F, hm, hb, Sg, hNg, hva, d1, d2, d3, h₀, hds, p1, p2, p3, p4, p5, p6, j, hB, hh⟩ := EF.ex
  obtain ⟨oc, od, dV, kV, doc, pm, an, cdv, ct, osl, rfl, lk, hcg, _, _⟩ := F.ex
  obtain ⟨c, P, hcode, TB, hmT, huT⟩ := TD.ex
  have hG := err_gives (X := X) (x := x) (q := X.env.qual ++ "<lambda>") (g := fg) (cdg := cdv) (p1 := p1) (p2 := p2) (p3 := p3) (p4 := p4) (p5 := p5) (p6 := p6) (j := j) (a := a) (z := z) Sg.nd hh (fun f => by
    have hl : 0 < Ng.length := (List.getElem?_eq_some_iff.mp hNg).1
    unfold L2.start
    rfl)
  rw [← hB] at hG
  have key : PE X (.Call (.Name x p) [.Lambda params body scope lpos] [] pos) (tLam TBs.tb (TErr X.K cl z) (fun E1 => tD X.K (sk E1) g)) := by
    refine ⟨fun pins s σ H Q I h => ?_⟩
    obtain ⟨hT, h⟩ := h
    refine wpAny_Call_Name_kw (ld_glob I hg hm ?_ d3)
    refine PySem.W.callWith_K (h₀ := X.base) I.ok.mod.kin F.kp ?_ (by rfl) (by rfl)
    show wpAny _ _ (spliced ((false, eval (.Lambda params body scope lpos) X.env) :: backTo pos (starEach [] X.env))) _ _ s
    refine Calls.spliced_cons (lam_makeD rfl I TB hcode hmT huT hT hdd hk0 pe0 (L.has I.ok) fun f c' D0 doc' pm' ctv H1 s' I1 eN T1 hf hfn hfr hco hD => ?_)
    refine Calls.spliced_nil ⟨I1.kIn, ?_⟩
    have rc : codeAny (model X.prog X.w) X.A (.call (.ref fg) ⟨[.ref f], []⟩) (CR C8.CX0 X.stack X.prog X.w H1 s' Q C8.E0) s' := by
      refine run_ofS (N := Ng) (ps := [a]) (us := [.ref f]) (vs := [.ref f]) lk hcg Sg hr I1.env0 (hb s' [.ref f] I1.kIn rfl) (.cons rfl .nil) rfl fun hr' => ?_
      obtain ⟨Ech, k1, k2⟩ := h H1 eN T1
      obtain ⟨t', ht', hq'⟩ := hG f c' s' H1 Q (fun E H' Q' => H' D0 = some (.tup [.int 0]) ∧ tD X.K (sk E) g σ H' Q') (fun W pn xe E p1 p2 tk hW => PE.imp (pe_actD (i := 0) I1 L hf hfn hfr hbind tk hW hr' (fun A outer s H hr2 => (hbody _ E ⟨A, outer, s, H, f, c', rfl⟩ (DC.lamC C.nd) hr2).pe) hNg hva d1 d2) (fun σZ HZ Q ⟨q1, q2, q3, q4⟩ => ⟨q1, ⟨q2, q3⟩, q4⟩)) hco ⟨Ech, ⟨hD, k1⟩, k2⟩
      exact ⟨t', ht'.nox, hq'⟩
    refine wpAny_call (codeAny_mono rc fun r s2 hq => ?_)
    cases r with
    | error e => exact (show False from hq).elim
    | ok fl =>
      cases fl with
      | ret u => exact I1.after hq
      | next => exact False.elim hq
      | brk => exact False.elim hq
      | cont => exact False.elim hq
  refine ⟨PE.imp key ?_⟩
  rintro σ H Q ⟨bs, ex, F0, e, s0, p0⟩
  refine ⟨s0.tb, fun H1 eN T1 => ?_⟩
  obtain ⟨F2, S2, st2⟩ := s0.ext eN T1
  have p2 := p0.shift st2
  unfold eErr at p2
  refine ⟨fun cls d H' => ∃ c as e' F', cls = .ref c ∧ g e = .exc c as e' ∧ StR X.K bs ex σ H' F' e' ∧ Step ex H1 F2 H' F' ∧ ExcR X.K F' as d, ⟨bs, ex, F2, e, S2, ?_⟩, fun cls d H' hE => ?_⟩
  · cases hr : g e with
    | stuck => rw [hr] at p2; exact p2.elim
    | ok y e' =>
      rw [hr] at p2
      exact fun H' F' s' st v r => p2 H' F' s' st _ (.str z)
    | exc c as e' => exact fun dx H' F' s' st x => ⟨c, as, e', F', rfl, rfl, s', st, x⟩
  · obtain ⟨c, as, e', F', rfl, hr, s', st, x⟩ := hE
    rw [hr] at p2
    dsimp only at p2
    cases hv : selV c as cl with
    | none => rw [hv] at p2; exact p2.elim
    | some v =>
      rw [hv] at p2
      refine ⟨c, as, F', v, rfl, s'.le, x, hv, fun F'' H'' w gr r => ?_⟩
      obtain ⟨s3, st3⟩ := gr _ _ _ _ s'
      exact p2 H'' F'' s3 (st.trans st3) w r
end
open LamX NdefX
/-- the lambdas of the def under way, the cells of its frame -/
class CLs where
  cl : List (Str × Addr)
  lam : Nat → LamI
noncomputable def eClo [CLs] (k : Nat) : Ef D := rtn (.clo k (CLs.lam k) CLs.cl)
theorem cloO_ne {f : Addr} {i : LamI} {cl : List (Str × Addr)} {c' : Addr} (ps : Array Value) : CloO f i cl c' ≠ .tbl ps := fun z => by
  unfold CloO at z
  cases z
theorem cloD_ne {f : Addr} {i : LamI} {cl : List (Str × Addr)} {c' D0 : Addr} (ps : Array Value) : CloD f i cl c' D0 ≠ .tbl ps := fun z => by
  unfold CloD at z
  cases z
section
variable {X : Cx} {pins : List (Addr × Obj)} {σ : L2.St} {H HZ : Hp} {s s1 : Shared}
theorem lam_makeV {T : List (Addr × Str)} {c P : Addr} {params : Arguments} {body : Expr} {scope : Scope} {pos : Pos} {E : Value → Shared → Prop} {Q : Value → Shared → Prop} (I : L2.Inv X pins σ H s) (TB : TabB X.base X.mg c P) (hcode : X.env.code = .ref c)
    (hm : (P, X.env.qual ++ "<lambda>") ∈ T) (hu : ∀ p ∈ T, p.1 = P → p.2 = X.env.qual ++ "<lambda>") (hT : Tabs T H) (hdef : defaultsOf params X.env = ([], [])) (hfree : ∀ y ∈ scope.names, y.2 = .free → ∃ c, X.env.cells.lookup y.1 = some c)
    (h : ∀ (f c' : Addr) (H1 : Hp) (s' : Shared), L2.Inv X pins σ H1 s' → ExtN H H1 → Tabs T H1 → H f = none → H1 f = some (CloO f ⟨params, body, scope, X.env.qual ++ "<lambda>", none⟩ X.env.cells c') → H1 c' = some (CodeO c' (X.env.qual ++ "<lambda>")) → Q (.ref f) s') :
    wpAny (model X.prog X.w) X.A (eval (.Lambda params body scope pos) X.env) Q E s := by
  obtain ⟨ps, hP, ht, ha⟩ := hT _ hm
  refine PySem.W.kla_eval hdef ?_
  have bP : s.heap.BuiltinsAt X.mg P := TB.bm.keeps I.bk
  have hP' : s.heap.get? P = some { cls := .none, data := .fields ps } := I.hok P _ hP
  cases hc : codeAmong pos ps.toList with
  | none =>
    refine PySem.W.kla_makeFunction (mg := X.mg) (c := c) (P := P) (ps := ps) (closure_ok hfree) I.ok.glob (I.mod.glob.keeps I.bk) hcode (TB.code.keeps I.bk) hP' ht hc TB.gP bP fun c' ctv h' tk hx hge hlt hrec htb => ?_
    obtain ⟨c2, oc, vs, t, e2, hoc, hd, hv⟩ := hrec
    cases e2
    have hsz : s.heap.objs.size ≤ h'.objs.size := Nat.le_trans hge (Nat.le_of_lt hlt)
    have nC : H c' = none := I.hok.fresh hge
    have I0 := inv_table (t' := tk) (more := #[rawInt pos.line, rawInt pos.col, .ref c']) (h' := h') I hP (fun b o hb e => hx b o hb e) htb hge ⟨oc, vs, t, hoc, hd, hv⟩
    have hE : ExtN H (upd (upd H P (.tbl (ps ++ #[rawInt pos.line, rawInt pos.col, .ref c']))) c' (CodeO c' (X.env.qual ++ "<lambda>"))) := fun b o e n => by
      rw [upd_ne (ne_of_none e nC), upd_ne (fun z => n ps (Option.some.inj (e.symm.trans (by rw [z]; exact hP))))]
      exact e
    have eL : (ps ++ #[rawInt pos.line, rawInt pos.col, .ref c']).toList = ps.toList ++ [rawInt pos.line, rawInt pos.col, .ref c'] := by simp
    have T1 : Tabs T (upd (upd H P (.tbl (ps ++ #[rawInt pos.line, rawInt pos.col, .ref c']))) c' (CodeO c' (X.env.qual ++ "<lambda>"))) := fun p hp => by
      by_cases hb : p.1 = P
      · rw [hu p hp hb, hb]
        refine ⟨_, by rw [upd_ne (ne_of_none hP nC), upd_same], by rw [eL]; exact PySem.TriplesOk_snoc _ _ _ _ ht, fun p' cv hcv => ?_⟩
        rw [eL] at hcv
        rcases among_app _ ht hcv with z | z
        · obtain ⟨c0, e1, e2⟩ := ha p' cv z
          exact ⟨c0, e1, hE _ _ e2 codeO_ne⟩
        · exact ⟨c', z, upd_same⟩
      · obtain ⟨ps', a1, a2, a3⟩ := hT p hp
        refine ⟨ps', by rw [upd_ne (ne_of_none a1 nC), upd_ne hb]; exact a1, a2, fun p' cv hcv => ?_⟩
        obtain ⟨c0, e1, e2⟩ := a3 p' cv hcv
        exact ⟨c0, e1, hE _ _ e2 codeO_ne⟩
    have hcc : upd (upd H P (.tbl (ps ++ #[rawInt pos.line, rawInt pos.col, .ref c']))) c' (CodeO c' (X.env.qual ++ "<lambda>")) c' = some (CodeO c' (X.env.qual ++ "<lambda>")) := upd_same
    generalize upd (upd H P (.tbl (ps ++ #[rawInt pos.line, rawInt pos.col, .ref c']))) c' (CodeO c' (X.env.qual ++ "<lambda>")) = H0 at I0 hE T1 hcc
    have nf : H0 h'.objs.size = none := I0.hok.fresh (Nat.le_refl _)
    have I1 := I0.laid (t' := tk) (a := h'.objs.size) (o := CloO h'.objs.size ⟨params, body, scope, X.env.qual ++ "<lambda>", none⟩ X.env.cells c') (h' := h'.push (PySem.W.kla_obj "<lambda>" (X.env.qual ++ "<lambda>") params body scope (cloFrom X.env.cells scope.names []) ((X.mg "__name__").getD .none) c' ctv))
      (fun b u e => Heap.get?_push_of_some _ e) (Nat.le_refl _) ⟨⟨_, _, Heap.get?_push_size _ rfl⟩, ⟨_, Heap.get?_push_size _ rfl⟩, fun h1 h2 ⟨pm, ctv, e⟩ st => ⟨pm, ctv, st _ e⟩⟩
    have eF : ∀ b o, H0 b = some o → upd H0 h'.objs.size (CloO h'.objs.size ⟨params, body, scope, X.env.qual ++ "<lambda>", none⟩ X.env.cells c') b = some o := fun b o e => by rw [upd_ne (ne_of_none e nf)]; exact e
    exact h _ c' _ _ I1 (hE.trans (.of eF)) (T1.ext eF) (I.hok.fresh hsz) upd_same (eF _ _ hcc)
  | some cv =>
    obtain ⟨c', e, hco⟩ := ha pos cv hc
    subst e
    refine PySem.W.kla_makeFunctionHit (mg := X.mg) (c := c) (P := P) (ps := ps) (closure_ok hfree) I.ok.glob (I.mod.glob.keeps I.bk) hcode (TB.code.keeps I.bk) hP' ht hc bP fun ctv h' tk hx hsz => ?_
    have I0 : L2.Inv X pins σ H { s with heap := h', toks := tk } := I.kept fun b o e => hx b o e
    have nf : H h'.objs.size = none := I0.hok.fresh (Nat.le_refl _)
    have I1 := I0.laid (t' := tk) (a := h'.objs.size) (o := CloO h'.objs.size ⟨params, body, scope, X.env.qual ++ "<lambda>", none⟩ X.env.cells c') (h' := h'.push (PySem.W.kla_obj "<lambda>" (X.env.qual ++ "<lambda>") params body scope (cloFrom X.env.cells scope.names []) ((X.mg "__name__").getD .none) c' ctv))
      (fun b u e => Heap.get?_push_of_some _ e) (Nat.le_refl _) ⟨⟨_, _, Heap.get?_push_size _ rfl⟩, ⟨_, Heap.get?_push_size _ rfl⟩, fun h1 h2 ⟨pm, ctv, e⟩ st => ⟨pm, ctv, st _ e⟩⟩
    have eF : ∀ b o, H b = some o → upd H h'.objs.size (CloO h'.objs.size ⟨params, body, scope, X.env.qual ++ "<lambda>", none⟩ X.env.cells c') b = some o := fun b o e => by rw [upd_ne (ne_of_none e nf)]; exact e
    exact h _ c' _ _ I1 (.of eF) (hT.ext eF) nf upd_same (eF _ _ hco)
theorem lam_makeDV {T : List (Addr × Str)} {c P : Addr} {params : Arguments} {body e0 : Expr} {scope : Scope} {pos : Pos} {b : Str} {E : Value → Shared → Prop} {Q : Value → Shared → Prop} (hE : E = X.xe) (I : L2.Inv X pins σ H s) (TB : TabB X.base X.mg c P) (hcode : X.env.code = .ref c)
    (hm : (P, X.env.qual ++ "<lambda>") ∈ T) (hu : ∀ p ∈ T, p.1 = P → p.2 = X.env.qual ++ "<lambda>") (hT : Tabs T H) (hd : params.defaults = [e0]) (hk0 : params.kw_defaults = []) (pe0 : PE X e0 (tC (.int 0))) (hfree : ∀ y ∈ scope.names, y.2 = .free → ∃ c, X.env.cells.lookup y.1 = some c)
    (h : ∀ (f c' D0 : Addr) (H1 : Hp) (s' : Shared), L2.Inv X pins σ H1 s' → ExtN H H1 → Tabs T H1 → H f = none → H1 f = some (CloD f ⟨params, body, scope, X.env.qual ++ "<lambda>", some b⟩ X.env.cells c' D0) → H1 c' = some (CodeO c' (X.env.qual ++ "<lambda>")) → H D0 = none → H1 D0 = some (.tup [.int 0]) → Q (.ref f) s') :
    wpAny (model X.prog X.w) X.A (eval (.Lambda params body scope pos) X.env) Q E s := by
  subst hE
  refine PySem.W.kdv_lam (by rw [hd]; rfl) hk0 ?_
  rw [hd]
  refine PySem.W.kdv_all1 (thn (pe0.run pins s σ H (fun v H1 => v = .int 0 ∧ H1 = H) I ⟨rfl, rfl⟩) fun u s0 ⟨v, H0, I0, r0, ev, eH⟩ => PySem.W.kdv_all0 ?_)
  subst ev
  subst eH
  obtain ⟨t0, rfl⟩ := r0
  rw [makeFunction_eq]
  simp only [List.zip_nil_right, List.filterMap_nil, List.isEmpty_nil, List.isEmpty_cons, if_true, pure_bind, Bool.false_eq_true, if_false]
  refine wpAny_bind (wpAny_newTextTuple ?_)
  -- the tuple of the defaults
  have nD : H0 s0.heap.objs.size = none := I0.hok.fresh (Nat.le_refl _)
  have frD : ∀ a, s0.heap.objs.size ≤ a → H0 a = none := fun a ha => I0.hok.fresh ha
  obtain ⟨D0, hD0⟩ : ∃ D0, D0 = s0.heap.objs.size := ⟨_, rfl⟩
  have I2 : L2.Inv X pins σ (upd H0 D0 (.tup [.int 0])) { s0 with heap := s0.heap.push { cls := .type "tuple", data := .seq [Value.int 0 t0].toArray } } := by
    rw [hD0]
    exact I0.laid (t' := s0.toks) (fun b u e => Heap.get?_push_of_some _ e) (Nat.le_refl _) (show ObjOk X.prog X.w _ _ _ (.tup [.int 0]) from ⟨by decide, [.int 0 t0], .cons ⟨t0, rfl⟩ .nil, ⟨_, Heap.get?_push_size _ rfl, rfl, _, rfl⟩⟩)
  rw [← hD0] at nD ⊢
  have s2z : s0.heap.objs.size ≤ (s0.heap.push { cls := .type "tuple", data := .seq [Value.int 0 t0].toArray }).objs.size := by rw [Heap.size_push]; exact Nat.le_succ _
  have hT2 : Tabs T (upd H0 D0 (.tup [.int 0])) := hT.ext fun b o e => by rw [upd_ne (ne_of_none e nD)]; exact e
  have eD : ExtN H0 (upd H0 D0 (.tup [.int 0])) := .of fun b o e => by rw [upd_ne (ne_of_none e nD)]; exact e
  have dD : upd H0 D0 (.tup [.int 0]) D0 = some (.tup [.int 0]) := upd_same
  generalize upd H0 D0 (.tup [.int 0]) = H2 at I2 hT2 eD dD
  have s2z : s0.heap.objs.size ≤ ({ s0 with heap := s0.heap.push { cls := .type "tuple", data := .seq [Value.int 0 t0].toArray } } : Shared).heap.objs.size := s2z
  generalize ({ s0 with heap := s0.heap.push { cls := .type "tuple", data := .seq [Value.int 0 t0].toArray } } : Shared) = s2 at I2 s2z ⊢
  obtain ⟨ps, hP, ht, ha⟩ := hT2 _ hm
  have bP : s2.heap.BuiltinsAt X.mg P := TB.bm.keeps I2.bk
  have hP' : s2.heap.get? P = some { cls := .none, data := .fields ps } := I2.hok P _ hP
  cases hc : codeAmong pos ps.toList with
  | none =>
    refine PySem.W.kdv_makeTail (mg := X.mg) (c := c) (P := P) (ps := ps) (closure_ok hfree) I2.ok.glob (I2.mod.glob.keeps I2.bk) hcode (TB.code.keeps I2.bk) hP' ht hc TB.gP bP fun c' ctv doc h' tk hx hge hlt hrec htb => ?_
    obtain ⟨c2, oc, vs, t, e2, hoc, hd, hv⟩ := hrec
    cases e2
    have hsz : s2.heap.objs.size ≤ h'.objs.size := Nat.le_trans hge (Nat.le_of_lt hlt)
    have nC : H2 c' = none := I2.hok.fresh hge
    have I3 := inv_table (t' := tk) (more := #[rawInt pos.line, rawInt pos.col, .ref c']) (h' := h') I2 hP (fun b o hb e => hx b o hb e) htb hge ⟨oc, vs, t, hoc, hd, hv⟩
    have hE : ExtN H2 (upd (upd H2 P (.tbl (ps ++ #[rawInt pos.line, rawInt pos.col, .ref c']))) c' (CodeO c' (X.env.qual ++ "<lambda>"))) := fun b o e n => by
      rw [upd_ne (ne_of_none e nC), upd_ne (fun z => n ps (Option.some.inj (e.symm.trans (by rw [z]; exact hP))))]
      exact e
    have eL : (ps ++ #[rawInt pos.line, rawInt pos.col, .ref c']).toList = ps.toList ++ [rawInt pos.line, rawInt pos.col, .ref c'] := by simp
    have T1 : Tabs T (upd (upd H2 P (.tbl (ps ++ #[rawInt pos.line, rawInt pos.col, .ref c']))) c' (CodeO c' (X.env.qual ++ "<lambda>"))) := fun p hp => by
      by_cases hb : p.1 = P
      · rw [hu p hp hb, hb]
        refine ⟨_, by rw [upd_ne (ne_of_none hP nC), upd_same], by rw [eL]; exact PySem.TriplesOk_snoc _ _ _ _ ht, fun p' cv hcv => ?_⟩
        rw [eL] at hcv
        rcases among_app _ ht hcv with z | z
        · obtain ⟨c0, e1, e2⟩ := ha p' cv z
          exact ⟨c0, e1, hE _ _ e2 codeO_ne⟩
        · exact ⟨c', z, upd_same⟩
      · obtain ⟨ps', a1, a2, a3⟩ := hT2 p hp
        refine ⟨ps', by rw [upd_ne (ne_of_none a1 nC), upd_ne hb]; exact a1, a2, fun p' cv hcv => ?_⟩
        obtain ⟨c0, e1, e2⟩ := a3 p' cv hcv
        exact ⟨c0, e1, hE _ _ e2 codeO_ne⟩
    have hcc : upd (upd H2 P (.tbl (ps ++ #[rawInt pos.line, rawInt pos.col, .ref c']))) c' (CodeO c' (X.env.qual ++ "<lambda>")) c' = some (CodeO c' (X.env.qual ++ "<lambda>")) := upd_same
    generalize upd (upd H2 P (.tbl (ps ++ #[rawInt pos.line, rawInt pos.col, .ref c']))) c' (CodeO c' (X.env.qual ++ "<lambda>")) = H3 at I3 hE T1 hcc
    have nf : H3 h'.objs.size = none := I3.hok.fresh (Nat.le_refl _)
    have I1 := I3.laid (t' := tk) (a := h'.objs.size) (o := CloD h'.objs.size ⟨params, body, scope, X.env.qual ++ "<lambda>", some b⟩ X.env.cells c' D0) (h' := h'.push (PySem.W.kdv_obj "<lambda>" (X.env.qual ++ "<lambda>") params (.expr body) scope (cloFrom X.env.cells scope.names []) (.ref D0) doc ((X.mg "__name__").getD .none) c' ctv))
      (fun b u e => Heap.get?_push_of_some _ e) (Nat.le_refl _) ⟨⟨_, _, _, Heap.get?_push_size _ rfl⟩, ⟨_, Heap.get?_push_size _ rfl⟩, fun h1 h2 ⟨doc, pm, ctv, e⟩ st => ⟨doc, pm, ctv, st _ e⟩⟩
    have eF : ∀ b' o, H3 b' = some o → upd H3 h'.objs.size (CloD h'.objs.size ⟨params, body, scope, X.env.qual ++ "<lambda>", some b⟩ X.env.cells c' D0) b' = some o := fun b o e => by rw [upd_ne (ne_of_none e nf)]; exact e
    exact h _ c' D0 _ _ I1 ((eD.trans hE).trans (.of eF)) (T1.ext eF) (frD _ (Nat.le_trans s2z hsz)) upd_same (eF _ _ hcc) nD (eF _ _ (hE _ _ dD (fun _ z => by cases z)))
  | some cv =>
    obtain ⟨c', e, hco⟩ := ha pos cv hc
    subst e
    refine PySem.W.kdv_makeTailHit (mg := X.mg) (c := c) (P := P) (ps := ps) (closure_ok hfree) I2.ok.glob (I2.mod.glob.keeps I2.bk) hcode (TB.code.keeps I2.bk) hP' ht hc bP fun ctv doc h' tk hx hsz => ?_
    have I3 : L2.Inv X pins σ H2 { s2 with heap := h', toks := tk } := I2.kept fun b o e => hx b o e
    have nf : H2 h'.objs.size = none := I3.hok.fresh (Nat.le_refl _)
    have I1 := I3.laid (t' := tk) (a := h'.objs.size) (o := CloD h'.objs.size ⟨params, body, scope, X.env.qual ++ "<lambda>", some b⟩ X.env.cells c' D0) (h' := h'.push (PySem.W.kdv_obj "<lambda>" (X.env.qual ++ "<lambda>") params (.expr body) scope (cloFrom X.env.cells scope.names []) (.ref D0) doc ((X.mg "__name__").getD .none) c' ctv))
      (fun b u e => Heap.get?_push_of_some _ e) (Nat.le_refl _) ⟨⟨_, _, _, Heap.get?_push_size _ rfl⟩, ⟨_, Heap.get?_push_size _ rfl⟩, fun h1 h2 ⟨doc, pm, ctv, e⟩ st => ⟨doc, pm, ctv, st _ e⟩⟩
    have eF : ∀ b' o, H2 b' = some o → upd H2 h'.objs.size (CloD h'.objs.size ⟨params, body, scope, X.env.qual ++ "<lambda>", some b⟩ X.env.cells c' D0) b' = some o := fun b o e => by rw [upd_ne (ne_of_none e nf)]; exact e
    exact h _ c' D0 _ _ I1 (eD.trans (.of eF)) (hT2.ext eF) (frD _ (Nat.le_trans s2z hsz)) upd_same (eF _ _ hco) nD (eF _ _ dD)
end
section
variable {X : Cx} [CLs]
theorem de_clo {E : SK} {k : Nat} {params : Arguments} {body : Expr} {scope : Scope} {lpos : Pos} (TD : TabD X) (hcl : X.env.cells = CLs.cl) (L : LamS X.env.scope scope) (hk : CLs.lam k = ⟨params, body, scope, X.env.qual ++ "<lambda>", none⟩) (hdef : defaultsOf params X.env = ([], []) := by rfl) :
    DE X E (.Lambda params body scope lpos) (eClo k) := by
  obtain ⟨c, P, hcode, TB, hmT, huT⟩ := TD.ex
  refine ⟨⟨fun pins s σ H Q I h => ?_⟩⟩
  obtain ⟨bs, ex, F, e, s0, p⟩ := h
  refine lam_makeV I TB hcode hmT huT s0.tb hdef (L.has I.ok) fun f c' H1 s' I1 eN T1 hfn hf hc => ?_
  obtain ⟨F2, S2, st2⟩ := s0.ext eN T1
  have hF := S2.visO (s0.fresh hfn) hf cloO_ne
  have hC := S2.visO (S2.nhid hc (fun w => w _ _ rfl)) hc codeO_ne
  exact ⟨.ref f, H1, I1, rfl, p H1 F2 S2 st2 (.ref f) (by rw [hk, ← hcl]; exact .clo rfl hF hC)⟩
theorem de_cloD {E : SK} {k : Nat} {params : Arguments} {body e0 : Expr} {scope : Scope} {b : Str} {lpos : Pos} (TD : TabD X) (hcl : X.env.cells = CLs.cl) (L : LamSD X.env.scope scope X.N b) (hk : CLs.lam k = ⟨params, body, scope, X.env.qual ++ "<lambda>", some b⟩) (pe0 : PE X e0 (tC (.int 0)))
    (hdd : params.defaults = [e0] := by rfl) (hk0 : params.kw_defaults = [] := by rfl) : DE X E (.Lambda params body scope lpos) (eClo k) := by
  obtain ⟨c, P, hcode, TB, hmT, huT⟩ := TD.ex
  refine ⟨⟨fun pins s σ H Q I h => ?_⟩⟩
  obtain ⟨bs, ex, F, e, s0, p⟩ := h
  refine lam_makeDV (b := b) rfl I TB hcode hmT huT s0.tb hdd hk0 pe0 (L.has I.ok) fun f c' D0 H1 s' I1 eN T1 hfn hf hc hdn hD => ?_
  obtain ⟨F2, S2, st2⟩ := s0.ext eN T1
  have hF := S2.visO (s0.fresh hfn) hf cloD_ne
  have hC := S2.visO (S2.nhid hc (fun w => w _ _ rfl)) hc codeO_ne
  have hT := S2.visO (s0.fresh hdn) hD (fun _ z => by cases z)
  exact ⟨.ref f, H1, I1, rfl, p H1 F2 S2 st2 (.ref f) (by rw [hk, ← hcl]; exact .cld rfl hF hC hT)⟩
end
section
variable {X : Cx}
/-- the block's test, told with the def's own state -/
def TestIn (X : Cx) (scope : Scope) (vs : List Nat) (ifs : List Expr) (tt : TT) : Prop :=
  ∀ (s : Shared) (H : Hp) (C : Addr) (cl : List (Str × Addr)) (fp : List Addr) (pins : List (Addr × Obj)) (σ : L2.St), L2.Inv X pins σ H s → (∀ b ∈ fp, FpOk X pins H b) →
    PTs (X.blk s H scope (compEnvC scope cl C X.env) fp) ifs (fun σ2 H2 Q => wipe σ2 vs = wipe σ vs ∧ tt σ2 H2 Q)
/-- from the block back to the def -/
theorem back_in {scope : Scope} {ce : Env} {fp : List Addr} {pins q : List (Addr × Obj)} {σ σ2 : L2.St} {H0 H2 : Hp} {s0 s2 : Shared} (I0 : L2.Inv X pins σ H0 s0) (hf : ∀ b ∈ fp, FpOk X pins H0 b) (I2 : L2.Inv (X.blk s0 H0 scope ce fp) q σ2 H2 s2) : L2.Inv X pins σ H2 s2 :=
  I0.call' (ch := fp) I2.os I2.base I2.hok I2.bare fun b hb => ⟨(hf b hb).2.2.2.1, (hf b hb).2.1, (hf b hb).2.2.2.2.1, (hf b hb).2.2.2.2.2⟩
theorem pe_lcI {elt tg iter : Expr} {ifs : List Expr} {scope : Scope} {own : List (Str × Nat)} {pos : Pos} {wi : TI} {g : TG} {tt : TT} {te : TE} (hc : X.calm = true) (hN : X.N.Nodup) (hi : PI X tg iter wi) (ok : BlkOk X.N X.env.scope scope own)
    (hg : ∀ (s : Shared) (H : Hp) (C : Addr) (cl : List (Str × Addr)) (fp : List Addr), PG (X.blk s H scope (compEnvC scope cl C X.env) fp) tg g) (ht : TestIn X scope (own.map (·.2)) ifs tt)
    (he : ∀ (s : Shared) (H : Hp) (C : Addr) (cl : List (Str × Addr)) (fp : List Addr), PE (X.blk s H scope (compEnvC scope cl C X.env) fp) elt te) (hs : ∀ x, foldedSetIterable iter X.env x = pure x := by intro _; rfl) :
    PE X (.ListComp elt [⟨tg, iter, ifs, 0⟩] scope pos) (tLc wi g tt te (own.map (·.2))) := by
  refine ⟨fun pins s σ H Q I h => ?_⟩
  rw [eval_ListComp]
  have capt : ∀ y ∈ scope.names, y.2 = .free → ∃ c, X.env.cells.lookup y.1 = some c := fun y hy e => (ok.free y hy e).elim (fun k => I.ok.has _ (.inl k)) fun k => I.ok.has _ (.inr k)
  refine wpAny_comprehension_free rfl hs (closure_ok capt) ok.kind (fun y hy e => by rw [ok.uniq y hy, e]) (thn (hi.run pins s σ H _ I h) fun xv s1 hx => thn hx fun itv s2 h2 => ?_)
  obtain ⟨it, fp, tn, J, H2, e, I2, T, at2, f2, q⟩ := h2
  subst e
  refine wpAny_newObj_type (newEnv_comp ?_) (by show 0 ≤ sizeLine; decide)
  obtain ⟨D, hD⟩ : ∃ D, D = s2.heap.objs.size := ⟨_, rfl⟩
  rw [← hD]
  obtain ⟨W, ⟨m0, w0⟩, turn⟩ := q D (I2.hok.fresh (Nat.le_of_eq hD.symm))
  -- the list that grows
  have grown : ∀ b o, s2.heap.get? b = some o → (s2.heap.push { cls := .type "list", data := .seq ([] : List Value).toArray }).get? b = some o := fun b o e => Heap.get?_push_of_some _ e
  have I3 : L2.Inv X pins σ (upd H2 D (.lst [])) { s2 with heap := s2.heap.push { cls := .type "list", data := .seq ([] : List Value).toArray } } :=
    I2.laid (t' := s2.toks) grown (Nat.le_of_eq hD.symm) ⟨Nat.zero_le _, [], 0, .nil, by rw [hD]; exact Heap.get?_push_size _ rfl⟩
  have there : ∀ b ∈ fp, b < s2.heap.objs.size := fun b hb => let ⟨o, e, _⟩ := T.obj _ _ at2 b hb; Heap.lt_size e
  have f3 : ∀ b ∈ fp, FpOk X pins (upd H2 D (.lst [])) b := fun b hb => ⟨by rw [upd_ne (by rw [hD]; exact Nat.ne_of_lt (there b hb))]; exact (f2 b hb).1, (f2 b hb).2⟩
  have at3 := T.keep _ _ _ at2 fun b _ o e => grown b o e
  have sz3 : ∀ b ∈ fp, b < (s2.heap.push { cls := .type "list", data := .seq ([] : List Value).toArray }).objs.size := fun b hb => by rw [Heap.size_push]; exact Nat.lt_succ_of_lt (there b hb)
  generalize upd H2 D (.lst []) = H3 at I3 f3 w0
  have e3 : ({ s2 with heap := s2.heap.push { cls := .type "list", data := .seq ([] : List Value).toArray } } : Shared).heap = s2.heap.push { cls := .type "list", data := .seq ([] : List Value).toArray } := rfl
  rw [← e3] at at3 sz3
  generalize ({ s2 with heap := s2.heap.push { cls := .type "list", data := .seq ([] : List Value).toArray } } : Shared) = s3 at I3 at3 sz3 ⊢
  -- the block
  have I4 := block_start I3 ok hN fun b hb => ⟨f3 b hb, sz3 b hb⟩
  show codeAny _ _ (.compStart (.ListComp elt [⟨tg, iter, ifs, 0⟩] scope pos) 0 (.ref it) (.ref D) (compEnvC scope (cellsFrom (s3.heap.objs.size + 1) scope.names (cloFrom X.env.cells scope.names [])) s3.heap.objs.size X.env)) _ { s3 with heap := pushCells (s3.heap.push { cls := .type "dict", data := .dict #[] }) scope.names }
  have pg := hg s3 H3 s3.heap.objs.size (cellsFrom (s3.heap.objs.size + 1) scope.names (cloFrom X.env.cells scope.names [])) fp
  have pt := ht s3 H3 s3.heap.objs.size (cellsFrom (s3.heap.objs.size + 1) scope.names (cloFrom X.env.cells scope.names [])) fp pins σ I3 f3
  have pe := he s3 H3 s3.heap.objs.size (cellsFrom (s3.heap.objs.size + 1) scope.names (cloFrom X.env.cells scope.names [])) fp
  have at4 := T.keep _ _ _ at3 fun b _ o e => pushCells_keeps scope.names (s3.heap.push { cls := .type "dict", data := .dict #[] }) b o (Heap.get?_push_of_some _ e)
  have nf : ∀ b ∈ fp, H3 b = none := fun b hb => (f3 b hb).1
  have cL : (compEnvC scope (cellsFrom (s3.heap.objs.size + 1) scope.names (cloFrom X.env.cells scope.names [])) s3.heap.objs.size X.env).locals = s3.heap.objs.size := rfl
  generalize compEnvC scope (cellsFrom (s3.heap.objs.size + 1) scope.names (cloFrom X.env.cells scope.names [])) s3.heap.objs.size X.env = ce at I4 pg pt pe cL ⊢
  have e4 : ({ s3 with heap := pushCells (s3.heap.push { cls := .type "dict", data := .dict #[] }) scope.names } : Shared).heap = pushCells (s3.heap.push { cls := .type "dict", data := .dict #[] }) scope.names := rfl
  rw [← e4] at at4
  generalize ({ s3 with heap := pushCells (s3.heap.push { cls := .type "dict", data := .dict #[] }) scope.names } : Shared) = s4 at I4 at4 ⊢
  have still : ∀ {σ' : L2.St} {H' : Hp} {s' : Shared}, L2.Inv (X.blk s3 H3 scope ce fp) [] σ' H' s' → (∀ b ∈ fp, H' b = none) → ∀ b ∈ fp, FpOk (X.blk s3 H3 scope ce fp) [] H' b := fun I' hn b hb =>
    ⟨hn b hb, (I'.ok.exf b hb).1, I'.ok.exfs b hb, .inl hb, (I'.ok.exf b hb).2, fun p hp => absurd (show p ∈ ([] : List (Addr × Obj)) ++ [] from hp) (by simp)⟩
  have done : ∀ {H' : Hp} {σ' : L2.St} {s' : Shared}, L2.Inv (X.blk s3 H3 scope ce fp) [] σ' H' s' → Q (.ref D) H' → compPost (model X.prog X.w) X.A X.xe none (fun u s' => ∃ v H', L2.Inv X pins σ H' s' ∧ L2.RelV v u ∧ Q v H') (.ref D) s3.heap.objs.size (.ok .next) s' := fun {H' σ' s'} I' hq => by
    have I7 := back_in I3 f3 I'
    have nC : H' s3.heap.objs.size = none := cL ▸ I'.free
    obtain ⟨m, hn, _⟩ := I'.loc
    have hn : s'.heap.Ns ce.locals m := hn
    rw [cL] at hn
    obtain ⟨k0, k1, k2, k3, k4, k5⟩ := I3.fpOk (Nat.le_refl _) nC
    exact ⟨m, hn, fun h'' sb => ⟨.ref D, H', I7.turned (t' := s'.toks) (fun b o hb e => (sb.2 b hb).trans e) k0 k1 k3 k4 k5, rfl, hq⟩⟩
  have loop : codeAny (model X.prog X.w) X.A (.compLoop (.ListComp elt [⟨tg, iter, ifs, 0⟩] scope pos) 0 (.ref it) (.ref D) ce) (compPost (model X.prog X.w) X.A X.xe none (fun u s' => ∃ v H', L2.Inv X pins σ H' s' ∧ L2.RelV v u ∧ Q v H') (.ref D) s3.heap.objs.size) s4 := by
    refine compLoop_any (fun n s' => ∃ i H', L2.Inv (X.blk s3 H3 scope ce fp) [] (wipe σ (own.map (·.2))) H' s' ∧ tn i s'.heap ∧ (∀ b ∈ fp, H' b = none) ∧ W i n H') ?_ m0 ⟨0, H3, I4, at4, nf, w0⟩
    rintro n s5 ⟨i, H5, I5, at5, n5, w5⟩
    rcases turn i n H5 w5 with ⟨stop, qq⟩ | ⟨go, Nx, hNx, step⟩
    · refine thnF (T.done (X.blk s3 H3 scope ce fp) rfl rfl rfl hc i [] s5 _ H5 (fun _ _ => False) I5 (still I5 n5) at5 stop) fun r s6 ⟨hr, I6⟩ => ?_
      subst hr
      exact done I6 qq
    · refine thnF (T.item (X.blk s3 H3 scope ce fp) rfl rfl rfl hc i [] s5 _ H5 (fun _ _ => False) I5 (still I5 n5) at5 go) fun r s6 ⟨u, hr, h6⟩ => ?_
      subst hr
      refine thnF h6 fun _ s7 ⟨x, H7, I7, r7, y7, at7, n7⟩ => ?_
      refine thnF (pg.run _ s7 _ H7 x u _ (I7.pinned (still I7 n7) (T.obj _ _ at7)) r7 (step x H7 y7)) fun _ s8 ⟨σ8, H8, I8, hw8, q8⟩ => ?_
      refine thnF (pt.run _ s8 σ8 H8 _ I8 ⟨hw8, q8⟩) fun b s9 ⟨H9, I9, q9⟩ => ?_
      have next : ∀ {s' : Shared} {H' : Hp}, L2.Inv (X.blk s3 H3 scope ce fp) ([] ++ pinsAt fp s7.heap) σ8 H' s' → Nx H' → ∃ m, m < n ∧ ∃ i H', L2.Inv (X.blk s3 H3 scope ce fp) [] (wipe σ (own.map (·.2))) H' s' ∧ tn i s'.heap ∧ (∀ b ∈ fp, H' b = none) ∧ W i m H' := fun {s' H'} I' nx => by
        obtain ⟨m', hm, w'⟩ := hNx H' nx
        have pin' : ∀ b ∈ fp, ∀ o, s7.heap.get? b = some o → s'.heap.get? b = some o ∧ H' b = none := fun b hb o e =>
          let z := I'.pin (b, o) (List.mem_append_right _ (List.mem_append_right _ (mem_pinsAt hb e)))
          ⟨z.1, z.2.1⟩
        refine ⟨m', hm, i + 1, H', (I'.unpinned (pins := [])).weak (by rw [← hw8, wipe_length]) (fun j v e => (wipe_some (hw8 ▸ e)).1), T.keep _ _ _ at7 fun b hb o e => (pin' b hb o e).1, fun b hb => ?_, w'⟩
        obtain ⟨o, e, _⟩ := T.obj _ _ at7 b hb
        exact (pin' b hb o e).2
      cases b with
      | false => exact next I9 q9
      | true => exact thnF (pe.run _ s9 σ8 H9 _ I9 q9) fun z s10 ⟨yv, H10, I10, r10, acc, hD10, hz10, nx⟩ => app_ok (X := X.blk s3 H3 scope ce fp) I10 hD10 hz10 r10 fun s11 I11 => next I11 nx
  exact codeAny_compStart_list loop (T.self X.A 0 _ _ _ at4 loop)
end
open LamX NdefX
section
variable {X : Cx} {pins : List (Addr × Obj)} {σ : L2.St} {H HZ : Hp} {s s1 : Shared}
theorem pe_actV {CXg : CXT} {Eg : XK} {Ng : List Str} {qg : Str} {sg : Scope} {g f c' : Addr} {cdg : Value} {params : Arguments} {body : Expr} {scope : Scope} {k i : Nat} {a : Str} {pn : List (Addr × Obj)} {xe : Value → Shared → Prop} {W : WX} {E : XK} {tb : TE} {p1 p2 : Pos}
    (I : L2.Inv X pins σ H s) (L : LamS X.env.scope scope)
    (hbind : ∀ (q : Str) (cl : List (Str × Addr)) (pm cv ctv : Value), bindArgs (PySem.W.kla_fn "<lambda>" q params body scope cl pm cv ctv) ⟨[], []⟩ = pure [])
    (tk : Takes ((cxOf CXg X.prog X.w X.K X.mg X.base Ng qg sg g cdg X.A X.stack s H Eg).tr pn xe) W) (hW : ∀ cls d σ' H', E cls d H' → W cls d σ' H') (hr : Room (k + 1) (X.A.deeper (envOfC qg sg s.heap.objs.size g cdg)))
    (hbody : ∀ (A : Around) (outer : List PySem.Env) (s : Shared) (H : Hp), Room k (A.deeper (lamEnv X scope s.heap.objs.size f c')) → PE (lamCx X A outer s H E scope f c') body tb)
    (hN : Ng[i]? = some a) (hv : Vis sg a) (hd : (a == ("__debug__" : Str)) = false := by decide) (hcd : (a == ("__classdict__" : Str)) = false := by decide) :
    PE ((cxOf CXg X.prog X.w X.K X.mg X.base Ng qg sg g cdg X.A X.stack s H Eg).tr pn xe) (.Call (.Name a p1) [] [] p2)
      (fun σZ HZ Q => σZ[i]? = some (some (.ref f)) ∧ HZ c' = some (CodeO c' (X.env.qual ++ "<lambda>")) ∧ HZ f = some (CloO f ⟨params, body, scope, X.env.qual ++ "<lambda>", none⟩ X.env.cells c') ∧ tb σ HZ Q) := by
  refine ⟨fun pinsZ sZ σZ HZ Q IZ h => ?_⟩
  obtain ⟨hs, hc, hf, ht⟩ := h
  refine wpAny_Call_Name_kw (thn ((pe_var (pos := p1) (i := i) hN hv hd hcd).run pinsZ sZ σZ HZ (fun v H1 => v = .ref f ∧ H1 = HZ) IZ ⟨.ref f, hs, rfl, rfl⟩) fun u s1 ⟨v, H1, I1, r1, q1⟩ => ?_)
  obtain ⟨ev, eH⟩ := q1
  subst ev
  rw [eH] at I1
  obtain rfl : u = Value.ref f := r1
  obtain ⟨⟨pm, ctv, of1⟩, _, _⟩ := I1.hok f _ hf
  refine PySem.W.callWith_F0 ⟨_, _, _, _, of1⟩ ?_
  have un : Un (frs X.stack) [] H HZ s.heap s1.heap := I1.base
  obtain ⟨⟨oc, vs, t, hoc, hdc, hvc⟩, _, _⟩ := I1.hok c' _ hc
  have rc : codeAny (model X.prog X.w) (X.A.deeper (envOfC qg sg s.heap.objs.size g cdg)) (.call (.ref f) ⟨[], []⟩) (CR (L2.CX X.prog X.w) (envOfC qg sg s.heap.objs.size g cdg :: X.stack) X.prog X.w HZ s1 Q E) s1 := by
    refine PySem.W.kla_callFunE hr.depth of1 rfl L.co L.gen rfl ⟨c', oc, vs, t, rfl, hoc, hdc, hvc⟩ ?_
    rw [hbind]
    refine wpAny_pure (wpAny_newFunctionEnv (fun y hy => (L.own y hy).2) (fun y hy => absurd hy (by simp)) (fun h₁ hns hsb => ⟨I1.nolimit.fresh _ hsb, ?_⟩) L.kind)
    show codeAny _ _ (.expr body (lamEnv X scope s1.heap.objs.size f c')) _ _
    have kp : ∀ b o, s1.heap.get? b = some o → h₁.get? b = some o := fun b o e => hsb.extBut b o (Nat.ne_of_lt (Heap.lt_size e)) (Heap.get?_push_of_some _ e)
    have J : L2.Inv (lamCx X (X.A.deeper (envOfC qg sg s.heap.objs.size g cdg)) (envOfC qg sg s.heap.objs.size g cdg :: X.stack) s1 HZ E scope f c') [] σ HZ { s1 with heap := h₁, toks := s1.toks + ([] : List (Str × Value)).length } :=
      lam_start2 I L I1.env0 hr.hd un hns kp
    refine PySem.W.kla_codeExpr (wpAny_mono ((hbody _ _ s1 HZ (hr.deeper _)).run [] _ _ HZ Q J ht) (fun v s' hq => ?_) fun e s' hq => hq)
    obtain ⟨w', H', J', rv, q⟩ := hq
    exact ⟨w', H', J'.os, J'.bare, J'.base, J'.hok, rv, q⟩
  have hx : Passes (L2.CX X.prog X.w) ((cxOf CXg X.prog X.w X.K X.mg X.base Ng qg sg g cdg X.A X.stack s H Eg).tr pn xe) E := passes_call tk hW
  refine wpAny_call (codeAny_mono rc fun r s' hq => ?_)
  cases r with
  | error e => exact hx pinsZ σZ HZ s1 e s' I1 hq
  | ok fl =>
    cases fl with
    | ret u => exact I1.after hq
    | next => exact False.elim hq
    | brk => exact False.elim hq
    | cont => exact False.elim hq
theorem pe_actDV {CXg : CXT} {Eg : XK} {Ng : List Str} {qg : Str} {sg : Scope} {g f c' D0 : Addr} {cdg : Value} {params : Arguments} {body : Expr} {scope : Scope} {k i : Nat} {a b : Str} {pn : List (Addr × Obj)} {xe : Value → Shared → Prop} {W : WX} {E : XK} {tb : TE} {p1 p2 : Pos}
    (I : L2.Inv X pins σ H s) (L : LamSD X.env.scope scope X.N b)
    (hbind : BindD params body scope b)
    (tk : Takes ((cxOf CXg X.prog X.w X.K X.mg X.base Ng qg sg g cdg X.A X.stack s H Eg).tr pn xe) W) (hW : ∀ cls d σ' H', E cls d H' → W cls d σ' H') (hr : Room (k + 1) (X.A.deeper (envOfC qg sg s.heap.objs.size g cdg)))
    (hbody : ∀ (A : Around) (outer : List PySem.Env) (s : Shared) (H : Hp), Room k (A.deeper (lamEnv X scope s.heap.objs.size f c')) → PE (lamCx X A outer s H E scope f c') body tb)
    (hN : Ng[i]? = some a) (hv : Vis sg a) (hd : (a == ("__debug__" : Str)) = false := by decide) (hcd : (a == ("__classdict__" : Str)) = false := by decide) :
    PE ((cxOf CXg X.prog X.w X.K X.mg X.base Ng qg sg g cdg X.A X.stack s H Eg).tr pn xe) (.Call (.Name a p1) [] [] p2)
      (fun σZ HZ Q => σZ[i]? = some (some (.ref f)) ∧ HZ c' = some (CodeO c' (X.env.qual ++ "<lambda>")) ∧ (HZ f = some (CloD f ⟨params, body, scope, X.env.qual ++ "<lambda>", some b⟩ X.env.cells c' D0) ∧ HZ D0 = some (.tup [.int 0])) ∧ tb σ HZ Q) := by
  refine ⟨fun pinsZ sZ σZ HZ Q IZ h => ?_⟩
  obtain ⟨hs, hc, ⟨hf, hD⟩, ht⟩ := h
  refine wpAny_Call_Name_kw (thn ((pe_var (pos := p1) (i := i) hN hv hd hcd).run pinsZ sZ σZ HZ (fun v H1 => v = .ref f ∧ H1 = HZ) IZ ⟨.ref f, hs, rfl, rfl⟩) fun u s1 ⟨v, H1, I1, r1, q1⟩ => ?_)
  obtain ⟨ev, eH⟩ := q1
  subst ev
  rw [eH] at I1
  obtain rfl : u = Value.ref f := r1
  obtain ⟨⟨doc, pm, ctv, of1⟩, _, _⟩ := I1.hok f _ hf
  refine PySem.W.callWith_F0 ⟨_, _, _, _, of1⟩ ?_
  have un : Un (frs X.stack) [] H HZ s.heap s1.heap := I1.base
  obtain ⟨⟨oc, vs, t, hoc, hdc, hvc⟩, _, _⟩ := I1.hok c' _ hc
  obtain ⟨_, its, hv2, ⟨oD, hoD, _, nD, hdD⟩⟩ := I1.hok D0 _ hD
  obtain ⟨t0, rfl⟩ : ∃ t0, its = [.int 0 t0] := by
    cases hv2 with
    | cons r rt =>
      cases rt
      obtain ⟨t, rfl⟩ := r
      exact ⟨t, rfl⟩
  obtain ⟨kb, hb1, hb2⟩ := hbind (X.env.qual ++ "<lambda>") (cloFrom X.env.cells scope.names []) D0 doc pm (.ref c') ctv
  have bt : BindsTo s1 (PySem.W.kdv_fn "<lambda>" (X.env.qual ++ "<lambda>") params (.expr body) scope (cloFrom X.env.cells scope.names []) (.ref D0) doc pm (.ref c') ctv) ⟨[], []⟩ [(b, .int 0 t0)] := BindsTo.of_defaults rfl hoD hdD hb1 (hb2 t0)
  have rc : codeAny (model X.prog X.w) (X.A.deeper (envOfC qg sg s.heap.objs.size g cdg)) (.call (.ref f) ⟨[], []⟩) (CR (L2.CX X.prog X.w) (envOfC qg sg s.heap.objs.size g cdg :: X.stack) X.prog X.w HZ s1 Q E) s1 := by
    refine PySem.W.kla_callFunE hr.depth of1 rfl L.co L.gen rfl ⟨c', oc, vs, t, rfl, hoc, hdc, hvc⟩ (bt _ _ _ _ ?_)
    refine wpAny_newFunctionEnv (fun y hy => (L.own y hy).1) (fun y hy => by
      rcases List.mem_cons.mp hy with rfl | hy
      · exact L.par
      · cases hy) (fun h₁ hns hsb => ⟨I1.nolimit.fresh _ hsb, ?_⟩) L.kind
    show codeAny _ _ (.expr body (lamEnv X scope s1.heap.objs.size f c')) _ _
    have kp : ∀ b o, s1.heap.get? b = some o → h₁.get? b = some o := fun b o e => hsb.extBut b o (Nat.ne_of_lt (Heap.lt_size e)) (Heap.get?_push_of_some _ e)
    have J : L2.Inv (lamCx X (X.A.deeper (envOfC qg sg s.heap.objs.size g cdg)) (envOfC qg sg s.heap.objs.size g cdg :: X.stack) s1 HZ E scope f c') [] σ HZ { s1 with heap := h₁, toks := s1.toks + ([(b, Value.int 0 t0)] : List (Str × Value)).length } :=
      lam_start2D I L I1.env0 hr.hd un hns kp
    refine PySem.W.kla_codeExpr (wpAny_mono ((hbody _ _ s1 HZ (hr.deeper _)).run [] _ _ HZ Q J ht) (fun v s' hq => ?_) fun e s' hq => hq)
    obtain ⟨w', H', J', rv, q⟩ := hq
    exact ⟨w', H', J'.os, J'.bare, J'.base, J'.hok, rv, q⟩
  have hx : Passes (L2.CX X.prog X.w) ((cxOf CXg X.prog X.w X.K X.mg X.base Ng qg sg g cdg X.A X.stack s H Eg).tr pn xe) E := passes_call tk hW
  refine wpAny_call (codeAny_mono rc fun r s' hq => ?_)
  cases r with
  | error e => exact hx pinsZ σZ HZ s1 e s' I1 hq
  | ok fl =>
    cases fl with
    | ret u => exact I1.after hq
    | next => exact False.elim hq
    | brk => exact False.elim hq
    | cont => exact False.elim hq
/-- the block's own slots are not the def's -/
theorem inv_more {σ2 : L2.St} {own : List (Str × Nat)} (I : L2.Inv X pins σ H s) (hw : wipe σ2 (own.map (·.2)) = wipe σ (own.map (·.2))) (ho : ∀ p ∈ own, X.N[p.2]? = some p.1 ∧ ¬ Vis X.env.scope p.1) : L2.Inv X pins σ2 H s := by
  have hl : σ2.length = σ.length := by rw [← wipe_length σ2 (own.map (·.2)), hw, wipe_length]
  refine ⟨I.ok, I.os, I.bare, I.base, let ⟨m, hn, hl'⟩ := I.loc; ⟨m, hn, fun i x v e1 e2 e3 => hl' i x v e1 ?_ e3⟩, I.cell, I.free, I.freeC, I.pin, I.hok, hl.trans I.len⟩
  by_cases hi : i ∈ own.map (·.2)
  · obtain ⟨p, hp, rfl⟩ := List.mem_map.mp hi
    obtain ⟨h1, h2⟩ := ho p hp
    rw [e1] at h1; cases h1
    exact absurd e3 h2
  · rw [← wipe_out hi, ← hw, wipe_out hi]
    exact e2
end
section
variable [CLs]
open Classical in
/-- g(x), x one of the lambdas told by gs -/
noncomputable def eErrV (iv : Nat) (gs : List (Ef D)) (cl : List ClV) (z : Str) : Ef D := fun e => match e.s[iv]? with
  | some (.val (.clo k i c)) => if i = CLs.lam k ∧ c = CLs.cl then (match gs[k]? with
    | some g => eErr g cl z e
    | none => .stuck) else .stuck
  | _ => .stuck
/-- a lambda whose body is derived -/
inductive LamOk (X : Cx) (k : Nat) (j : Nat) (g : Ef D) : Prop
  | nod {params : Arguments} {body : Expr} {scope : Scope} (hk : CLs.lam j = ⟨params, body, scope, X.env.qual ++ "<lambda>", none⟩) (L : LamS X.env.scope scope)
      (hbody : ∀ (Y : Cx) (E1 : XK), (∃ A outer s H f c', Y = lamCx X A outer s H E1 scope f c') → DC Y (sk E1) → Room k Y.A → DE Y (sk E1) body g)
      (hbind : ∀ (q : Str) (cl : List (Str × Addr)) (pm cv ctv : Value), bindArgs (PySem.W.kla_fn "<lambda>" q params body scope cl pm cv ctv) ⟨[], []⟩ = pure [] := by intros; rfl) : LamOk X k j g
  | dfl {params : Arguments} {body : Expr} {scope : Scope} {b : Str} (hk : CLs.lam j = ⟨params, body, scope, X.env.qual ++ "<lambda>", some b⟩) (L : LamSD X.env.scope scope X.N b)
      (hbody : ∀ (Y : Cx) (E1 : XK), (∃ A outer s H f c', Y = lamCx X A outer s H E1 scope f c') → DC Y (sk E1) → Room k Y.A → DE Y (sk E1) body g)
      (hbind : BindD params body scope b) : LamOk X k j g
variable {X : Cx}
theorem pe_errVG {E : SK} {x z v : Str} {cl : List ClV} {k iv : Nat} {gs : List (Ef D)} {s0 : Shared} {H0 : Hp} {scope : Scope} {ce : PySem.Env} {fp : List Addr} {pins : List (Addr × Obj)} {σ0 : L2.St} {own : List (Str × Nat)} {p p2 p3 : Pos}
    (nd : X.N.Nodup) (I0 : L2.Inv X pins σ0 H0 s0) (hf : ∀ b ∈ fp, FpOk X pins H0 b) (ho : ∀ p ∈ own, X.N[p.2]? = some p.1 ∧ ¬ Vis X.env.scope p.1) (EF : ErrFn X.K X.mg x cl z) (hr : Room (k + 2) X.A) (hcl : X.env.cells = CLs.cl) (hall : ∀ j g, gs[j]? = some g → LamOk X k j g)
    (hN : X.N[iv]? = some v) (hv : Vis ce.scope v) (hg : Gl (X.blk s0 H0 scope ce fp) x) (hd : (v == ("__debug__" : Str)) = false := by decide) (hcd : (v == ("__classdict__" : Str)) = false := by decide) :
    PE (X.blk s0 H0 scope ce fp) (.Call (.Name x p) [.Name v p2] [] p3) (fun σ2 H2 Q => wipe σ2 (own.map (·.2)) = wipe σ0 (own.map (·.2)) ∧ tD X.K E (eErrV iv gs cl z) σ2 H2 Q) := by
  obtain ⟨st, fg, fd, a, Ng, F, hm, hb, Sg, hNg, hva, d1, d2, d3, h₀, hds, q1, q2, q3, q4, q5, q6, j0, hB, hh⟩ := EF.ex
  obtain ⟨oc, od, dV, kV, doc, pm, an, cdv, ct, osl, rfl, lk, hcg, _, _⟩ := F.ex
  have hG := err_gives (X := X) (x := x) (q := X.env.qual ++ "<lambda>") (g := fg) (cdg := cdv) (p1 := q1) (p2 := q2) (p3 := q3) (p4 := q4) (p5 := q5) (p6 := q6) (j := j0) (a := a) (z := z) Sg.nd hh (fun f => by
    have hl : 0 < Ng.length := (List.getElem?_eq_some_iff.mp hNg).1
    unfold L2.start
    rfl)
  rw [← hB] at hG
  refine ⟨fun pinsY s σ H Q I h => ?_⟩
  obtain ⟨hw, bs, ex, F0, e, sr, p0⟩ := h
  -- which lambda it is
  obtain ⟨ki, hsl, g, hgk, p0⟩ : ∃ ki, e.s[iv]? = some (.val (.clo ki (CLs.lam ki) CLs.cl)) ∧ ∃ g, gs[ki]? = some g ∧ Post X.K E bs ex σ H F0 (eErr g cl z e) fun d _ H' F' => ∀ v, Rep X.K F' d v → Q v H' := by
    unfold eErrV at p0
    split at p0
    · rename_i k i c hs
      split at p0
      · rename_i hc
        obtain ⟨rfl, rfl⟩ := hc
        split at p0
        · rename_i g hg
          exact ⟨k, hs, g, hg, p0⟩
        · exact p0.elim
      · exact p0.elim
    · exact p0.elim
  obtain ⟨w, hw1, rw1⟩ := sr.val iv _ hsl
  refine wpAny_Call_Name_kw (ld_glob I hg hm ?_ d3)
  refine PySem.W.callWith_K (h₀ := X.base) I.ok.mod.kin F.kp ?_ (by rfl) (by rfl)
  show wpAny _ _ (spliced ((false, eval (.Name v p2) ce) :: backTo p3 (starEach [] ce))) _ _ s
  refine Calls.spliced_cons (thn ((pe_var (X := X.blk s0 H0 scope ce fp) (pos := p2) (i := iv) hN hv hd hcd).run pinsY s σ H (fun v H1 => v = w ∧ H1 = H) I ⟨w, hw1, rfl, rfl⟩) fun u s1 ⟨v1, H1, I1, r1, qv, qH⟩ => ?_)
  rw [qH] at I1
  subst qv
  clear qH H1
  refine Calls.spliced_nil ⟨I1.kIn, ?_⟩
  have IX : L2.Inv X pins σ H s1 := inv_more (back_in I0 hf I1) hw ho
  -- what the body tells, and what becomes of it
  have tell : ∀ fa : Hp → Prop, fa H → TErr X.K cl z (fun E1 H' Q' => fa H' ∧ tD X.K (sk E1) g σ H' Q') H Q := fun fa hfa => by
    unfold eErr at p0
    refine ⟨fun cls d H' => ∃ c as e' F', cls = .ref c ∧ g e = .exc c as e' ∧ StR X.K bs ex σ H' F' e' ∧ Step ex H F0 H' F' ∧ ExcR X.K F' as d, ⟨hfa, bs, ex, F0, e, sr, ?_⟩, fun cls d H' hE => ?_⟩
    · cases hr : g e with
      | stuck => rw [hr] at p0; exact p0.elim
      | ok y e' =>
        rw [hr] at p0
        exact fun H' F' s' st v r => p0 H' F' s' st _ (.str z)
      | exc c as e' => exact fun dx H' F' s' st x => ⟨c, as, e', F', rfl, rfl, s', st, x⟩
    · obtain ⟨c, as, e', F', rfl, hr, s', st, x⟩ := hE
      rw [hr] at p0
      dsimp only at p0
      cases hv : selV c as cl with
      | none => rw [hv] at p0; exact p0.elim
      | some v =>
        rw [hv] at p0
        refine ⟨c, as, F', v, rfl, s'.le, x, hv, fun F'' H'' w gr r => ?_⟩
        obtain ⟨s3, st3⟩ := gr _ _ _ _ s'
        exact p0 H'' F'' s3 (st.trans st3) w r
  have fin : ∀ (f c' : Addr) (fa : Hp → Prop), v1 = .ref f → H c' = some (CodeO c' (X.env.qual ++ "<lambda>")) → fa H → (∀ (W : WX) (pn : List (Addr × Obj)) (xe : Value → Shared → Prop) (E1 : XK) (p1 p2 : Pos) (hr' : Room (k + 1) (X.A.deeper (envOfC x (defScope st) s1.heap.objs.size fg cdv))), Takes ((cxOf C8.CX0 X.prog X.w X.K X.mg X.base Ng x (defScope st) fg cdv X.A X.stack s1 H C8.E0).tr pn xe) W → (∀ cls d σ' H', E1 cls d H' → W cls d σ' H') →
      PE ((cxOf C8.CX0 X.prog X.w X.K X.mg X.base Ng x (defScope st) fg cdv X.A X.stack s1 H C8.E0).tr pn xe) (.Call (.Name a p1) [] [] p2) (fun σZ HZ Q => σZ[0]? = some (some (.ref f)) ∧ HZ c' = some (CodeO c' (X.env.qual ++ "<lambda>")) ∧ fa HZ ∧ tD X.K (sk E1) g σ HZ Q)) →
      wpAny (model X.prog X.w) X.A (call (.ref fg) [u]) (EP (X.blk s0 H0 scope ce fp) pinsY σ Q) (X.blk s0 H0 scope ce fp).xe s1 := fun f c' fa ef hc hfa act => by
    subst ef
    obtain rfl : u = Value.ref f := r1
    have rc : codeAny (model X.prog X.w) X.A (.call (.ref fg) ⟨[.ref f], []⟩) (CR C8.CX0 X.stack X.prog X.w H s1 Q C8.E0) s1 := by
      refine run_ofS (N := Ng) (ps := [a]) (us := [.ref f]) (vs := [.ref f]) lk hcg Sg hr I1.env0 (hb s1 [.ref f] I1.kIn rfl) (.cons rfl .nil) rfl fun hr' => ?_
      obtain ⟨t', ht', hq'⟩ := hG f c' s1 H Q _ (fun W pn xe E1 p1 p2 tk hW => act W pn xe E1 p1 p2 hr' tk hW) hc (tell fa hfa)
      exact ⟨t', ht'.nox, hq'⟩
    refine wpAny_call (codeAny_mono rc fun r s2 hq => ?_)
    cases r with
    | error e => exact (show False from hq).elim
    | ok fl =>
      cases fl with
      | ret u => exact I1.after hq
      | next => exact False.elim hq
      | brk => exact False.elim hq
      | cont => exact False.elim hq
  have lo := hall _ _ hgk
  have C0 : ∀ {A : Around} {outer : List PySem.Env} {s : Shared} {H : Hp} {E1 : XK} {scope : Scope} {f c' : Addr}, DC (lamCx X A outer s H E1 scope f c') (sk E1) := DC.lamC nd
  cases rw1 with
  | @clo f c' _ _ _ n hF hC =>
    cases lo with
    | @nod params body scope' hk L hbody hbind =>
      rw [hk] at hF hC
      rw [← hcl] at hF
      exact fin f c' _ rfl (sr.le _ _ hC) (sr.le _ _ hF) fun W pn xe E1 p1 p2 hr' tk hW => pe_actV (i := 0) IX L hbind tk hW hr' (fun A outer s H hr2 => (hbody _ E1 ⟨A, outer, s, H, f, c', rfl⟩ C0 hr2).pe) hNg hva d1 d2
    | @dfl params body scope' b hk L hbody hbind => rw [hk] at n; cases n
  | @cld f c' D0 _ _ _ b' n hF hC hD =>
    cases lo with
    | @nod params body scope' hk L hbody hbind => rw [hk] at n; cases n
    | @dfl params body scope' b hk L hbody hbind =>
      rw [hk] at hF hC
      rw [← hcl] at hF
      exact fin f c' _ rfl (sr.le _ _ hC) ⟨sr.le _ _ hF, sr.le _ _ hD⟩ fun W pn xe E1 p1 p2 hr' tk hW => pe_actDV (i := 0) IX L hbind tk hW hr' (fun A outer s H hr2 => (hbody _ E1 ⟨A, outer, s, H, f, c', rfl⟩ C0 hr2).pe) hNg hva d1 d2
end
open LamX NdefX
/-! ### the lambdas of a text, in the text's order -/
def lamOf (q : Str) (ps : Arguments) (b : Expr) (sc : Scope) : LamI := ⟨ps, b, sc, q, if ps.defaults.isEmpty then none else (ps.args.getLast?).map (·.arg)⟩
def lamsE (q : Str) : Nat → Expr → List LamI
  | 0, _ => []
  | _ + 1, .Lambda ps b sc _ => [lamOf q ps b sc]
  | n + 1, .Call f as ks _ => lamsE q n f ++ (as.flatMap (lamsE q n) ++ ks.flatMap fun k => lamsE q n k.value)
  | n + 1, .List es _ => es.flatMap (lamsE q n)
  | n + 1, .Tuple es _ _ => es.flatMap (lamsE q n)
  | n + 1, .BinOp a _ b _ => lamsE q n a ++ lamsE q n b
  | n + 1, .BoolOp _ es _ => es.flatMap (lamsE q n)
  | n + 1, .UnaryOp _ a _ => lamsE q n a
  | n + 1, .Compare a _ es _ => lamsE q n a ++ es.flatMap (lamsE q n)
  | n + 1, .ListComp e gs _ _ => lamsE q n e ++ gs.flatMap fun g => lamsE q n g.iter ++ g.ifs.flatMap (lamsE q n)
  | n + 1, .Subscript a b _ => lamsE q n a ++ lamsE q n b
  | _ + 1, _ => []
def lamsS (q : Str) : Nat → Stmt → List LamI
  | 0, _ => []
  | n + 1, .Assign _ e _ => lamsE q n e
  | n + 1, .Expr e _ => lamsE q n e
  | n + 1, .Return (some e) _ => lamsE q n e
  | n + 1, .If t a b _ => lamsE q n t ++ (a.flatMap (lamsS q n) ++ b.flatMap (lamsS q n))
  | n + 1, .For _ e b o _ => lamsE q n e ++ (b.flatMap (lamsS q n) ++ o.flatMap (lamsS q n))
  | n + 1, .While t b o _ => lamsE q n t ++ (b.flatMap (lamsS q n) ++ o.flatMap (lamsS q n))
  | _ + 1, _ => []
/-- the lambdas of a def -/
def lamTab (q : Str) (b : List Stmt) (k : Nat) : LamI := match (b.flatMap (lamsS q 40))[k]? with
  | some i => i
  | none => ⟨⟨[], [], none, [], [], none, []⟩, .Name "" ⟨0, 0, 0, 0⟩, default, q, none⟩
/-! ### a def with such lambdas: its reading for any cells -/
def spDL (K : PySem.W.Frag) (n : Nat) (G : CLs → Ef D) : Sp := fun vs H Q E => ∀ C : CLs, spD K n (G C) vs H Q E
section
variable {P : Program} {w : World} {K : PySem.W.Frag} {mg : Str → Option Value} {base : Heap}
theorem fnok_ofL {x qual : Str} {st : Stmt} {f : Addr} {fd : FuncData} {N ps : List Str} {dvs : List V} {kws : List (Str × V)} {n k : Nat} {body : CLs → Ef Fl} {lam : Nat → LamI} (F : FunD K x qual (defArgs st) (defBody st) (defScope st) dvs kws f fd) (TF : TabF mg base fd ((qual ++ ".<locals>.") ++ "<lambda>")) (S : FnScope N ps (defScope st)) (hn : ps.length = n)
    (hbody : ∀ (X : Cx) (E : XK) (cdv : Value) (A : Around) (outer : List PySem.Env) (s : Shared) (H : Hp), X = cxOf (L2.CX P w) P w K mg base N qual (defScope st) f cdv A outer s H E → DC X (sk E) → Room k X.A → TabD X → DSs X (sk E) (defBody st) (body ⟨X.env.cells, lam⟩)) :
    FnOk P w K mg base (L2.CX P w) (k + 1) f fd ps (spDL K n fun C => runB N.length (body C)) := by
  obtain ⟨oc, od, dV, kV, doc, pm, an, cdv, ct, osl, rfl, lk, hcd, _, _⟩ := F.ex
  refine fn_of lk hcd S (fun vs H Q E h => ?_) (fun A outer s H vs Q E hr h => ?_)
  · obtain ⟨bs, ex, F0, e, s, ⟨a, _⟩, _⟩ := h ⟨[], lam⟩
    have := s.len
    rw [List.length_map] at this
    omega
  · obtain ⟨bs, ex, F0, e, s0, ⟨a, a2⟩, hq⟩ := h ⟨(cxOf (L2.CX P w) P w K mg base N qual (defScope st) f cdv A outer s H E).env.cells, lam⟩
    have TD : TabD (cxOf (L2.CX P w) P w K mg base N qual (defScope st) f cdv A outer s H E) := by
      obtain ⟨c, P, h1, h2, h3, h4⟩ := TF
      exact ⟨c, P, h1, h2, h3, h4⟩
    refine ⟨_, (hbody _ E cdv A outer s H rfl (DC.of S.nd) hr TD).ps, ?_⟩
    have hvs : vs.length = e.s.length := by have := s0.len; rw [List.length_map] at this; omega
    refine ⟨bs, ex, F0, _, (s0.more (N.length - e.s.length)).cast hvs, ?_⟩
    unfold runB at hq
    dsimp only at hq
    generalize hb : body ⟨(cxOf (L2.CX P w) P w K mg base N qual (defScope st) f cdv A outer s H E).env.cells, lam⟩ ⟨e.s ++ List.replicate (N.length - e.s.length) .und, e.b⟩ = r at hq ⊢
    cases r with
    | ok fl e' =>
      refine fun σ' H' F' s' st' => ?_
      obtain ⟨F2, s2, st2⟩ := s'.leave
      cases fl with
      | nx => exact hq .non H' F2 s2 (st'.trans st2) .non
      | rt d => exact fun v r => hq v H' F2 s2 (st'.trans st2) (r.same st2.1)
      | bk => exact hq.elim
      | ct => exact hq.elim
    | exc c as e' =>
      refine fun σ' dx H' F' s' st' x => ?_
      obtain ⟨F2, s2, st2⟩ := s'.leave
      exact hq dx H' F2 s2 (st'.trans st2) (x.same st2.1)
    | stuck => exact hq
end
/-! ### [v for v in lambdas if g(v) != e] -/
section
variable {X : Cx} [CLs]
/-- the lambdas of a list, from the j-th on -/
def LamsOk (X : Cx) (k : Nat) : Nat → List (Ef D) → Prop
  | _, [] => True
  | j, g :: r => LamOk X k j g ∧ LamsOk X k (j + 1) r
theorem LamsOk.get {k : Nat} : ∀ {j : Nat} {gs : List (Ef D)}, LamsOk X k j gs → ∀ i g, gs[i]? = some g → LamOk X k (j + i) g
  | j, [], _, i, g, h => by simp at h
  | j, a :: r, ⟨h1, h2⟩, 0, g, h => by simp at h; subst h; exact h1
  | j, a :: r, ⟨h1, h2⟩, i + 1, g, h => by
    have z := LamsOk.get h2 i g (by simpa using h)
    rwa [show j + 1 + i = j + (i + 1) by omega] at z
theorem LamsOk.pre {k : Nat} {b : List (Ef D)} : ∀ {j : Nat} {a : List (Ef D)}, LamsOk X k j (a ++ b) → LamsOk X k j a
  | _, [], _ => trivial
  | j, g :: r, ⟨h1, h2⟩ => ⟨h1, LamsOk.pre (j := j + 1) (a := r) h2⟩
theorem not_vis {sc : Scope} {v : Str} (h : sc.names.lookup v = none) : ¬ Vis sc v := fun z => by
  rcases z with z | z | z <;> rw [h] at z <;> cases z
theorem dn_lcV {E : SK} {iter rhs : Expr} {fi : Ef (List D)} {fr : Ef D} {x v z : Str} {cl : List ClV} {k : Nat} {gs : List (Ef D)} {scope : Scope} {op : CmpOp} {fn : D → D → Option D} {p p1 p2 p3 p4 pt pos : Pos}
    (C : DC X E) (iv : Nat) (hi : DI X E (.Name v pt) iter fi) (ok : BlkOk X.N X.env.scope scope [(v, iv)]) (EF : ErrFn X.K X.mg x cl z) (hr : Room (k + 2) X.A) (hcl : X.env.cells = CLs.cl) (hall : LamsOk X k 0 gs)
    (ho : ∀ Y : Cx, Y.A = X.A → OpR Y (compareOp op) (rF2 Y fn)) (hb : ∀ (Y : Cx) (s : Shared) (H : Hp) (Ca : Addr) (cl : List (Str × Addr)) (fp : List Addr), Y = X.blk s H scope (compEnvC scope cl Ca X.env) fp → DC Y ES0 → DE Y ES0 rhs fr)
    (hg : ∀ (Y : Cx) (s : Shared) (H : Hp) (Ca : Addr) (cl : List (Str × Addr)) (fp : List Addr), Y = X.blk s H scope (compEnvC scope cl Ca X.env) fp → DC Y ES0 → DG Y ES0 [iv] (.Name v pt) (setV iv))
    (he : ∀ (Y : Cx) (s : Shared) (H : Hp) (Ca : Addr) (cl : List (Str × Addr)) (fp : List Addr), Y = X.blk s H scope (compEnvC scope cl Ca X.env) fp → DC Y ES0 → DE Y ES0 (.Name v p1) (eVar iv))
    (hv : ∀ (Ca : Addr) (cl : List (Str × Addr)), Vis (compEnvC scope cl Ca X.env).scope v) (hx : ∀ (s : Shared) (H : Hp) (Ca : Addr) (cl : List (Str × Addr)) (fp : List Addr), Gl (X.blk s H scope (compEnvC scope cl Ca X.env) fp) x)
    (hnv : ¬ Vis X.env.scope v) (hN : X.N[iv]? = some v := by rfl) (hm : behindInMarks op rhs = false := by first | exact nobehind _ (by decide) (by decide) | rfl) (hd : (v == ("__debug__" : Str)) = false := by decide) (hcd : (v == ("__classdict__" : Str)) = false := by decide)
    (hs : ∀ x, foldedSetIterable iter X.env x = pure x := by intro _; rfl) :
    DN X E (.ListComp (.Name v p1) [⟨.Name v pt, iter, [.Compare (.Call (.Name x p) [.Name v p2] [] p3) [op] [rhs] p4], 0⟩] scope pos) (eLc fi (setV iv) (eB (eOp2 fn (eErrV iv gs cl z) fr)) (eVar iv) [iv]) := by
  refine ⟨PE.imp (pe_lcI C.calm C.nd hi.pi ok (fun s H Ca cl fp => show PG _ (.Name v pt) (tDG X.K ES0 [iv] (setV iv)) from (hg _ s H Ca cl fp rfl (C.blk ..)).pg) (fun s H Ca cl' fp pins σ I0 hf => pts_one (PT.imp (t' := fun σ2 H2 Q => wipe σ2 ([(v, iv)].map (·.2)) = wipe σ ([(v, iv)].map (·.2)) ∧ tDT X.K ES0 (eB (eOp2 fn (eErrV iv gs cl z) fr)) σ2 H2 Q)
    (pt_cmpR (ho (X.blk s H scope (compEnvC scope cl' Ca X.env) fp) rfl) (pe_errVG (own := [(v, iv)]) (E := ES0) (gs := gs) C.nd I0 hf (fun q hq => ?_) EF hr hcl (fun j g h => ?_) hN (hv Ca cl') (hx s H Ca cl' fp) hd hcd) (hb _ s H Ca cl' fp rfl (C.blk ..)).pe hm) ?_))
    (fun s H Ca cl fp => show PE _ (.Name v p1) (tD X.K ES0 (eVar iv)) from (he _ s H Ca cl fp rfl (C.blk ..)).pe) hs) (lc_pure (by simp))⟩
  · obtain rfl := List.mem_singleton.mp hq
    exact ⟨hN, hnv⟩
  · have z := hall.get j g h
    rwa [Nat.zero_add] at z
  · exact fun σ2 H2 Q ⟨hw, h⟩ => ⟨hw, tst_core op2_core σ2 H2 Q h⟩
end
open LamX NdefX
section
open PySem.W PySem.Calls
variable {prog : Program} {w : World} {A : Around} {E : Value → Shared → Prop} {s : Shared} {K : PySem.W.Frag} {x D : Addr} {ox od : Obj}
/-- the class of an exception that has a dict -/
theorem cls_excD {Q : Option Value → Shared → Prop} (C : ExcC K D) (X : K.In s.heap) (I : PySem.W.InstAt s.heap x ox D (some od)) (h : Q (some (.ref D)) { s with toks := s.toks + 1 }) : wpAny (model prog w) A (getAttr? (.ref x) "__class__") Q E s := by
  have ff : findObj K D (some od) "__class__" = some (.bind (.builtin "getset_descriptor.__get__") (.builtin "object.__class__")) := findObj_data (by
    obtain ⟨cd, hc, _⟩ := any_some C.hd
    rw [hc]; rfl) C.ha C.hn C.ht
  obtain ⟨hp, g, d, t, os⟩ := s
  have t0 := I.type (M := model prog w)
  have t3 := looks_find (M := model prog w) X I ff
  have slow : (Value.builtin "BaseException.__getattribute__" == Value.builtin "object.__getattribute__") = false := by decide +kernel
  have plain : (onTheHeap (Value.ref D) && Value.builtin "BaseException.__getattribute__" == Value.builtin "object.__getattribute__") = false := by rw [slow]; rfl
  unfold getAttr? getAttrBy? getAttrBy
  refine wpAny_bind (wpAny_mkText (wpAny_bind (wpAny_attempt (wpAny_holding (wpAny_bind (t0.at (wpAny_bind ((looks_findIn (M := model prog w) X C.hg).at ?_))))))))
  show wpAny _ _ (if (onTheHeap (Value.ref D) && Value.builtin "BaseException.__getattribute__" == Value.builtin "object.__getattribute__") = true then _ else _) _ _ _
  rw [plain, if_neg Bool.false_ne_true]
  unfold getAttrByItsOwn hookBefore
  refine wpAny_bind ?_
  rw [if_pos (show onTheHeap (Value.ref D) = true from rfl)]
  refine (looks_findIn (M := model prog w) X C.hk).at (wpAny_bind (wpAny_attempt (wpAny_holding ?_)))
  unfold callGetattribute
  rw [show (false && onTheHeap (Value.builtin "BaseException.__getattribute__")) = false from rfl, if_neg Bool.false_ne_true]
  unfold boundAndCalled
  rw [PySem.F.excAttr_ValueError.ga.bind (.ref x)]
  refine wpAny_bind (wpAny_pure ?_)
  show wpAny _ _ (call (.builtin "BaseException.__getattribute__") [.ref x, .str "__class__" t]) _ _ _
  refine wpAny_call (codeAny_call_builtin PySem.F.excAttr_ValueError.ga.plain PySem.F.entry_bexc_ga ?_)
  refine @check_slot (model prog w) _ _ ⟨hp, g, d, t + 1, os⟩ "BaseException.__getattribute__" "BaseException" "__getattribute__" (.ref x) [.str "__class__" t] [] _ (by decide +kernel) (by decide +kernel) (t0.andThen (looks_subIn X C.hs)) (PySem.F.args_bexc_ga (.ref x) (.str "__class__" t)) ?_
  unfold Builtin.«object.__getattribute__»
  refine wpAny_bind (wpAny_of_eq (a := ((Value.ref x : Value), [Value.str "__class__" t])) (by first | rfl | (simp only [slotArgs]; rfl)) ?_)
  refine wpAny_bind (wpAny_pure (wpAny_bind (t0.at (wpAny_bind (t3.at ?_)))))
  show wpAny _ _ (holding [Value.builtin "object.__class__"] (call (.builtin "getset_descriptor.__get__") [.builtin "object.__class__", .ref x, .ref D]) >>= ret) _ _ _
  refine wpAny_bind (wpAny_holding (wpAny_call (class_get (s := ⟨hp, g, d, t + 1, os⟩) (ox := ox) (od := some od) X I C.hm ?_)))
  refine wpAny_pure ?_
  show wpAny _ _ (handedOut (.ref D)) _ _ _
  rw [handedOut_of (v := .ref D) rfl]
  first
    | exact wpAny_pure (wpAny_pure h)
    | exact wpAny_pure h
    | exact wpAny_pure (wpAny_bind (wpAny_pure (wpAny_pure h)))
theorem kit_excD (C : ExcC K D) : KitX K (.ref x) (.ref D) (fun h => ∃ od, PySem.W.InstAt h x ox D (some od)) where
  ty := fun _ _ _ ⟨_, I⟩ => I.type
  it := fun _ _ X _ => by
    obtain ⟨cdD, hcD, _⟩ := any_some C.hd
    unfold clsIn at hcD
    split at hcD
    · rename_i c' d' cd' sl' ho
      intro A' Q' E' s' k q
      unfold isType loadHead
      exact wpAny_bind (wpAny_loadPart (k _ _ (X _ _ ho)) (wpAny_pure q))
    · cases hcD
  ne := fun h tp dd its n sl X htp => by
    obtain ⟨cdD, hcD, _⟩ := any_some C.hd
    refine Bool.eq_false_iff.mpr fun q => ?_
    obtain rfl : D = tp := Value.ref.inj (beq_iff_eq.mp q)
    unfold clsIn at hcD
    split at hcD
    · rename_i c' d' cd' sl' ho
      cases (X _ _ ho).symm.trans htp
    · cases hcD
  ca := fun X ⟨_, I⟩ k => cls_excD C X I k
end
theorem mOf_all [CA] {P : Addr → Prop} {l : List (Str × Bool)} (h : ∀ p ∈ l, p.2 = true → P (CA.at p.1)) : ∀ c, mOf l c = some true → P c := by
  intro c hb
  unfold mOf at hb
  cases hf : l.find? fun p => decide (CA.at p.1 = c) with
  | none => rw [hf] at hb; cases hb
  | some p =>
    rw [hf] at hb
    have h2 : CA.at p.1 = c := by simpa using List.find?_some hf
    exact h2 ▸ h p (List.mem_of_find?_eq_some hf) (Option.some.inj hb)
/-- the class of an exception that isinstance asks, decided -/
def excCB (K : PySem.W.Frag) (D : Addr) : Bool := decide (PySem.W.findIn K (.ref D) "__getattribute__" = some (some (.builtin "BaseException.__getattribute__"))) && (decide (PySem.W.findIn K (.ref D) "__getattr__" = some none) && (decide (PySem.W.subIn K (.ref D) (.type "BaseException") = some true) && (PySem.W.hasDictIn K D &&
  (decide (PySem.W.findIn K (.ref D) "__class__" = some (some (.builtin "object.__class__"))) && (decide (PySem.W.specialIn K (.builtin "object.__class__") "__get__" = some (some (.builtin "getset_descriptor.__get__"))) && (decide (PySem.W.takesIn K (.builtin "object.__class__") = some true) && (decide (PySem.W.mroIn K D (.type "object") = some true) &&
  decide (PySem.W.kitOne K (.ref D) (.type "ValueError") = some true))))))))
/-- .. and it is a ValueError -/
def ExcV (K : PySem.W.Frag) (D : Addr) : Prop := ExcC K D ∧ PySem.W.kitOne K (.ref D) (.type "ValueError") = some true
theorem excC_ok {K : PySem.W.Frag} {D : Addr} (h : excCB K D = true) : ExcV K D := by
  unfold excCB at h
  simp only [Bool.and_eq_true, decide_eq_true_eq] at h
  obtain ⟨h1, h2, h3, h4, h5, h6, h7, h8, h9⟩ := h
  exact ⟨⟨h1, h2, h3, h4, h5, h6, h7, h8⟩, h9⟩
section
variable {Z : Cx} {a : Addr} {oe : Obj} {cls : Value} {d : Option Addr} {pn : List (Addr × Obj)} {m : Addr → Option Bool} {p1 p2 p3 p4 p5 p6 p7 p8 p9 p10 p11 : Pos} {z y : Str} {j j2 k : Nat}
/-- isinstance(e, ValueError), e the exception caught -/
def rIsD (K : PySem.W.Frag) (cls : Value) (d : Option Addr) (a : Addr) : List V → Hp → VK → Prop := fun xs H Q => ∃ (D dd : Addr) (fs : List (Str × V)), xs = [.ref a, .ty "ValueError"] ∧ cls = .ref D ∧ ExcV K D ∧ d = some dd ∧ H dd = some (.xd fs) ∧ Q (.bl true) H
theorem call_isED (hz : Zc cls d oe) (hf : ∃ vs, oe.data = .fields vs) : CallR (Z.suite a ((a, oe) :: pn)) (.builtin "isinstance") (rIsD Z.K cls d a) := by
  intro pins s σ H xs us Q I r h
  obtain ⟨D, dd, fs, rfl, rfl, C, rfl, hd, q⟩ := h
  cases r with
  | cons rx rr =>
    cases rr with
    | cons rt rr =>
      cases rr
      cases rx
      obtain rfl : _ = Value.type "ValueError" := rt
      obtain ⟨hget, _⟩ := I.pin (a, oe) (List.mem_append.mpr (.inl List.mem_cons_self))
      obtain ⟨vs, hv⟩ := hf
      obtain ⟨mA, hns, _⟩ := (show ObjOk Z.prog Z.w H s.heap dd (.xd fs) from I.hok dd _ hd)
      obtain ⟨od, ho, _⟩ := lookIn_ns hns
      have J : PySem.W.InstAt s.heap a oe D (some od) := ⟨hget, hz.1, by unfold PySem.W.notCls; rw [hv] <;> rfl, by rw [hz.2]; exact ho⟩
      exact PySem.W.kia_one (kit_excD C.1) I.kIn ⟨od, J⟩ C.2 (fun z => nomatch z) fun tk => ⟨.bl true, H, I.kept (t' := tk) fun _ _ z => z, rfl, q⟩
/-- (z, e.f) -/
def tupF (fld z : Str) (as : List D) : Option D := match fldOf fld as with
  | some (.int i) => some (.tup [.str z, .int i])
  | _ => none
theorem sv_tup {fld n : Str} {i : Nat} (hz : Zc cls d oe) (hf : ∃ vs, oe.data = .fields vs) (hX : ∀ c, m c = some true → XfC Z.K c ∧ PySem.W.findIn Z.K (.ref c) fld = some none) (hC : ∀ c, m c = some true → ExcV Z.K c) (hN : Z.N[i]? = some n) (hv : Vis Z.env.scope n)
    (hgi : Gl Z "isinstance") (hmi : Z.mg "isinstance" = none) (hge : Gl Z "ValueError") (hme : Z.mg "ValueError" = none) (hd : (n == ("__debug__" : Str)) = false) (hcd : (n == ("__classdict__" : Str)) = false)
    (hb : attributeBase (.Name n p6) fld Z.env (eval (.Name n p6) Z.env) = eval (.Name n p6) Z.env := by rfl) :
    PSs (Z.suite a ((a, oe) :: pn)) [.Return (some (.IfExp (.Call (.Name "isinstance" p1) [.Name n p2, .Name "ValueError" p3] [] p4) (.Tuple [.Constant (.str z) j p5, .Attribute (.Name n p6) fld p7] k p8) (.Constant (.str y) j2 p9) p10)) p11] (tSV Z.K m (some i) (tupF fld z) a cls d) := by
  refine ⟨fun pins s σ H Dn I h => ?_⟩
  obtain ⟨F, as, c, v, hc, hmc, sm, hx, hvv, ⟨σ0, hσ⟩, q⟩ := h
  obtain ⟨hXf, hno⟩ := hX c hmc
  have hV := hC c hmc
  subst hc
  have hil : i < σ0.length := by
    have := I.len
    rw [hσ] at this
    unfold named at this
    rw [List.length_set] at this
    rw [this]
    exact (List.getElem?_eq_some_iff.mp hN).1
  have hi : σ[i]? = some (some (.ref a)) := by
    rw [hσ]
    exact List.getElem?_set_self hil
  have he : ∀ p, PE (Z.suite a ((a, oe) :: pn)) (.Name n p) (tVar i) := fun p => pe_var hN hv hd hcd
  have hfl := pe_xf (d := d) (cls := .ref c) (pos := p7) hXf hno hz hf (he p6) hb
  have hty : PE (Z.suite a ((a, oe) :: pn)) (.Name "ValueError" p3) (tC (.ty "ValueError")) := pe_bltn hge hme (show bootBuiltins "ValueError" = some (.type "ValueError") by decide +kernel) rfl
  have hsi := pe_callB (X := Z.suite a ((a, oe) :: pn)) (p := p1) (pos := p4) (x := "isinstance") (call_isED hz hf) hgi hmi (show bootBuiltins "isinstance" = some (.builtin "isinstance") from bt_isinstance) (pa_cons (he p2) (pa_cons hty pa_nil))
  have htup := pe_tup (x1 := k) (pos := p8) (pa_cons (pe_str (X := Z.suite a ((a, oe) :: pn)) (x := z) (j := j) (pos := p5)) (pa_cons hfl pa_nil))
  refine (pss_one (ps_ret (pos := p11) (pe_ifExp (pos := p10) (pt_val hsi) htup (pe_str (x := y) (j := j2) (pos := p9))))).run pins s σ H Dn I ?_
  unfold tupF at hvv
  split at hvv
  · rename_i i0 hfo
    cases hvv
    obtain ⟨dd, fs, w, e1, e2, e3, r⟩ := fldOf_ok hx hfo
    cases r
    refine ⟨.ref a, hi, c, dd, fs, rfl, rfl, hV, e1, sm _ _ e2, true, rfl, ?_⟩
    refine ⟨_, hi, rfl, rfl, dd, fs, _, e1, sm _ _ e2, e3, ?_⟩
    refine ⟨by show 2 ≤ sizeLine; decide, fun p hp => ?_⟩
    have gr : Grow F H (upd F p (.tup [.str z, .int i0])) (upd H p (.tup [.str z, .int i0])) := .inr ⟨p, _, hp, fun _ z => (by cases z), rfl, rfl⟩
    exact q _ _ _ (Grws.of gr) (.tup upd_same (.cons (.str z) (.cons (.int i0) .nil)))
  · cases hvv
end
section
open PySem.SeqAt
variable {prog : Program} {w : World} {A : Around} {E : Value → Shared → Prop} {s : Shared} {a b : Addr} {od : Obj} {es : Array DictEntry} {ep : Nat} {items : Array Value}
end
section
variable {X : Cx}
end

/-! ### the data functions, computed -/
section
variable {α β : Type}
@[simp] theorem rtn_ap (a : α) (e : En) : rtn a e = .ok a e := rfl
@[simp] theorem stk_ap (e : En) : (stk : Ef α) e = .stuck := rfl
@[simp] theorem bnd_ap (f : Ef α) (g : α → Ef β) (e : En) : bnd f g e = match f e with
  | .ok a e' => g a e'
  | .exc c as e' => .exc c as e'
  | .stuck => .stuck := rfl
@[simp] theorem lift_some (a : α) (e : En) : lift (some a) e = .ok a e := rfl
@[simp] theorem lift_none (e : En) : lift (none : Option α) e = .stuck := rfl
end
@[simp] theorem eVar_ap (i : Nat) (e : En) : eVar i e = match e.s[i]? with
  | some (.val d) => .ok d e
  | some (.own d) => .ok d ⟨e.s.set i (.val d), e.b⟩
  | _ => .stuck := rfl
@[simp] theorem setV_ap (i : Nat) (d : D) (e : En) : setV i d e = .ok () ⟨e.s.set i (.val d), e.b⟩ := rfl
@[simp] theorem setO_ap (i : Nat) (d : D) (e : En) : setO i d e = .ok () ⟨e.s.set i (.own d), e.b⟩ := rfl
@[simp] theorem setX_f (i : Nat) (d : D) : setX false i d = setV i d := rfl
@[simp] theorem setX_t (i : Nat) (d : D) : setX true i d = setO i d := rfl
@[simp] theorem asB_bl (b : Bool) : asB (.bl b) = rtn b := rfl
@[simp] theorem asI_int (i : Int) : asI (.int i) = rtn (some i) := rfl
@[simp] theorem gsNil_ap : gsNil [] = rtn () := rfl
@[simp] theorem gsCons_ap (g : D → Ef Unit) (gs : List D → Ef Unit) (d : D) (ds : List D) : gsCons g gs (d :: ds) = bnd (g d) fun _ => gs ds := rfl
@[simp] theorem gTupD_tup (n : Nat) (gs : List D → Ef Unit) (ds : List D) : gTupD n gs (.tup ds) = if ds.length = n then gs ds else stk := rfl
@[simp] theorem rdV_ap (i : Nat) (e : En) : rdV i e = match seeS i e with
  | some d => .ok d e
  | none => .stuck := rfl
@[simp] theorem chkV_ap (i : Nat) (e : En) : chkV i e = match seeS i e with
  | some _ => .ok () e
  | none => .stuck := rfl
@[simp] theorem seeS_ap (i : Nat) (e : En) : seeS i e = match e.s[i]? with
  | some (.val d) => some d
  | some (.own d) => some d
  | some (.bor j) => e.b[j]?
  | _ => none := rfl
@[simp] theorem objS_ap (i : Nat) (e : En) : objS i e = match e.s[i]? with
  | some (.own d) => some d
  | some (.bor j) => e.b[j]?
  | _ => none := rfl
@[simp] theorem putS_ap (i : Nat) (d : D) (e : En) : putS i d e = match e.s[i]? with
  | some (.own _) => ⟨e.s.set i (.own d), e.b⟩
  | some (.bor j) => ⟨e.s, e.b.set j d⟩
  | _ => e := rfl
@[simp] theorem chkK_ap (i k : Nat) (e : En) : chkK i k e = match objS i e with
  | some d => if kindD d = k then .ok () e else .stuck
  | none => .stuck := rfl
@[simp] theorem chk_ap (i : Nat) (e : En) : chk i e = match objS i e with
  | some _ => .ok () e
  | none => .stuck := rfl
@[simp] theorem mutF_ap (i : Nat) (fn : D → List D → Option (D × D)) (ds : List D) (e : En) : mutF i fn ds e = match objS i e with
  | some d => (match fn d ds with
    | some (d', z) => .ok z (putS i d' e)
    | none => .stuck)
  | none => .stuck := rfl
@[simp] theorem gPut_ap (i : Nat) (fn : D → D → D → Option D) (g : Ef D) (v : D) : gPut i fn g v = bnd (chkV i) fun _ => bnd g fun k => fun e => match objS i e with
  | some d => (match fn d k v with
    | some d' => .ok () (putS i d' e)
    | none => .stuck)
  | none => .stuck := rfl
@[simp] theorem only_ap (z : D) : only z = if scal z = true then rtn z else stk := rfl
@[simp] theorem loopF_nil (g : D → Ef Unit) (body : Ef Fl) : loopF g body [] = rtn .nx := rfl
@[simp] theorem aCons_eq (f : Ef D) (g : Ef (List D)) : aCons f g = (bnd f fun d => bnd g fun ds => rtn (d :: ds)) := rfl
@[simp] theorem aStar_eq (f : Ef D) (g : Ef (List D)) : aStar f g = (bnd f fun d => bnd (lift (items d)) fun xs => bnd g fun ds => rtn (xs ++ ds)) := rfl
@[simp] theorem eTup_eq (f : Ef (List D)) : eTup f = (bnd f fun ds => lift (if ds.length ≤ big then some (.tup ds) else none)) := rfl
@[simp] theorem eLst_eq (f : Ef (List D)) : eLst f = (bnd f fun ds => lift (if ds.length ≤ big then some (.lst ds) else none)) := rfl
@[simp] theorem eFn_eq (fn : List D → Option D) (f : Ef (List D)) : eFn fn f = (bnd f fun ds => lift (fn ds)) := rfl
@[simp] theorem eOp1_eq (fn : D → Option D) (f : Ef D) : eOp1 fn f = (bnd f fun a => lift (fn a)) := rfl
@[simp] theorem eOp2_eq (fn : D → D → Option D) (f g : Ef D) : eOp2 fn f g = (bnd f fun a => bnd g fun b => lift (fn a b)) := rfl
@[simp] theorem eB_eq (f : Ef D) : eB f = (bnd f asB) := rfl
@[simp] theorem tAndF_eq (f g : Ef Bool) : tAndF f g = (bnd f fun b => if b = true then g else rtn false) := rfl
@[simp] theorem tOrF_eq (f g : Ef Bool) : tOrF f g = (bnd f fun b => if b = true then rtn true else g) := rfl
@[simp] theorem tNotF_eq (f : Ef Bool) : tNotF f = (bnd f fun b => rtn (!b)) := rfl
@[simp] theorem eTru_eq (f : Ef D) : eTru f = (bnd f fun d => lift (truth d)) := rfl
@[simp] theorem eAnd_eq (f g : Ef D) : eAnd f g = (bnd f fun d => match d with
  | .bl true => g
  | .bl false => rtn (.bl false)
  | _ => stk) := rfl
@[simp] theorem eOr_eq (f g : Ef D) : eOr f g = (bnd f fun d => match d with
  | .bl true => rtn (.bl true)
  | .bl false => g
  | _ => stk) := rfl
@[simp] theorem eNot_eq (f : Ef D) : eNot f = (bnd f fun d => match d with
  | .bl b => rtn (.bl (!b))
  | _ => stk) := rfl
@[simp] theorem eIf_eq (t : Ef Bool) (f g : Ef D) : eIf t f g = (bnd t fun b => if b = true then f else g) := rfl
@[simp] theorem eChain_eq (fn fm : D → D → Option D) (f g h : Ef D) : eChain fn fm f g h = (bnd f fun x => bnd g fun y => bnd (lift (fn x y)) fun z => match z with
  | .bl true => bnd h fun w => lift (fm y w)
  | .bl false => rtn (.bl false)
  | _ => stk) := rfl
@[simp] theorem sSeq_eq (f g : Ef Fl) : sSeq f g = (bnd f fun fl => match fl with
  | .nx => g
  | x => rtn x) := rfl
@[simp] theorem sSet_eq (i : Nat) (f : Ef D) : sSet i f = (bnd f fun d => bnd (setV i d) fun _ => rtn .nx) := rfl
@[simp] theorem sSetN_eq (i : Nat) (f : Ef D) : sSetN i f = (bnd f fun d => bnd (setO i d) fun _ => rtn .nx) := rfl
@[simp] theorem sExpr_eq (f : Ef D) : sExpr f = (bnd f fun _ => rtn .nx) := rfl
@[simp] theorem sRet_eq (f : Ef D) : sRet f = (bnd f fun d => rtn (.rt d)) := rfl
@[simp] theorem sIf_eq (t : Ef Bool) (f g : Ef Fl) : sIf t f g = (bnd t fun b => if b = true then f else g) := rfl
@[simp] theorem sFor_eq (fi : Ef (List D)) (g : D → Ef Unit) (body : Ef Fl) : sFor fi g body = (bnd fi fun ds => loopF g body ds) := rfl
@[simp] theorem sAsg_eq (f : Ef D) (g : D → Ef Unit) : sAsg f g = (bnd f fun d => bnd (g d) fun _ => rtn .nx) := rfl
@[simp] theorem sPar_eq (i j : Nat) (o1 o2 : Bool) (f g : Ef D) : sPar i j o1 o2 f g = (bnd f fun d => bnd g fun d' => bnd (setX o1 i d) fun _ => bnd (setX o2 j d') fun _ => rtn .nx) := rfl
@[simp] theorem eIter_eq (f : Ef D) : eIter f = (bnd f fun d => lift (ditems d)) := rfl
@[simp] theorem eRange1_eq (f : Ef D) : eRange1 f = (bnd f fun d => lift (match d with
  | .int n => if smallI n = true then some (rng 0 n.toNat) else none
  | _ => none)) := rfl
@[simp] theorem eRange2_eq (f g : Ef D) : eRange2 f g = (bnd f fun d => bnd g fun e => lift (match d, e with
  | .int a, .int b => if smallI a = true ∧ smallI b = true then some (rng a (b - a).toNat) else none
  | _, _ => none)) := rfl
@[simp] theorem eRangeD_eq (f g : Ef D) : eRangeD f g = (bnd f fun d => bnd g fun e => lift (match d, e with
  | .int a, .int b => if smallI a = true ∧ smallI b = true then some (rngD a (a - b).toNat) else none
  | _, _ => none)) := rfl
@[simp] theorem eEnum_eq (f : Ef D) : eEnum f = (bnd f fun d => lift ((items d).map enumL)) := rfl
@[simp] theorem eZip_eq (f g : Ef D) : eZip f g = (bnd f fun d => bnd g fun e => lift (match items d, items e with
  | some xs, some ys => some (zipL xs ys)
  | _, _ => none)) := rfl
@[simp] theorem eRev_eq (f : Ef D) : eRev f = (bnd f fun d => lift ((items d).map List.reverse)) := rfl
@[simp] theorem eCall_eq (n : Nat) (g : Ef D) (h : Ef (List D)) : eCall n g h = (bnd h (callG n g)) := rfl
@[simp] theorem eCallR_eq (n : Nat) (g : Ef D) (i : Nat) (h : Ef (List D)) : eCallR n g i h = (bnd (chk i) fun _ => bnd h (callR n g i)) := rfl
@[simp] theorem eLc_eq (fi : Ef (List D)) (g : D → Ef Unit) (ft : Ef Bool) (fe : Ef D) (vs : List Nat) : eLc fi g ft fe vs = (bnd fi (lcRun g ft fe vs)) := rfl
@[simp] theorem eP_eq (f : Ef D) : eP f = (bnd f asI) := rfl
@[simp] theorem eSl_eq (f : Ef D) (l h : Ef (Option Int)) : eSl f l h = (bnd f fun d => bnd l fun lo => bnd h fun hi => lift (fSl d lo hi)) := rfl
@[simp] theorem eLstR_eq (h : Ef (List Int)) : eLstR h = (bnd h fun ns => rtn (.lst (ns.map .int))) := rfl
@[simp] theorem eTupR_eq (h : Ef (List Int)) : eTupR h = (bnd h fun ns => rtn (.tup (ns.map .int))) := rfl
@[simp] theorem eListN_eq (f : Ef D) : eListN f = (bnd f fun d => lift (fList d)) := rfl
@[simp] theorem eRg1_eq (f : Ef D) : eRg1 f = (bnd f fun d => lift (match d with
  | .int n => if smallI n = true ∧ n.toNat ≤ big then some (rgI 0 n.toNat 1) else none
  | _ => none)) := rfl
@[simp] theorem eRg2_eq (f g : Ef D) : eRg2 f g = (bnd f fun d => bnd g fun e => lift (match d, e with
  | .int a, .int b => if smallI a = true ∧ smallI b = true ∧ (b - a).toNat ≤ big then some (rgI a (b - a).toNat 1) else none
  | _, _ => none)) := rfl
@[simp] theorem eRgD_eq (f g : Ef D) : eRgD f g = (bnd f fun d => bnd g fun e => lift (match d, e with
  | .int a, .int b => if smallI a = true ∧ smallI b = true ∧ (a - b).toNat ≤ big then some (rgI a (a - b).toNat (-1)) else none
  | _, _ => none)) := rfl
@[simp] theorem eMut_eq (i k : Nat) (fn : D → List D → Option (D × D)) (h : Ef (List D)) : eMut i k fn h = (bnd (chkK i k) fun _ => bnd h (mutF i fn)) := rfl
@[simp] theorem eMut0_eq (i k : Nat) (fn : D → List D → Option (D × D)) : eMut0 i k fn = (bnd (chkK i k) fun _ => mutF i fn []) := rfl
@[simp] theorem eFnS_eq (fn : List D → Option D) (i : Nat) : eFnS fn i = (bnd (rdV i) fun d => bnd (lift (fn [d])) only) := rfl
@[simp] theorem eOpL_eq (fn : D → D → Option D) (i : Nat) (g : Ef D) : eOpL fn i g = (bnd (chkV i) fun _ => bnd g fun k => bnd (rdV i) fun d => bnd (lift (fn d k)) only) := rfl
@[simp] theorem eOpR_eq (fn : D → D → Option D) (f : Ef D) (i : Nat) : eOpR fn f i = (bnd f fun k => bnd (rdV i) fun d => bnd (lift (fn k d)) only) := rfl
@[simp] theorem eIxS_eq (i : Nat) (g : Ef D) : eIxS i g = (bnd (chkV i) fun _ => bnd g fun k => bnd (rdV i) fun d => lift (fIx d k)) := rfl
@[simp] theorem eTruS_eq (i : Nat) : eTruS i = (bnd (rdV i) fun d => lift (truth d)) := rfl
@[simp] theorem eNoP_eq : eNoP = (rtn none) := rfl
@[simp] theorem sAugI_eq (i : Nat) (op : Int → Int → Int) (f : Ef D) : sAugI i op f = (bnd (eVar i) fun d => match d with
  | .int a => bnd f fun e => (match e with
    | .int b => bnd (setV i (.int (op a b))) fun _ => rtn .nx
    | _ => stk)
  | _ => stk) := rfl

/-! ### calls -/
/-- a def's answer to values -/
def Val (g : Ef D) (ds : List D) (z : D) : Prop := ∃ e, g ⟨ds.map .val, []⟩ = .ok z e
theorem Val.call {g : Ef D} {ds : List D} {z : D} (h : Val g ds z) {n : Nat} (hn : ds.length = n) : callG n g ds = rtn z := by
  obtain ⟨e', h⟩ := h
  funext e
  unfold callG
  rw [if_pos hn, h]
  rfl
/-- .. to values and a lent object -/
def ValR (g : Ef D) (d : D) (ds : List D) (z d' : D) : Prop := ∃ ss, g ⟨.bor 0 :: ds.map .val, [d]⟩ = .ok z ⟨ss, [d']⟩
theorem ValR.call {g : Ef D} {d d' : D} {ds : List D} {z : D} (h : ValR g d ds z d') {n i : Nat} (hn : ds.length + 1 = n) {e : En} (ho : objS i e = some d) : callR n g i ds e = .ok z (putS i d' e) := by
  obtain ⟨ss, h⟩ := h
  unfold callR
  rw [ho]
  dsimp only
  rw [if_pos hn, h]
  rfl
theorem Val.run {n : Nat} {body : Ef Fl} {ds : List D} {z : D} (h : ∃ e, (body ⟨ds.map .val ++ List.replicate (n - ds.length) .und, []⟩ = .ok (.rt z) e) ∨ (z = .non ∧ body ⟨ds.map .val ++ List.replicate (n - ds.length) .und, []⟩ = .ok .nx e)) : Val (runB n body) ds z := by
  obtain ⟨e, h | ⟨rfl, h⟩⟩ := h
  · refine ⟨e, ?_⟩
    unfold runB
    simp only [List.length_map]
    rw [h]
  · refine ⟨e, ?_⟩
    unfold runB
    simp only [List.length_map]
    rw [h]
theorem ValR.run {n : Nat} {body : Ef Fl} {d d' : D} {ds : List D} {z : D} (h : ∃ ss, (body ⟨.bor 0 :: ds.map .val ++ List.replicate (n - (ds.length + 1)) .und, [d]⟩ = .ok (.rt z) ⟨ss, [d']⟩) ∨ (z = .non ∧ body ⟨.bor 0 :: ds.map .val ++ List.replicate (n - (ds.length + 1)) .und, [d]⟩ = .ok .nx ⟨ss, [d']⟩)) : ValR (runB n body) d ds z d' := by
  obtain ⟨ss, h | ⟨rfl, h⟩⟩ := h
  · refine ⟨ss, ?_⟩
    unfold runB
    simp only [List.length_map, List.length_cons]
    rw [h]
  · refine ⟨ss, ?_⟩
    unfold runB
    simp only [List.length_map, List.length_cons]
    rw [h]

/-! ### operations on known data -/
@[simp] theorem fn1_ap (f : D → Option D) (d : D) : fn1 f [d] = f d := rfl
@[simp] theorem fn2_ap (f : D → D → Option D) (d e : D) : fn2 f [d, e] = f d e := rfl
@[simp] theorem fAdd_int (i j : Int) : fAdd (.int i) (.int j) = some (.int (i + j)) := rfl
@[simp] theorem fSub_int (i j : Int) : fSub (.int i) (.int j) = some (.int (i - j)) := rfl
@[simp] theorem fNeg_int (i : Int) : fNeg (.int i) = some (.int (-i)) := rfl
@[simp] theorem fMul_int (i j : Int) : fMul (.int i) (.int j) = if i.natAbs < 2 ^ 64 ∨ j.natAbs < 2 ^ 64 then some (.int (i * j)) else none := rfl
@[simp] theorem fDiv_int (i j : Int) : fDiv (.int i) (.int j) = if 0 < j ∧ j < 1073741824 then some (.int (i / j)) else none := rfl
@[simp] theorem fMod_int (i j : Int) : fMod (.int i) (.int j) = if 0 < j then some (.int (i % j)) else none := rfl
@[simp] theorem fAdd_tup (xs ys : List D) : fAdd (.tup xs) (.tup ys) = if xs.length + ys.length ≤ big then some (.tup (xs ++ ys)) else none := rfl
@[simp] theorem fAdd_lst (xs ys : List D) : fAdd (.lst xs) (.lst ys) = if xs.length + ys.length ≤ big then some (.lst (xs ++ ys)) else none := rfl
@[simp] theorem fLen_tup (xs : List D) : fLen (.tup xs) = some (.int xs.length) := rfl
@[simp] theorem fLen_lst (xs : List D) : fLen (.lst xs) = some (.int xs.length) := rfl
@[simp] theorem fLen_scr (ns : List Int) : fLen (.scr ns) = some (.int ns.length) := by
  show some (D.int (ns.map D.int).length) = _
  rw [List.length_map]
@[simp] theorem fLen_set (xs : List D) : fLen (.set xs) = if xs.length ≤ big then some (.int xs.length) else none := rfl
@[simp] theorem fIx_tup (xs : List D) (i : Int) : fIx (.tup xs) (.int i) = atI xs i := rfl
@[simp] theorem fIx_lst (xs : List D) (i : Int) : fIx (.lst xs) (.int i) = atI xs i := rfl
@[simp] theorem fIx_scr (ns : List Int) (i : Int) : fIx (.scr ns) (.int i) = (atI ns i).map D.int := rfl
@[simp] theorem fInt_int (i : Int) : fInt (.int i) = some (.int i) := rfl
@[simp] theorem fTuple_lst (xs : List D) : fTuple (.lst xs) = some (.tup xs) := rfl
@[simp] theorem fTuple_tup (xs : List D) : fTuple (.tup xs) = some (.tup xs) := rfl
@[simp] theorem fList_tup (xs : List D) : fList (.tup xs) = some (.lst xs) := rfl
@[simp] theorem fList_lst (xs : List D) : fList (.lst xs) = some (.lst xs) := rfl
@[simp] theorem fSl_tup (xs : List D) (lo hi : Option Int) : fSl (.tup xs) lo hi = some (.tup (cutD xs lo hi)) := rfl
@[simp] theorem fSl_lst (xs : List D) (lo hi : Option Int) : fSl (.lst xs) lo hi = some (.lst (cutD xs lo hi)) := rfl
@[simp] theorem ditems_tup (xs : List D) : ditems (.tup xs) = some xs := rfl
@[simp] theorem ditems_lst (xs : List D) : ditems (.lst xs) = some xs := rfl
@[simp] theorem items_tup (xs : List D) : items (.tup xs) = some xs := rfl
@[simp] theorem items_lst (xs : List D) : items (.lst xs) = some xs := rfl
@[simp] theorem fLt_int (i j : Int) : fLt (.int i) (.int j) = some (.bl (decide (i < j))) := rfl
@[simp] theorem fLe_int (i j : Int) : fLe (.int i) (.int j) = some (.bl (decide (i ≤ j))) := rfl
@[simp] theorem fGt_int (i j : Int) : fGt (.int i) (.int j) = some (.bl (decide (j < i))) := rfl
@[simp] theorem fGe_int (i j : Int) : fGe (.int i) (.int j) = some (.bl (decide (j ≤ i))) := rfl
@[simp] theorem fEq_int (i j : Int) : fEq (.int i) (.int j) = some (.bl (decide (i = j))) := by simp [fEq, okd, dmax, py, PyData.eqv]; rfl
@[simp] theorem fNe_int (i j : Int) : fNe (.int i) (.int j) = some (.bl (!decide (i = j))) := by simp [fNe, okd, dmax, py, PyData.eqv]; rfl
/-! ### isinstance -/
theorem kit_NoneType_int : kitB "NoneType" "int" = some false := by decide +kernel
theorem kit_NoneType_bool : kitB "NoneType" "bool" = some false := by decide +kernel
theorem kit_NoneType_str : kitB "NoneType" "str" = some false := by decide +kernel
theorem kit_NoneType_tuple : kitB "NoneType" "tuple" = some false := by decide +kernel
theorem kit_NoneType_list : kitB "NoneType" "list" = some false := by decide +kernel
theorem kit_NoneType_dict : kitB "NoneType" "dict" = some false := by decide +kernel
theorem kit_bool_int : kitB "bool" "int" = some true := by decide +kernel
theorem kit_bool_bool : kitB "bool" "bool" = some true := by decide +kernel
theorem kit_bool_str : kitB "bool" "str" = some false := by decide +kernel
theorem kit_bool_tuple : kitB "bool" "tuple" = some false := by decide +kernel
theorem kit_bool_list : kitB "bool" "list" = some false := by decide +kernel
theorem kit_bool_dict : kitB "bool" "dict" = some false := by decide +kernel
theorem kit_dict_int : kitB "dict" "int" = some false := by decide +kernel
theorem kit_dict_bool : kitB "dict" "bool" = some false := by decide +kernel
theorem kit_dict_str : kitB "dict" "str" = some false := by decide +kernel
theorem kit_dict_tuple : kitB "dict" "tuple" = some false := by decide +kernel
theorem kit_dict_list : kitB "dict" "list" = some false := by decide +kernel
theorem kit_dict_dict : kitB "dict" "dict" = some true := by decide +kernel
theorem kit_int_int : kitB "int" "int" = some true := by decide +kernel
theorem kit_int_bool : kitB "int" "bool" = some false := by decide +kernel
theorem kit_int_str : kitB "int" "str" = some false := by decide +kernel
theorem kit_int_tuple : kitB "int" "tuple" = some false := by decide +kernel
theorem kit_int_list : kitB "int" "list" = some false := by decide +kernel
theorem kit_int_dict : kitB "int" "dict" = some false := by decide +kernel
theorem kit_list_int : kitB "list" "int" = some false := by decide +kernel
theorem kit_list_bool : kitB "list" "bool" = some false := by decide +kernel
theorem kit_list_str : kitB "list" "str" = some false := by decide +kernel
theorem kit_list_tuple : kitB "list" "tuple" = some false := by decide +kernel
theorem kit_list_list : kitB "list" "list" = some true := by decide +kernel
theorem kit_list_dict : kitB "list" "dict" = some false := by decide +kernel
theorem kit_str_int : kitB "str" "int" = some false := by decide +kernel
theorem kit_str_bool : kitB "str" "bool" = some false := by decide +kernel
theorem kit_str_str : kitB "str" "str" = some true := by decide +kernel
theorem kit_str_tuple : kitB "str" "tuple" = some false := by decide +kernel
theorem kit_str_list : kitB "str" "list" = some false := by decide +kernel
theorem kit_str_dict : kitB "str" "dict" = some false := by decide +kernel
theorem kit_tuple_int : kitB "tuple" "int" = some false := by decide +kernel
theorem kit_tuple_bool : kitB "tuple" "bool" = some false := by decide +kernel
theorem kit_tuple_str : kitB "tuple" "str" = some false := by decide +kernel
theorem kit_tuple_tuple : kitB "tuple" "tuple" = some true := by decide +kernel
theorem kit_tuple_list : kitB "tuple" "list" = some false := by decide +kernel
theorem kit_tuple_dict : kitB "tuple" "dict" = some false := by decide +kernel
@[simp] theorem isi_non_int : fIsi .non (.ty "int") = some (.bl false) := by
  show (kitB "NoneType" "int").map D.bl = _
  rw [kit_NoneType_int]; rfl
@[simp] theorem isi_non_bool : fIsi .non (.ty "bool") = some (.bl false) := by
  show (kitB "NoneType" "bool").map D.bl = _
  rw [kit_NoneType_bool]; rfl
@[simp] theorem isi_non_str : fIsi .non (.ty "str") = some (.bl false) := by
  show (kitB "NoneType" "str").map D.bl = _
  rw [kit_NoneType_str]; rfl
@[simp] theorem isi_non_tuple : fIsi .non (.ty "tuple") = some (.bl false) := by
  show (kitB "NoneType" "tuple").map D.bl = _
  rw [kit_NoneType_tuple]; rfl
@[simp] theorem isi_non_list : fIsi .non (.ty "list") = some (.bl false) := by
  show (kitB "NoneType" "list").map D.bl = _
  rw [kit_NoneType_list]; rfl
@[simp] theorem isi_non_dict : fIsi .non (.ty "dict") = some (.bl false) := by
  show (kitB "NoneType" "dict").map D.bl = _
  rw [kit_NoneType_dict]; rfl
@[simp] theorem isiT_non : fIsiT .non (.tup [.ty "tuple", .ty "list"]) = some (.bl false) := by
  show (kitAnyB "NoneType" ["tuple", "list"]).map D.bl = _
  simp [kitAnyB, kit_NoneType_tuple, kit_NoneType_list]
@[simp] theorem isi_bl_int (b : Bool) : fIsi (.bl b) (.ty "int") = some (.bl true) := by
  show (kitB "bool" "int").map D.bl = _
  rw [kit_bool_int]; rfl
@[simp] theorem isi_bl_bool (b : Bool) : fIsi (.bl b) (.ty "bool") = some (.bl true) := by
  show (kitB "bool" "bool").map D.bl = _
  rw [kit_bool_bool]; rfl
@[simp] theorem isi_bl_str (b : Bool) : fIsi (.bl b) (.ty "str") = some (.bl false) := by
  show (kitB "bool" "str").map D.bl = _
  rw [kit_bool_str]; rfl
@[simp] theorem isi_bl_tuple (b : Bool) : fIsi (.bl b) (.ty "tuple") = some (.bl false) := by
  show (kitB "bool" "tuple").map D.bl = _
  rw [kit_bool_tuple]; rfl
@[simp] theorem isi_bl_list (b : Bool) : fIsi (.bl b) (.ty "list") = some (.bl false) := by
  show (kitB "bool" "list").map D.bl = _
  rw [kit_bool_list]; rfl
@[simp] theorem isi_bl_dict (b : Bool) : fIsi (.bl b) (.ty "dict") = some (.bl false) := by
  show (kitB "bool" "dict").map D.bl = _
  rw [kit_bool_dict]; rfl
@[simp] theorem isiT_bl (b : Bool) : fIsiT (.bl b) (.tup [.ty "tuple", .ty "list"]) = some (.bl false) := by
  show (kitAnyB "bool" ["tuple", "list"]).map D.bl = _
  simp [kitAnyB, kit_bool_tuple, kit_bool_list]
@[simp] theorem isi_int_int (v : Int) : fIsi (.int v) (.ty "int") = some (.bl true) := by
  show (kitB "int" "int").map D.bl = _
  rw [kit_int_int]; rfl
@[simp] theorem isi_int_bool (v : Int) : fIsi (.int v) (.ty "bool") = some (.bl false) := by
  show (kitB "int" "bool").map D.bl = _
  rw [kit_int_bool]; rfl
@[simp] theorem isi_int_str (v : Int) : fIsi (.int v) (.ty "str") = some (.bl false) := by
  show (kitB "int" "str").map D.bl = _
  rw [kit_int_str]; rfl
@[simp] theorem isi_int_tuple (v : Int) : fIsi (.int v) (.ty "tuple") = some (.bl false) := by
  show (kitB "int" "tuple").map D.bl = _
  rw [kit_int_tuple]; rfl
@[simp] theorem isi_int_list (v : Int) : fIsi (.int v) (.ty "list") = some (.bl false) := by
  show (kitB "int" "list").map D.bl = _
  rw [kit_int_list]; rfl
@[simp] theorem isi_int_dict (v : Int) : fIsi (.int v) (.ty "dict") = some (.bl false) := by
  show (kitB "int" "dict").map D.bl = _
  rw [kit_int_dict]; rfl
@[simp] theorem isiT_int (v : Int) : fIsiT (.int v) (.tup [.ty "tuple", .ty "list"]) = some (.bl false) := by
  show (kitAnyB "int" ["tuple", "list"]).map D.bl = _
  simp [kitAnyB, kit_int_tuple, kit_int_list]
@[simp] theorem isi_str_int (x : Str) : fIsi (.str x) (.ty "int") = some (.bl false) := by
  show (kitB "str" "int").map D.bl = _
  rw [kit_str_int]; rfl
@[simp] theorem isi_str_bool (x : Str) : fIsi (.str x) (.ty "bool") = some (.bl false) := by
  show (kitB "str" "bool").map D.bl = _
  rw [kit_str_bool]; rfl
@[simp] theorem isi_str_str (x : Str) : fIsi (.str x) (.ty "str") = some (.bl true) := by
  show (kitB "str" "str").map D.bl = _
  rw [kit_str_str]; rfl
@[simp] theorem isi_str_tuple (x : Str) : fIsi (.str x) (.ty "tuple") = some (.bl false) := by
  show (kitB "str" "tuple").map D.bl = _
  rw [kit_str_tuple]; rfl
@[simp] theorem isi_str_list (x : Str) : fIsi (.str x) (.ty "list") = some (.bl false) := by
  show (kitB "str" "list").map D.bl = _
  rw [kit_str_list]; rfl
@[simp] theorem isi_str_dict (x : Str) : fIsi (.str x) (.ty "dict") = some (.bl false) := by
  show (kitB "str" "dict").map D.bl = _
  rw [kit_str_dict]; rfl
@[simp] theorem isiT_str (x : Str) : fIsiT (.str x) (.tup [.ty "tuple", .ty "list"]) = some (.bl false) := by
  show (kitAnyB "str" ["tuple", "list"]).map D.bl = _
  simp [kitAnyB, kit_str_tuple, kit_str_list]
@[simp] theorem isi_tup_int (xs : List D) : fIsi (.tup xs) (.ty "int") = some (.bl false) := by
  show (kitB "tuple" "int").map D.bl = _
  rw [kit_tuple_int]; rfl
@[simp] theorem isi_tup_bool (xs : List D) : fIsi (.tup xs) (.ty "bool") = some (.bl false) := by
  show (kitB "tuple" "bool").map D.bl = _
  rw [kit_tuple_bool]; rfl
@[simp] theorem isi_tup_str (xs : List D) : fIsi (.tup xs) (.ty "str") = some (.bl false) := by
  show (kitB "tuple" "str").map D.bl = _
  rw [kit_tuple_str]; rfl
@[simp] theorem isi_tup_tuple (xs : List D) : fIsi (.tup xs) (.ty "tuple") = some (.bl true) := by
  show (kitB "tuple" "tuple").map D.bl = _
  rw [kit_tuple_tuple]; rfl
@[simp] theorem isi_tup_list (xs : List D) : fIsi (.tup xs) (.ty "list") = some (.bl false) := by
  show (kitB "tuple" "list").map D.bl = _
  rw [kit_tuple_list]; rfl
@[simp] theorem isi_tup_dict (xs : List D) : fIsi (.tup xs) (.ty "dict") = some (.bl false) := by
  show (kitB "tuple" "dict").map D.bl = _
  rw [kit_tuple_dict]; rfl
@[simp] theorem isiT_tup (xs : List D) : fIsiT (.tup xs) (.tup [.ty "tuple", .ty "list"]) = some (.bl true) := by
  show (kitAnyB "tuple" ["tuple", "list"]).map D.bl = _
  simp [kitAnyB, kit_tuple_tuple, kit_tuple_list]
@[simp] theorem isi_ktp_int (xs : List D) : fIsi (.ktp xs) (.ty "int") = some (.bl false) := by
  show (kitB "tuple" "int").map D.bl = _
  rw [kit_tuple_int]; rfl
@[simp] theorem isi_ktp_bool (xs : List D) : fIsi (.ktp xs) (.ty "bool") = some (.bl false) := by
  show (kitB "tuple" "bool").map D.bl = _
  rw [kit_tuple_bool]; rfl
@[simp] theorem isi_ktp_str (xs : List D) : fIsi (.ktp xs) (.ty "str") = some (.bl false) := by
  show (kitB "tuple" "str").map D.bl = _
  rw [kit_tuple_str]; rfl
@[simp] theorem isi_ktp_tuple (xs : List D) : fIsi (.ktp xs) (.ty "tuple") = some (.bl true) := by
  show (kitB "tuple" "tuple").map D.bl = _
  rw [kit_tuple_tuple]; rfl
@[simp] theorem isi_ktp_list (xs : List D) : fIsi (.ktp xs) (.ty "list") = some (.bl false) := by
  show (kitB "tuple" "list").map D.bl = _
  rw [kit_tuple_list]; rfl
@[simp] theorem isi_ktp_dict (xs : List D) : fIsi (.ktp xs) (.ty "dict") = some (.bl false) := by
  show (kitB "tuple" "dict").map D.bl = _
  rw [kit_tuple_dict]; rfl
@[simp] theorem isiT_ktp (xs : List D) : fIsiT (.ktp xs) (.tup [.ty "tuple", .ty "list"]) = some (.bl true) := by
  show (kitAnyB "tuple" ["tuple", "list"]).map D.bl = _
  simp [kitAnyB, kit_tuple_tuple, kit_tuple_list]
@[simp] theorem isi_lst_int (xs : List D) : fIsi (.lst xs) (.ty "int") = some (.bl false) := by
  show (kitB "list" "int").map D.bl = _
  rw [kit_list_int]; rfl
@[simp] theorem isi_lst_bool (xs : List D) : fIsi (.lst xs) (.ty "bool") = some (.bl false) := by
  show (kitB "list" "bool").map D.bl = _
  rw [kit_list_bool]; rfl
@[simp] theorem isi_lst_str (xs : List D) : fIsi (.lst xs) (.ty "str") = some (.bl false) := by
  show (kitB "list" "str").map D.bl = _
  rw [kit_list_str]; rfl
@[simp] theorem isi_lst_tuple (xs : List D) : fIsi (.lst xs) (.ty "tuple") = some (.bl false) := by
  show (kitB "list" "tuple").map D.bl = _
  rw [kit_list_tuple]; rfl
@[simp] theorem isi_lst_list (xs : List D) : fIsi (.lst xs) (.ty "list") = some (.bl true) := by
  show (kitB "list" "list").map D.bl = _
  rw [kit_list_list]; rfl
@[simp] theorem isi_lst_dict (xs : List D) : fIsi (.lst xs) (.ty "dict") = some (.bl false) := by
  show (kitB "list" "dict").map D.bl = _
  rw [kit_list_dict]; rfl
@[simp] theorem isiT_lst (xs : List D) : fIsiT (.lst xs) (.tup [.ty "tuple", .ty "list"]) = some (.bl true) := by
  show (kitAnyB "list" ["tuple", "list"]).map D.bl = _
  simp [kitAnyB, kit_list_tuple, kit_list_list]
@[simp] theorem isi_scr_int (ns : List Int) : fIsi (.scr ns) (.ty "int") = some (.bl false) := by
  show (kitB "list" "int").map D.bl = _
  rw [kit_list_int]; rfl
@[simp] theorem isi_scr_bool (ns : List Int) : fIsi (.scr ns) (.ty "bool") = some (.bl false) := by
  show (kitB "list" "bool").map D.bl = _
  rw [kit_list_bool]; rfl
@[simp] theorem isi_scr_str (ns : List Int) : fIsi (.scr ns) (.ty "str") = some (.bl false) := by
  show (kitB "list" "str").map D.bl = _
  rw [kit_list_str]; rfl
@[simp] theorem isi_scr_tuple (ns : List Int) : fIsi (.scr ns) (.ty "tuple") = some (.bl false) := by
  show (kitB "list" "tuple").map D.bl = _
  rw [kit_list_tuple]; rfl
@[simp] theorem isi_scr_list (ns : List Int) : fIsi (.scr ns) (.ty "list") = some (.bl true) := by
  show (kitB "list" "list").map D.bl = _
  rw [kit_list_list]; rfl
@[simp] theorem isi_scr_dict (ns : List Int) : fIsi (.scr ns) (.ty "dict") = some (.bl false) := by
  show (kitB "list" "dict").map D.bl = _
  rw [kit_list_dict]; rfl
@[simp] theorem isiT_scr (ns : List Int) : fIsiT (.scr ns) (.tup [.ty "tuple", .ty "list"]) = some (.bl true) := by
  show (kitAnyB "list" ["tuple", "list"]).map D.bl = _
  simp [kitAnyB, kit_list_tuple, kit_list_list]
@[simp] theorem isi_dct_int (kvs : List (D × D)) : fIsi (.dct kvs) (.ty "int") = some (.bl false) := by
  show (kitB "dict" "int").map D.bl = _
  rw [kit_dict_int]; rfl
@[simp] theorem isi_dct_bool (kvs : List (D × D)) : fIsi (.dct kvs) (.ty "bool") = some (.bl false) := by
  show (kitB "dict" "bool").map D.bl = _
  rw [kit_dict_bool]; rfl
@[simp] theorem isi_dct_str (kvs : List (D × D)) : fIsi (.dct kvs) (.ty "str") = some (.bl false) := by
  show (kitB "dict" "str").map D.bl = _
  rw [kit_dict_str]; rfl
@[simp] theorem isi_dct_tuple (kvs : List (D × D)) : fIsi (.dct kvs) (.ty "tuple") = some (.bl false) := by
  show (kitB "dict" "tuple").map D.bl = _
  rw [kit_dict_tuple]; rfl
@[simp] theorem isi_dct_list (kvs : List (D × D)) : fIsi (.dct kvs) (.ty "list") = some (.bl false) := by
  show (kitB "dict" "list").map D.bl = _
  rw [kit_dict_list]; rfl
@[simp] theorem isi_dct_dict (kvs : List (D × D)) : fIsi (.dct kvs) (.ty "dict") = some (.bl true) := by
  show (kitB "dict" "dict").map D.bl = _
  rw [kit_dict_dict]; rfl
@[simp] theorem isiT_dct (kvs : List (D × D)) : fIsiT (.dct kvs) (.tup [.ty "tuple", .ty "list"]) = some (.bl false) := by
  show (kitAnyB "dict" ["tuple", "list"]).map D.bl = _
  simp [kitAnyB, kit_dict_tuple, kit_dict_list]

@[simp] theorem big_val : big = 16000000 := rfl
@[simp] theorem truth_bl (b : Bool) : truth (.bl b) = some b := rfl
@[simp] theorem scal_int (i : Int) : scal (.int i) = true := rfl
@[simp] theorem scal_bl (b : Bool) : scal (.bl b) = true := rfl
@[simp] theorem scal_str (x : Str) : scal (.str x) = true := rfl
@[simp] theorem scal_non : scal .non = true := rfl
@[simp] theorem kindD_lst (xs : List D) : kindD (.lst xs) = 1 := rfl
@[simp] theorem fPutL_lst (xs : List D) (i : Int) (v : D) : fPutL (.lst xs) (.int i) v = (ixN xs.length i).map fun j => .lst (xs.set j v) := rfl
theorem ixN_nat (n j : Nat) : ixN n (j : Int) = if j < n then some j else none := by
  unfold ixN
  rw [if_pos (by omega)]
  by_cases h : j < n
  · rw [if_pos h, if_pos (by omega)]; simp
  · rw [if_neg h, if_neg (by omega)]
@[simp] theorem ixN_2 (n : Nat) : ixN n 2 = if 2 < n then some 2 else none := ixN_nat n 2
@[simp] theorem ixN_3 (n : Nat) : ixN n 3 = if 3 < n then some 3 else none := ixN_nat n 3
@[simp] theorem ixN_4 (n : Nat) : ixN n 4 = if 4 < n then some 4 else none := ixN_nat n 4
@[simp] theorem ixN_5 (n : Nat) : ixN n 5 = if 5 < n then some 5 else none := ixN_nat n 5
@[simp] theorem ixN_6 (n : Nat) : ixN n 6 = if 6 < n then some 6 else none := ixN_nat n 6
@[simp] theorem ixN_7 (n : Nat) : ixN n 7 = if 7 < n then some 7 else none := ixN_nat n 7
@[simp] theorem ixN_0 (n : Nat) : ixN n 0 = if 0 < n then some 0 else none := ixN_nat n 0
@[simp] theorem ixN_1 (n : Nat) : ixN n 1 = if 1 < n then some 1 else none := ixN_nat n 1
theorem atI_nat' {α : Type} (xs : List α) (j : Nat) : atI xs (j : Int) = xs[j]? := by
  unfold atI
  rw [ixN_nat]
  by_cases h : j < xs.length
  · rw [if_pos h]; rfl
  · rw [if_neg h, List.getElem?_eq_none (by omega)]; rfl
@[simp] theorem atI_2 {α : Type} (xs : List α) : atI xs 2 = xs[2]? := atI_nat' xs 2
@[simp] theorem atI_3 {α : Type} (xs : List α) : atI xs 3 = xs[3]? := atI_nat' xs 3
@[simp] theorem atI_4 {α : Type} (xs : List α) : atI xs 4 = xs[4]? := atI_nat' xs 4
@[simp] theorem atI_5 {α : Type} (xs : List α) : atI xs 5 = xs[5]? := atI_nat' xs 5
@[simp] theorem atI_6 {α : Type} (xs : List α) : atI xs 6 = xs[6]? := atI_nat' xs 6
@[simp] theorem atI_7 {α : Type} (xs : List α) : atI xs 7 = xs[7]? := atI_nat' xs 7
@[simp] theorem atI_0 {α : Type} (xs : List α) : atI xs 0 = xs[0]? := atI_nat' xs 0
@[simp] theorem atI_1 {α : Type} (xs : List α) : atI xs 1 = xs[1]? := atI_nat' xs 1
@[simp] theorem fPow_10_18 : fPow (.int 10) (.int 18) = some (.int 1000000000000000000) := rfl

/-! ### lists of naturals as data -/
def tn (l : List Nat) : List D := l.map fun x : Nat => D.int (x : Int)
@[simp] theorem tn_nil : tn [] = [] := rfl
@[simp] theorem tn_length (l : List Nat) : (tn l).length = l.length := by simp [tn]
theorem tn_cons (x : Nat) (l : List Nat) : tn (x :: l) = .int (x : Int) :: tn l := rfl
theorem tn_append (l m : List Nat) : tn (l ++ m) = tn l ++ tn m := by simp [tn]
theorem tn_get (l : List Nat) (i : Nat) : (tn l)[i]? = l[i]?.map fun (x : Nat) => D.int (x : Int) := by simp [tn]
theorem tn_drop (l : List Nat) (i : Nat) : (tn l).drop i = tn (l.drop i) := by simp [tn, List.map_drop]
theorem tn_take (l : List Nat) (i : Nat) : (tn l).take i = tn (l.take i) := by simp [tn, List.map_take]
theorem mem_tn {d : D} {l : List Nat} (h : d ∈ tn l) : ∃ x, x ∈ l ∧ d = .int (x : Int) := by
  unfold tn at h
  obtain ⟨x, h1, h2⟩ := List.mem_map.mp h
  exact ⟨x, h1, h2.symm⟩
theorem tn_ints (l : List Nat) : tn l = (l.map fun x : Nat => (x : Int)).map D.int := by simp [tn]
theorem toInts_tn (l : List Nat) : toInts (tn l) = some (l.map fun x : Nat => (x : Int)) := by rw [tn_ints, toInts_map]
theorem cutD_to (l : List D) (k : Nat) : cutD l none (some (k : Int)) = l.take k := by
  unfold cutD
  rw [show HT.sIx l.length 0 none = 0 from rfl, HT.sIx_nat]
  simp only [List.drop_zero, Nat.sub_zero]
  rw [← List.take_take, List.take_length]
theorem cutD_from (l : List D) (k : Nat) : cutD l (some (k : Int)) none = l.drop k := by
  unfold cutD
  rw [show HT.sIx l.length l.length none = l.length from rfl, HT.sIx_nat]
  by_cases h : k ≤ l.length
  · rw [Nat.min_eq_left h]
    apply List.take_of_length_le
    simp
  · rw [Nat.min_eq_right (by omega), List.drop_eq_nil_of_le (by omega : l.length ≤ k)]
    simp
theorem rng_tn (n : Nat) : rng 0 n = tn (List.range n) := by simp [rng, tn]
theorem small_nat {n : Nat} (h : n ≤ 1000000) : smallI (n : Int) = true := by unfold smallI; rw [decide_eq_true_eq]; omega
theorem all_flat (l : List Nat) : (tn l).all flatD = true := by simp [tn, flatD]
@[simp] theorem fIn_tn (x : Nat) (l : List Nat) : fIn (.int (x : Int)) (.tup (tn l)) = some (.bl (decide (x ∈ l))) := by
  unfold fIn fInB fInS kidsD
  simp only [all_flat, flatD, and_self, if_true, Option.map_some]
  congr 2
  unfold tn
  rw [List.any_map]
  rw [Bool.eq_iff_iff, List.any_eq_true, decide_eq_true_eq]
  constructor
  · rintro ⟨y, h1, h2⟩
    have : (y : Int) = x := by simpa [eqD] using h2
    have : y = x := by omega
    exact this ▸ h1
  · intro h
    exact ⟨x, h, by simp [eqD]⟩
@[simp] theorem fNotIn_tn (x : Nat) (l : List Nat) : fNotIn (.int (x : Int)) (.tup (tn l)) = some (.bl (!decide (x ∈ l))) := by
  have h := fIn_tn x l
  unfold fIn at h
  unfold fNotIn
  cases hb : fInB (.int (x : Int)) (.tup (tn l)) with
  | none => rw [hb] at h; cases h
  | some b =>
    rw [hb] at h
    have : D.bl b = D.bl (decide (x ∈ l)) := Option.some.inj h
    cases this
    rfl
@[simp] theorem fIn_tnl (x : Nat) (l : List Nat) : fIn (.int (x : Int)) (.lst (tn l)) = some (.bl (decide (x ∈ l))) := by
  unfold fIn fInB fInS kidsD
  simp only [all_flat, flatD, and_self, if_true, Option.map_some]
  congr 2
  unfold tn
  rw [List.any_map]
  rw [Bool.eq_iff_iff, List.any_eq_true, decide_eq_true_eq]
  constructor
  · rintro ⟨y, h1, h2⟩
    have : (y : Int) = x := by simpa [eqD] using h2
    have : y = x := by omega
    exact this ▸ h1
  · intro h
    exact ⟨x, h, by simp [eqD]⟩
@[simp] theorem fNotIn_tnl (x : Nat) (l : List Nat) : fNotIn (.int (x : Int)) (.lst (tn l)) = some (.bl (!decide (x ∈ l))) := by
  have h := fIn_tnl x l
  unfold fIn at h
  unfold fNotIn
  cases hb : fInB (.int (x : Int)) (.lst (tn l)) with
  | none => rw [hb] at h; cases h
  | some b =>
    rw [hb] at h
    have : D.bl b = D.bl (decide (x ∈ l)) := Option.some.inj h
    cases this
    rfl
/-- the set of a tuple's members -/
def setN (l : List Nat) : D := .set ((ded (l.map fun x : Nat => (x : Int))).map .int)
theorem fSetOf_tn (l : List Nat) (h : l.length ≤ 1000) : fSetOf (.tup (tn l)) = some (setN l) := by
  unfold fSetOf
  dsimp only
  rw [toInts_tn]
  simp [h, setN]
@[simp] theorem fNotIn_set (x : Nat) (l : List Nat) : fNotIn (.int (x : Int)) (setN l) = some (.bl (!decide (x ∈ l))) := by
  unfold fNotIn fInB setN fInZ
  dsimp only
  rw [toInts_map]
  simp [mem_ded]
  constructor
  · rintro ⟨y, h1, h2⟩
    have : y = x := by omega
    exact this ▸ h1
  · intro h
    exact ⟨x, h, rfl⟩
theorem ded_length {l : List Nat} (h : l.Nodup) : (ded (l.map fun x : Nat => (x : Int))).length = l.length := by
  have nd : (l.map fun x : Nat => (x : Int)).Nodup := by
    rw [List.nodup_iff_pairwise_ne] at h ⊢
    rw [List.pairwise_map]
    exact h.imp fun a b => by omega
  rw [← List.length_map (as := l) (f := fun x : Nat => (x : Int))]
  exact nodup_len (ded_nodup _) nd fun k => mem_ded

/-! ### equality of such data -/
theorem py_tn (l : List Nat) : pyAll (tn l) = l.map fun x : Nat => PyData.int (x : Int) := by rw [pyAll_eq]; simp [tn, py]
theorem okd_tn (l : List Nat) : okd dmax (.tup (tn l)) = true := by simp [okd, dmax, tn]
theorem okd_tnl (l : List Nat) : okd dmax (.lst (tn l)) = true := by simp [okd, dmax, tn]
theorem eqvAll_tn : ∀ l m : List Nat, PyData.eqvAll (l.map fun x : Nat => PyData.int (x : Int)) (m.map fun x : Nat => PyData.int (x : Int)) = decide (l = m)
  | [], [] => by simp [PyData.eqvAll]
  | [], _ :: _ => by simp [PyData.eqvAll]
  | _ :: _, [] => by simp [PyData.eqvAll]
  | x :: l, y :: m => by
    rw [List.map_cons, List.map_cons, PyData.eqvAll, eqvAll_tn l m]
    by_cases h : x = y
    · subst h
      simp [PyData.eqv]
    · have h' : ¬ ((x : Int) = y) := by omega
      simp only [PyData.eqv, List.cons.injEq, h, false_and, decide_false, Bool.and_eq_false_imp]
      intro z
      exact absurd (by simpa using z) h'
@[simp] theorem fEq_tn (l m : List Nat) : fEq (.tup (tn l)) (.tup (tn m)) = some (.bl (decide (l = m))) := by
  unfold fEq
  rw [if_pos ⟨okd_tn l, okd_tn m⟩]
  simp only [py, py_tn, PyData.eqv, eqvAll_tn]
@[simp] theorem fNe_tn (l m : List Nat) : fNe (.tup (tn l)) (.tup (tn m)) = some (.bl (!decide (l = m))) := by
  unfold fNe
  rw [if_pos ⟨okd_tn l, okd_tn m⟩]
  simp only [py, py_tn, PyData.eqv, eqvAll_tn]

@[simp] theorem fEq_bl (a b : Bool) : fEq (.bl a) (.bl b) = some (.bl (decide (a = b))) := by cases a <;> cases b <;> rfl
@[simp] theorem fNe_bl (a b : Bool) : fNe (.bl a) (.bl b) = some (.bl (!decide (a = b))) := by cases a <;> cases b <;> rfl
@[simp] theorem fEq_str (x y : Str) : fEq (.str x) (.str y) = some (.bl (decide (x = y))) := by
  simp [fEq, okd, dmax, py, PyData.eqv]
  by_cases h : x = y <;> simp [h]
@[simp] theorem fEq_non : fEq .non .non = some (.bl true) := rfl
@[simp] theorem fEq_nil : fEq (.lst []) (.lst []) = some (.bl true) := rfl
@[simp] theorem fIs_non' (d : D) : fIs d .non = some (.bl (isNon d)) := fIs_non d
@[simp] theorem fIsNot_non' (d : D) : fIsNot d .non = some (.bl (!isNon d)) := fIsNot_non d
@[simp] theorem isNon_int (v : Int) : isNon (.int v) = false := rfl
@[simp] theorem isNon_bl (v : Bool) : isNon (.bl v) = false := rfl
@[simp] theorem isNon_str (v : Str) : isNon (.str v) = false := rfl
@[simp] theorem isNon_tup (v : List D) : isNon (.tup v) = false := rfl
@[simp] theorem isNon_lst (v : List D) : isNon (.lst v) = false := rfl
@[simp] theorem isNon_non : isNon .non = true := rfl

/-! ### loops -/
theorem loopF_inv {g : D → Ef Unit} {body : Ef Fl} (P : Nat → En → Prop) : ∀ (ds : List D) (i0 : Nat) (e : En), P i0 e → (∀ (i : Nat) (d : D) (e : En), ds[i]? = some d → P (i0 + i) e → ∃ e1 e2, g d e = .ok () e1 ∧ (body e1 = .ok .nx e2 ∨ body e1 = .ok .ct e2) ∧ P (i0 + i + 1) e2) →
    ∃ e', loopF g body ds e = .ok .nx e' ∧ P (i0 + ds.length) e'
  | [], i0, e, h0, _ => ⟨e, rfl, h0⟩
  | d :: ds, i0, e, h0, h => by
    obtain ⟨e1, e2, h1, h2, h3⟩ := h 0 d e rfl h0
    obtain ⟨e', h4, h5⟩ := loopF_inv P ds (i0 + 1) e2 h3 fun i d' e'' hd hp => by
      have := h (i + 1) d' e'' (by simpa using hd) (by rw [show i0 + (i + 1) = i0 + 1 + i by omega]; exact hp)
      rw [show i0 + (i + 1) + 1 = i0 + 1 + i + 1 by omega] at this
      exact this
    refine ⟨e', ?_, by rw [List.length_cons, show i0 + (ds.length + 1) = i0 + 1 + ds.length by omega]; exact h5⟩
    unfold loopF bnd
    rw [h1]
    dsimp only
    rcases h2 with h2 | h2
    · rw [h2]; exact h4
    · rw [h2]; exact h4
theorem lcLoop_inv {g : D → Ef Unit} {ft : Ef Bool} {fe : Ef D} {vs : List Nat} (P : Nat → List D → En → Prop) : ∀ (ds : List D) (i0 : Nat) (acc : List D) (e : En), P i0 acc e →
    (∀ (i : Nat) (d : D) (acc : List D) (e : En), ds[i]? = some d → P (i0 + i) acc e → ∃ e1 e2 t, g d e = .ok () e1 ∧ ft e1 = .ok t e2 ∧ (t = true → ∃ y e3, fe e2 = .ok y e3 ∧ acc.length < big ∧ P (i0 + i + 1) (acc ++ [y]) ⟨wipeS e3.s vs, e3.b⟩) ∧ (t = false → P (i0 + i + 1) acc ⟨wipeS e2.s vs, e2.b⟩)) →
    ∃ acc' e', lcLoop g ft fe vs ds acc e = .ok acc' e' ∧ P (i0 + ds.length) acc' e'
  | [], i0, acc, e, h0, _ => ⟨acc, e, rfl, h0⟩
  | d :: ds, i0, acc, e, h0, h => by
    obtain ⟨e1, e2, t, h1, h2, h3, h4⟩ := h 0 d acc e rfl h0
    have next : ∀ acc1 e1', P (i0 + 1) acc1 e1' → ∃ acc' e', lcLoop g ft fe vs ds acc1 e1' = .ok acc' e' ∧ P (i0 + (ds.length + 1)) acc' e' := fun acc1 e1' hp => by
      obtain ⟨acc', e', h5, h6⟩ := lcLoop_inv P ds (i0 + 1) acc1 e1' hp fun i d' acc2 e'' hd hp => by
        have := h (i + 1) d' acc2 e'' (by simpa using hd) (by rw [show i0 + (i + 1) = i0 + 1 + i by omega]; exact hp)
        rw [show i0 + (i + 1) + 1 = i0 + 1 + i + 1 by omega] at this
        exact this
      exact ⟨acc', e', h5, by rw [show i0 + (ds.length + 1) = i0 + 1 + ds.length by omega]; exact h6⟩
    cases t with
    | true =>
      obtain ⟨y, e3, h5, h6, h7⟩ := h3 rfl
      obtain ⟨acc', e', h8, h9⟩ := next _ _ h7
      refine ⟨acc', e', ?_, h9⟩
      unfold lcLoop bnd
      rw [h1]; dsimp only
      rw [h2]; dsimp only
      rw [if_pos rfl, h5]; dsimp only
      unfold wipeD
      dsimp only
      rw [if_pos h6]
      exact h8
    | false =>
      obtain ⟨acc', e', h8, h9⟩ := next _ _ (h4 rfl)
      refine ⟨acc', e', ?_, h9⟩
      unfold lcLoop bnd
      rw [h1]; dsimp only
      rw [h2]; dsimp only
      rw [if_neg Bool.false_ne_true]
      unfold wipeD
      exact h8
theorem back_wipe (ss : List DL.Slot) (vs : List Nat) : backS ss (wipeS ss vs) vs = ss := by
  apply List.ext_getElem?
  intro j
  rw [backS_get, wipeS_length, wipeS_get]
  by_cases h : j ∈ vs
  · rw [if_pos h]
    by_cases hl : j < ss.length
    · rw [if_pos hl, List.getD_eq_getElem?_getD, List.getElem?_eq_getElem hl]; rfl
    · rw [if_neg hl, List.getElem?_eq_none (by omega)]
  · rw [if_neg h, if_neg h]
/-- a comprehension that only reads -/
theorem lc_map {g : D → Ef Unit} {ft : Ef Bool} {fe : Ef D} {vs : List Nat} {ds : List D} {e : En} (p : D → Bool) (f : D → D) (hf : freeS e.s vs = true) (hl : ds.length ≤ big)
    (h : ∀ d ∈ ds, ∃ e1, g d ⟨wipeS e.s vs, e.b⟩ = .ok () e1 ∧ ft e1 = .ok (p d) e1 ∧ (p d = true → fe e1 = .ok (f d) e1) ∧ wipeS e1.s vs = wipeS e.s vs ∧ e1.b = e.b) : lcRun g ft fe vs ds e = .ok (.lst ((ds.filter p).map f)) e := by
  obtain ⟨acc, e', h1, h2, h3⟩ := lcLoop_inv (g := g) (ft := ft) (fe := fe) (vs := vs) (fun i acc e' => e' = ⟨wipeS e.s vs, e.b⟩ ∧ acc = ((ds.take i).filter p).map f) ds 0 [] ⟨wipeS e.s vs, e.b⟩ ⟨rfl, rfl⟩ fun i d acc e' hd hp => by
    obtain ⟨rfl, rfl⟩ := hp
    rw [Nat.zero_add]
    obtain ⟨e1, h1, h2, h3, h4, h5⟩ := h d (List.mem_of_getElem? hd)
    have hi : i < ds.length := (List.getElem?_eq_some_iff.mp hd).1
    refine ⟨e1, e1, p d, h1, h2, fun hp => ⟨f d, e1, h3 hp, ?_, ?_, ?_⟩, fun hp => ⟨?_, ?_⟩⟩
    · rw [List.length_map]
      have := List.length_filter_le p (ds.take i)
      rw [List.length_take] at this
      omega
    · rw [h4, h5]
    · rw [List.take_add_one, hd, Option.toList_some, List.filter_append, List.map_append]
      simp [hp]
    · rw [h4, h5]
    · rw [List.take_add_one, hd, Option.toList_some, List.filter_append, List.map_append]
      simp [hp]
  unfold lcRun
  rw [if_pos hf, h1]
  dsimp only
  rw [h2, h3, Nat.zero_add, List.take_length, back_wipe]
/-- a comprehension that changes lent objects -/
theorem lc_st {g : D → Ef Unit} {ft : Ef Bool} {fe : Ef D} {vs : List Nat} {ds : List D} {e : En} (Q : Nat → List D → List D → Prop) (hf : freeS e.s vs = true) (h0 : Q 0 [] e.b)
    (h : ∀ (i : Nat) (d : D) (acc b : List D), ds[i]? = some d → Q i acc b → ∃ e1 e2 t, g d ⟨wipeS e.s vs, b⟩ = .ok () e1 ∧ ft e1 = .ok t e2 ∧ (t = true → ∃ y e3, fe e2 = .ok y e3 ∧ acc.length < big ∧ wipeS e3.s vs = wipeS e.s vs ∧ Q (i + 1) (acc ++ [y]) e3.b) ∧ (t = false → wipeS e2.s vs = wipeS e.s vs ∧ Q (i + 1) acc e2.b)) :
    ∃ acc b, lcRun g ft fe vs ds e = .ok (.lst acc) ⟨e.s, b⟩ ∧ Q ds.length acc b := by
  obtain ⟨acc, e', h1, h2, h3⟩ := lcLoop_inv (g := g) (ft := ft) (fe := fe) (vs := vs) (fun i acc e' => e'.s = wipeS e.s vs ∧ Q i acc e'.b) ds 0 [] ⟨wipeS e.s vs, e.b⟩ ⟨rfl, h0⟩ fun i d acc e' hd hp => by
    obtain ⟨ss, b⟩ := e'
    obtain ⟨rfl, hq⟩ := hp
    rw [Nat.zero_add] at hq ⊢
    obtain ⟨e1, e2, t, h1, h2, h3, h4⟩ := h i d acc b hd hq
    refine ⟨e1, e2, t, h1, h2, fun ht => ?_, fun ht => h4 ht⟩
    obtain ⟨y, e3, a1, a2, a3, a4⟩ := h3 ht
    exact ⟨y, e3, a1, a2, a3, a4⟩
  refine ⟨acc, e'.b, ?_, by rw [Nat.zero_add] at h3; exact h3⟩
  unfold lcRun
  rw [if_pos hf, h1]
  dsimp only
  rw [h2, back_wipe]
/-- .. over the images of a list's items -/
theorem lc_of {α : Type} {g : D → Ef Unit} {ft : Ef Bool} {fe : Ef D} {vs : List Nat} {e : En} (F : α → D) {L : List α} (q : α → Bool) (f : α → D) (hf : freeS e.s vs = true) (hl : L.length ≤ big)
    (h : ∀ a ∈ L, ∃ e1, g (F a) ⟨wipeS e.s vs, e.b⟩ = .ok () e1 ∧ ft e1 = .ok (q a) e1 ∧ (q a = true → fe e1 = .ok (f a) e1) ∧ wipeS e1.s vs = wipeS e.s vs ∧ e1.b = e.b) : lcRun g ft fe vs (L.map F) e = .ok (.lst ((L.filter q).map f)) e := by
  obtain ⟨acc, b, h1, h2, h3⟩ := lc_st (g := g) (ft := ft) (fe := fe) (vs := vs) (ds := L.map F) (e := e) (fun i acc b => acc = ((L.take i).filter q).map f ∧ b = e.b) hf ⟨rfl, rfl⟩ fun i d acc b hd hq => by
    obtain ⟨rfl, rfl⟩ := hq
    rw [List.getElem?_map] at hd
    cases ha : L[i]? with
    | none => rw [ha] at hd; cases hd
    | some a =>
      rw [ha] at hd; cases hd
      have hi : i < L.length := (List.getElem?_eq_some_iff.mp ha).1
      obtain ⟨e1, h1, h2, h3, h4, h5⟩ := h a (List.mem_of_getElem? ha)
      refine ⟨e1, e1, q a, h1, h2, fun hp => ⟨f a, e1, h3 hp, ?_, h4, ?_, h5⟩, fun hp => ⟨h4, ?_, h5⟩⟩
      · rw [List.length_map]
        have := List.length_filter_le q (L.take i)
        rw [List.length_take] at this
        omega
      · rw [List.take_add_one, ha, Option.toList_some, List.filter_append, List.map_append]
        simp [hp]
      · rw [List.take_add_one, ha, Option.toList_some, List.filter_append, List.map_append]
        simp [hp]
  rw [List.length_map, List.take_length] at h2
  rw [h1, h2, h3]
/-- tuples of naturals -/
def tl (L : List (List Nat)) : List D := L.map fun r => .tup (tn r)
@[simp] theorem tl_length (L : List (List Nat)) : (tl L).length = L.length := by simp [tl]
@[simp] theorem tl_nil : tl [] = [] := rfl
theorem tl_append (L M : List (List Nat)) : tl (L ++ M) = tl L ++ tl M := by simp [tl]
theorem tl_get (L : List (List Nat)) (i : Nat) : (tl L)[i]? = L[i]?.map fun r => D.tup (tn r) := by simp [tl]
theorem okd_tl (L : List (List Nat)) : okd dmax (.lst (tl L)) = true := by simp [okd, dmax, tl, tn]
@[simp] theorem fEq_tl_nil (L : List (List Nat)) : fEq (.lst (tl L)) (.lst []) = some (.bl (decide (L = []))) := by
  unfold fEq
  rw [if_pos ⟨okd_tl L, rfl⟩]
  cases L with
  | nil => rfl
  | cons r L => rfl
/-! ### lists of naturals, sorted -/
@[simp] theorem fEq_tnl (l m : List Nat) : fEq (.lst (tn l)) (.lst (tn m)) = some (.bl (decide (l = m))) := by
  unfold fEq
  rw [if_pos ⟨okd_tnl l, okd_tnl m⟩]
  simp only [py, py_tn, PyData.eqv, eqvAll_tn]
@[simp] theorem fNe_tnl (l m : List Nat) : fNe (.lst (tn l)) (.lst (tn m)) = some (.bl (!decide (l = m))) := by
  unfold fNe
  rw [if_pos ⟨okd_tnl l, okd_tnl m⟩]
  simp only [py, py_tn, PyData.eqv, eqvAll_tn]
@[simp] theorem fEq_tnl_nil (l : List Nat) : fEq (.lst (tn l)) (.lst []) = some (.bl (decide (l = []))) := fEq_tnl l []
def insN (n : Nat) : List Nat → List Nat
  | [] => [n]
  | m :: r => if n ≤ m then n :: m :: r else m :: insN n r
def sortN : List Nat → List Nat
  | [] => []
  | n :: r => insN n (sortN r)
theorem insI_cast (n : Nat) : ∀ r : List Nat, insI (n : Int) (r.map fun x : Nat => (x : Int)) = (insN n r).map fun x : Nat => (x : Int)
  | [] => rfl
  | m :: r => by
    unfold insN
    rw [List.map_cons]
    unfold insI
    by_cases h : n ≤ m
    · rw [if_pos h, if_pos (by omega)]; rfl
    · rw [if_neg h, if_neg (by omega), insI_cast n r]; rfl
theorem sortI_cast : ∀ l : List Nat, sortI (l.map fun x : Nat => (x : Int)) = (sortN l).map fun x : Nat => (x : Int)
  | [] => rfl
  | n :: r => by
    show insI (n : Int) (sortI (r.map fun x : Nat => (x : Int))) = _
    rw [sortI_cast r, insI_cast]; rfl
@[simp] theorem fSortedI_tup (l : List Nat) : fSortedI (.tup (tn l)) = some (.lst (tn (sortN l))) := by
  unfold fSortedI seqInts
  dsimp only
  rw [toInts_tn, Option.map_some, sortI_cast, ← tn_ints]
@[simp] theorem fSortedI_lst (l : List Nat) : fSortedI (.lst (tn l)) = some (.lst (tn (sortN l))) := by
  unfold fSortedI seqInts
  dsimp only
  rw [toInts_tn, Option.map_some, sortI_cast, ← tn_ints]
@[simp] theorem fSortedX_tup (l : List Nat) : fSortedX (.tup (tn l)) = some (.lst (tn (sortN l))) := by unfold fSortedX; rw [fSortedI_tup]
@[simp] theorem fSortedX_lst (l : List Nat) : fSortedX (.lst (tn l)) = some (.lst (tn (sortN l))) := by unfold fSortedX; rw [fSortedI_lst]
@[simp] theorem fMin2Y_int (i j : Int) : fMin2Y (.int i) (.int j) = fMin2 (.int i) (.int j) := rfl
@[simp] theorem eDct0_eq (t : Bool) : eDct0 t = rtn (if t = true then .dcT [] else .dct []) := rfl
@[simp] theorem eDct1_eq (f g : Ef D) : eDct1 f g = (bnd f fun k => bnd g fun v => lift (if (keysM k).isSome = true then some (.dcT [(k, v)]) else none)) := rfl
@[simp] theorem eDictN_eq (f : Ef D) : eDictN f = (bnd f fun d => lift (fCopyD d)) := rfl
@[simp] theorem eGet1S_eq (i : Nat) (g : Ef D) : eGet1S i g = (bnd (rdV i) fun d0 => bnd (asDct d0) fun _ => bnd g fun k => bnd (rdV i) fun d => lift (getD1 d k)) := rfl
@[simp] theorem eGet2S_eq (i : Nat) (g h : Ef D) : eGet2S i g h = (bnd (rdV i) fun d0 => bnd (asDct d0) fun _ => bnd g fun k => bnd h fun x => bnd (rdV i) fun d => lift (getD2 d k x)) := rfl
@[simp] theorem eGet1_eq (f g : Ef D) : eGet1 f g = (bnd f fun d => bnd (asDct d) fun _ => bnd g fun k => lift (getD1 d k)) := rfl
@[simp] theorem eGet2_eq (f g h : Ef D) : eGet2 f g h = (bnd f fun d => bnd (asDct d) fun _ => bnd g fun k => bnd h fun x => lift (getD2 d k x)) := rfl
@[simp] theorem asDct_T (kvs : List (D × D)) (e : En) : asDct (.dcT kvs) e = .ok () e := rfl
@[simp] theorem asDct_K (kvs : List (D × D)) (e : En) : asDct (.dct kvs) e = .ok () e := rfl
@[simp] theorem eIsE_eq (neg : Bool) (f : Ef D) : eIsE neg f = (bnd f fun d => lift ((keysD d).map fun ks => .bl (if neg then !ks.isEmpty else ks.isEmpty))) := rfl
@[simp] theorem keysD_T (kvs : List (D × D)) : keysD (.dcT kvs) = some (kvs.map (·.1)) := rfl
@[simp] theorem keysD_K (kvs : List (D × D)) : keysD (.dct kvs) = some (kvs.map (·.1)) := rfl
@[simp] theorem eKeys_eq (f : Ef D) : eKeys f = (bnd f fun d => lift (keysD d)) := rfl
@[simp] theorem eListK_eq (f : Ef D) : eListK f = (bnd f fun d => lift ((keysD d).map .lst)) := rfl
@[simp] theorem sForK_eq (f : Ef D) (g : D → Ef Unit) (body : Ef Fl) : sForK f g body = (bnd (eKeys f) fun ks => noX (loopF g body ks)) := rfl
@[simp] theorem noX_ok {α : Type} {f : Ef α} {e e' : En} {a : α} (h : f e = .ok a e') : noX f e = .ok a e' := by unfold noX; rw [h]
@[simp] theorem eSortK_eq (f : Ef D) : eSortK f = (bnd f fun d => lift (match d with
  | .dcT kvs => if sortOk (kvs.map (·.1)) = true then some (.lst (sortD (kvs.map (·.1)))) else none
  | _ => none)) := rfl
@[simp] theorem fRevL_lst (xs : List D) : fRevL (.lst xs) = some (.lst xs.reverse) := rfl
@[simp] theorem sPar3_eq (i j l : Nat) (o1 o2 o3 : Bool) (f g h : Ef D) : sPar3 i j l o1 o2 o3 f g h = (bnd f fun d => bnd g fun d' => bnd h fun d'' => bnd (setX o1 i d) fun _ => bnd (setX o2 j d') fun _ => bnd (setX o3 l d'') fun _ => rtn .nx) := rfl
end TBS
end DL
namespace LW
open PySem PySem.Spec PyProof.Rows L2 DL
open LamX NdefX
section TBS
variable [TBs]
section CAS
variable [CA]
section CLSD
variable [CLs]
noncomputable def b__law_taken : Ef Fl :=
  sSeq (sIf (eB (eOp2 fGt (eIxS 0 (rtn (.int 3))) (rtn (.int 0))))
    (sSeq (sSet 3 (eOp2 fMod (eFn (fn1 fInt) (aCons (eIxS 0 (rtn (.int 3))) (rtn []))) (eVar 1)))
    (sSeq (sAsg (eOp2 fDiv (eIxS 0 (rtn (.int 3))) (eVar 1)) (gPut 0 fPutL (rtn (.int 3))))
    (sRet (eVar 3))))
    (rtn .nx))
    (sSeq (sAsg (eOp2 fAdd (eIxS 0 (rtn (.int 1))) (rtn (.int 1))) (gPut 0 fPutL (rtn (.int 1))))
    (sSeq (sIf (eB (eOp2 fGt (eIxS 0 (rtn (.int 1))) (eFn (fn1 fLen) (aCons (eIxS 0 (rtn (.int 0))) (rtn [])))))
    (sSeq (sAsg (eOp2 fMod (eFn (fn1 fInt) (aCons (eOp2 fAdd (eOp2 fMul (eIxS 0 (rtn (.int 2))) (rtn (.int 48271))) (rtn (.int 11))) (rtn []))) (rtn (.int 2147483647))) (gPut 0 fPutL (rtn (.int 2))))
    (sRet (eOp2 fMod (eFn (fn1 fInt) (aCons (eOp2 fDiv (eIxS 0 (rtn (.int 2))) (rtn (.int 7))) (rtn []))) (eVar 1))))
    (rtn .nx))
    (sSeq (sSet 2 (eOp2 fIx (eIxS 0 (rtn (.int 0))) (eOp2 fSub (eIxS 0 (rtn (.int 1))) (rtn (.int 1)))))
    (sSeq (sAsg (eOp2 fMod (eFn (fn1 fInt) (aCons (eOp2 fAdd (eOp2 fAdd (eOp2 fMul (eIxS 0 (rtn (.int 2))) (rtn (.int 48271))) (eVar 2)) (rtn (.int 11))) (rtn []))) (rtn (.int 2147483647))) (gPut 0 fPutL (rtn (.int 2))))
    (sSeq (sIf (eB (eOp2 fGe (eVar 2) (eOp2 fPow (rtn (.int 10)) (rtn (.int 18)))))
    (sAsg (eOp2 fDiv (eVar 2) (eVar 1)) (gPut 0 fPutL (rtn (.int 3))))
    (rtn .nx))
    (sRet (eOp2 fMod (eFn (fn1 fInt) (aCons (eVar 2) (rtn []))) (eVar 1))))))))
noncomputable def g__law_taken : Ef D := runB 4 b__law_taken
noncomputable def b_is_integer : Ef Fl :=
  sRet (eAnd (eFn (fn2 fIsi) (aCons (eVar 0) (aCons (rtn (.ty "int")) (rtn [])))) (eNot (eFn (fn2 fIsi) (aCons (eVar 0) (aCons (rtn (.ty "bool")) (rtn []))))))
noncomputable def g_is_integer : Ef D := runB 1 b_is_integer
noncomputable def b_is_from : Ef Fl :=
  sRet (eAnd (eCall 1 g_is_integer (aCons (eVar 0) (rtn []))) (eChain fLe fLe (eVar 1) (eVar 0) (eVar 2)))
noncomputable def g_is_from : Ef D := runB 3 b_is_from
noncomputable def b_is_row_of_E1 : Ef D :=
  eCall 3 g_is_from (aCons (eVar 2) (aCons (rtn (.int 0)) (aCons (eOp2 fSub (eVar 0) (rtn (.int 1))) (rtn []))))
noncomputable def b_is_row_of : Ef Fl :=
  sSeq (sIf (tOrF (tNotF (eTru (eFn (fn2 fIsi) (aCons (eVar 1) (aCons (rtn (.ty "tuple")) (rtn [])))))) (tOrF (eB (eOp2 fNe (eFn (fn1 fLen) (aCons (eVar 1) (rtn []))) (eVar 0))) (tNotF (eTru (eFn (fn1 fAll) (aCons (eLc (eIter (eVar 1)) (setV 2) (rtn true) (b_is_row_of_E1) [2]) (rtn [])))))))
    (sRet (rtn (.bl false)))
    (rtn .nx))
    (sRet (eOp2 fEq (eFn (fn1 fLen) (aCons (eFn (fn1 fSetOf) (aCons (eVar 1) (rtn []))) (rtn []))) (eVar 0)))
noncomputable def g_is_row_of : Ef D := runB 3 b_is_row_of
noncomputable def b_need_row : Ef Fl :=
  sIf (tOrF (tNotF (eTru (eFn (fn2 fIsi) (aCons (eVar 0) (aCons (rtn (.ty "tuple")) (rtn [])))))) (tOrF (tNotF (eB (eChain fLe fLe (rtn (.int 1)) (eFn (fn1 fLen) (aCons (eVar 0) (rtn []))) (rtn (.int 7))))) (tNotF (eTru (eCall 2 g_is_row_of (aCons (eFn (fn1 fLen) (aCons (eVar 0) (rtn []))) (aCons (eVar 0) (rtn []))))))))
    (stk)
    (rtn .nx)
noncomputable def g_need_row : Ef D := runB 1 b_need_row
noncomputable def b_need_word_E1 : Ef D :=
  eCall 3 g_is_from (aCons (eVar 3) (aCons (rtn (.int 0)) (aCons (eOp2 fSub (eVar 0) (rtn (.int 2))) (rtn []))))
noncomputable def b_need_word : Ef Fl :=
  sIf (tOrF (tNotF (eTru (eFn (fn2 fIsi) (aCons (eVar 1) (aCons (rtn (.ty "tuple")) (rtn [])))))) (tOrF (eB (eOp2 fGt (eFn (fn1 fLen) (aCons (eVar 1) (rtn []))) (eVar 2))) (tNotF (eTru (eFn (fn1 fAll) (aCons (eLc (eIter (eVar 1)) (setV 3) (rtn true) (b_need_word_E1) [3]) (rtn [])))))))
    (stk)
    (rtn .nx)
noncomputable def g_need_word : Ef D := runB 4 b_need_word
noncomputable def g_need_word_2 : Ef D := fun e => g_need_word ⟨e.s ++ [.int 200].map .val, e.b⟩
noncomputable def b_exchanged : Ef Fl :=
  sRet (eOp2 fAdd (eOp2 fAdd (eSl (eVar 0) (eNoP) (eP (eVar 1))) (eTup (aCons (eOp2 fIx (eVar 0) (eOp2 fAdd (eVar 1) (rtn (.int 1)))) (aCons (eOp2 fIx (eVar 0) (eVar 1)) (rtn []))))) (eSl (eVar 0) (eP (eOp2 fAdd (eVar 1) (rtn (.int 2)))) (eNoP)))
noncomputable def g_exchanged : Ef D := runB 2 b_exchanged
noncomputable def b_done : Ef Fl :=
  sRet (eIf (eB (eOp2 fGt (eOp2 fIx (eVar 0) (eVar 1)) (eOp2 fIx (eVar 0) (eOp2 fAdd (eVar 1) (rtn (.int 1)))))) (eCall 2 g_exchanged (aCons (eVar 0) (aCons (eVar 1) (rtn [])))) (eVar 0))
noncomputable def g_done : Ef D := runB 2 b_done
noncomputable def b_run_left_L1 : Ef Fl :=
  sIf (eB (eOp2 fNotIn (eVar 4) (eVar 3)))
    (sSet 0 (eCall 2 g_done (aCons (eVar 0) (aCons (eVar 5) (rtn [])))))
    (rtn .nx)
noncomputable def b_run_left : Ef Fl :=
  sSeq (sSet 3 (eFn (fn1 fSetOf) (aCons (eVar 2) (rtn []))))
    (sSeq (sFor (eEnum (eVar 1)) (gTupD 2 (gsCons (setV 4) (gsCons (setV 5) (gsNil))))
    (b_run_left_L1))
    (sRet (eVar 0)))
noncomputable def g_run_left : Ef D := runB 6 b_run_left
noncomputable def b_need_cards : Ef Fl :=
  sIf (tNotF (eTru (eCall 3 g_is_from (aCons (eVar 0) (aCons (rtn (.int 1)) (aCons (rtn (.int 7)) (rtn [])))))))
    (stk)
    (rtn .nx)
noncomputable def g_need_cards : Ef D := runB 1 b_need_cards
noncomputable def b_turned_row : Ef Fl :=
  sRet (eTupR (eRgD (eOp2 fSub (eVar 0) (rtn (.int 1))) (eOp1 fNeg (rtn (.int 1)))))
noncomputable def g_turned_row : Ef D := runB 1 b_turned_row
noncomputable def b_need_row_v2 : Ef Fl :=
  sIf (tOrF (tNotF (eTru (eFn (fn2 fIsi) (aCons (eVar 0) (aCons (rtn (.ty "tuple")) (rtn [])))))) (tOrF (tNotF (eB (eChain fLe fLe (rtn (.int 1)) (eFn (fn1 fLen) (aCons (eVar 0) (rtn []))) (rtn (.int 7))))) (tNotF (eTru (eCall 2 g_is_row_of (aCons (eFn (fn1 fLen) (aCons (eVar 0) (rtn []))) (aCons (eVar 0) (rtn []))))))))
    (sRaise (CA.at "BadRow"))
    (rtn .nx)
noncomputable def g_need_row_v2 : Ef D := runB 1 b_need_row_v2
noncomputable def b_pairs_out_T1 : Ef Bool :=
  eB (eOp2 fLt (eVar 4) (eVar 3))
noncomputable def b_pairs_out_E2 : Ef D :=
  eTup (aCons (eVar 3) (aCons (eVar 4) (rtn [])))
noncomputable def b_pairs_out_L3 : Ef Fl :=
  sExpr (eMut 1 1 fExtend (aCons (eLc (eIter (eSl (eVar 0) (eP (eOp2 fAdd (eVar 2) (rtn (.int 1)))) (eNoP))) (setV 4) (b_pairs_out_T1) (b_pairs_out_E2) [4]) (rtn [])))
noncomputable def b_pairs_out : Ef Fl :=
  sSeq (sSetN 1 (eLst (rtn [])))
    (sSeq (sFor (eEnum (eVar 0)) (gTupD 2 (gsCons (setV 2) (gsCons (setV 3) (gsNil))))
    (b_pairs_out_L3))
    (sRet (eFn (fn1 fSortedX) (aCons (eVar 1) (rtn [])))))
noncomputable def g_pairs_out : Ef D := runB 5 b_pairs_out
noncomputable def b_least_way_v2_L1 : Ef Fl :=
  sIf (tAndF (eB (eOp2 fGt (eOp2 fIx (eVar 0) (eVar 4)) (eOp2 fIx (eVar 0) (eOp2 fAdd (eVar 4) (rtn (.int 1)))))) (eB (eOp2 fNotInT (eTup (aCons (eOp2 fIx (eVar 0) (eVar 4)) (aCons (eOp2 fIx (eVar 0) (eOp2 fAdd (eVar 4) (rtn (.int 1)))) (rtn [])))) (eVar 2))))
    (sSeq (sSet 0 (eCall 2 g_exchanged (aCons (eVar 0) (aCons (eVar 4) (rtn [])))))
    (sSeq (sExpr (eMut 3 1 fAppend (aCons (eVar 4) (rtn []))))
    (sSet 4 (rtn (.int 0)))))
    (sAugI 4 (fun i j => i + j) (rtn (.int 1)))
noncomputable def b_least_way_v2_W2 : Ef Bool :=
  eB (eOp2 fLt (eVar 4) (eOp2 fSub (eFn (fn1 fLen) (aCons (eVar 0) (rtn []))) (rtn (.int 1))))
noncomputable def b_least_way_v2 : Ef Fl :=
  sSeq (sSet 2 (eFn (fn1 fSetT) (aCons (eCall 1 g_pairs_out (aCons (eVar 1) (rtn []))) (rtn []))))
    (sSeq (sPar 3 4 true false (eLst (rtn [])) (rtn (.int 0)))
    (sSeq (sWhile (b_least_way_v2_W2)
    (b_least_way_v2_L1))
    (sRet (eFn (fn1 fTuple) (aCons (eVar 3) (rtn []))))))
noncomputable def g_least_way_v2 : Ef D := runB 5 b_least_way_v2
noncomputable def b__law_pick : Ef Fl :=
  sRet (eOp2 fIx (eVar 1) (eCallR 2 g__law_taken 0 (aCons (eFn (fn1 fLen) (aCons (eVar 1) (rtn []))) (rtn []))))
noncomputable def g__law_pick : Ef D := runB 2 b__law_pick
noncomputable def b_need_word_v2_E1 : Ef D :=
  eCall 3 g_is_from (aCons (eVar 3) (aCons (rtn (.int 0)) (aCons (eOp2 fSub (eVar 0) (rtn (.int 2))) (rtn []))))
noncomputable def b_need_word_v2 : Ef Fl :=
  sIf (tOrF (tNotF (eTru (eFn (fn2 fIsi) (aCons (eVar 1) (aCons (rtn (.ty "tuple")) (rtn [])))))) (tOrF (eB (eOp2 fGt (eFn (fn1 fLen) (aCons (eVar 1) (rtn []))) (eVar 2))) (tNotF (eTru (eFn (fn1 fAll) (aCons (eLc (eIter (eVar 1)) (setV 3) (rtn true) (b_need_word_v2_E1) [3]) (rtn [])))))))
    (sRaise (CA.at "BadWord"))
    (rtn .nx)
noncomputable def g_need_word_v2 : Ef D := runB 4 b_need_word_v2
noncomputable def g_need_word_v2_2 : Ef D := fun e => g_need_word_v2 ⟨e.s ++ [.int 200].map .val, e.b⟩
noncomputable def b_need_cards_v2 : Ef Fl :=
  sIf (tNotF (eTru (eCall 3 g_is_from (aCons (eVar 0) (aCons (rtn (.int 1)) (aCons (rtn (.int 7)) (rtn [])))))))
    (sRaise (CA.at "BadCards"))
    (rtn .nx)
noncomputable def g_need_cards_v2 : Ef D := runB 1 b_need_cards_v2
noncomputable def b_need_both : Ef Fl :=
  sSeq (sExpr (eCall 1 g_need_cards (aCons (eVar 0) (rtn []))))
    (sExpr (eCall 2 g_need_word_2 (aCons (eVar 0) (aCons (eVar 1) (rtn [])))))
noncomputable def g_need_both : Ef D := runB 2 b_need_both
noncomputable def b_end_of : Ef Fl :=
  sRet (eCall 3 g_run_left (aCons (eCall 1 g_turned_row (aCons (eVar 0) (rtn []))) (aCons (eVar 1) (aCons (eTup (rtn [])) (rtn [])))))
noncomputable def g_end_of : Ef D := runB 2 b_end_of
noncomputable def b_end : Ef Fl :=
  sSeq (sExpr (eCall 2 g_need_both (aCons (eVar 0) (aCons (eVar 1) (rtn [])))))
    (sRet (eCall 2 g_end_of (aCons (eVar 0) (aCons (eVar 1) (rtn [])))))
noncomputable def g_end : Ef D := runB 2 b_end
noncomputable def b_least_word_v3 : Ef Fl :=
  sSeq (sSet 2 (eCall 2 g_end (aCons (eVar 0) (aCons (eVar 1) (rtn [])))))
    (sRet (eCall 2 g_least_way_v2 (aCons (eCall 1 g_turned_row (aCons (eVar 0) (rtn []))) (aCons (eVar 2) (rtn [])))))
noncomputable def g_least_word_v3 : Ef D := runB 3 b_least_word_v3
noncomputable def b_lacking_v2 : Ef Fl :=
  sRet (eCall 2 g_least_way_v2 (aCons (eCall 2 g_end (aCons (eVar 0) (aCons (eVar 1) (rtn [])))) (aCons (eTupR (eRg1 (eVar 0))) (rtn []))))
noncomputable def g_lacking_v2 : Ef D := runB 2 b_lacking_v2
noncomputable def b_steps_up_T1 : Ef Bool :=
  eB (eOp2 fLt (eOp2 fIx (eVar 0) (eVar 1)) (eOp2 fIx (eVar 0) (eOp2 fAdd (eVar 1) (rtn (.int 1)))))
noncomputable def b_steps_up_E2 : Ef D :=
  eVar 1
noncomputable def b_steps_up : Ef Fl :=
  sRet (eLc (eRange1 (eOp2 fSub (eFn (fn1 fLen) (aCons (eVar 0) (rtn []))) (rtn (.int 1)))) (setV 1) (b_steps_up_T1) (b_steps_up_E2) [1])
noncomputable def g_steps_up : Ef D := runB 2 b_steps_up
noncomputable def b_number_of_words_L1 : Ef Fl :=
  sSeq (sSet 5 (eCall 2 g_exchanged (aCons (eVar 3) (aCons (eVar 4) (rtn [])))))
    (sAsg (eOp2 fAdd (eGet2S 2 (eVar 5) (rtn (.int 0))) (eOp2 fIx (eVar 1) (eVar 3))) (gPut 2 fPut (eVar 5)))
noncomputable def b_number_of_words_L2 : Ef Fl :=
  sFor (eIter (eCall 1 g_steps_up (aCons (eVar 3) (rtn [])))) (setV 4)
    (b_number_of_words_L1)
noncomputable def b_number_of_words_L3 : Ef Fl :=
  sSeq (sSetN 2 (eDct0 true))
    (sSeq (sForK (eVar 1) (setV 3)
    (b_number_of_words_L2))
    (sSeq (sIf (eB (eIsE false (eVar 2)))
    (sRet (eOp2 fIx (eVar 1) (eCall 1 g_turned_row (aCons (eFn (fn1 fLen) (aCons (eVar 0) (rtn []))) (rtn [])))))
    (rtn .nx))
    (sSet 1 (eVar 2))))
noncomputable def b_number_of_words_W4 : Ef Bool :=
  eTru (rtn (.bl true))
noncomputable def b_number_of_words : Ef Fl :=
  sSeq (sSet 1 (eDct1 (eVar 0) (rtn (.int 1))))
    (sWhile (b_number_of_words_W4)
    (b_number_of_words_L3))
noncomputable def g_number_of_words : Ef D := runB 6 b_number_of_words
noncomputable def b_all_words_E1 : Ef D :=
  eTup (aCons (eCall 2 g_exchanged (aCons (eVar 4) (aCons (eVar 6) (rtn [])))) (aCons (eTup (aCons (eVar 6) (aStar (eVar 5) (rtn [])))) (rtn [])))
noncomputable def b_all_words_L2 : Ef Fl :=
  sSeq (sAsg (eMut0 1 1 fPop0) (gTupD 2 (gsCons (setV 4) (gsCons (setV 5) (gsNil)))))
    (sSeq (sSet 3 (eCall 1 g_steps_up (aCons (eVar 4) (rtn []))))
    (sSeq (sIf (eB (eOp2 fEq (eVar 3) (eLst (rtn []))))
    (sExpr (eMut 2 1 fAppend (aCons (eVar 5) (rtn []))))
    (rtn .nx))
    (sExpr (eMut 1 1 fExtend (aCons (eLc (eIter (eVar 3)) (setV 6) (rtn true) (b_all_words_E1) [6]) (rtn []))))))
noncomputable def b_all_words_W3 : Ef Bool :=
  eB (eOpL fNe 1 (eLst (rtn [])))
noncomputable def b_all_words : Ef Fl :=
  sSeq (sExpr (eCall 1 g_need_row (aCons (eVar 0) (rtn []))))
    (sSeq (sIf (eB (eOp2 fGt (eCall 1 g_number_of_words (aCons (eVar 0) (rtn []))) (rtn (.int 5000))))
    (stk)
    (rtn .nx))
    (sSeq (sPar 1 2 true true (eLst (aCons (eTup (aCons (eVar 0) (aCons (eTup (rtn [])) (rtn [])))) (rtn []))) (eLst (rtn [])))
    (sSeq (sWhile (b_all_words_W3)
    (b_all_words_L2))
    (sRet (eFn (fn1 fTuple) (aCons (eFn (fn1 fSortedX) (aCons (eVar 2) (rtn []))) (rtn [])))))))
noncomputable def g_all_words : Ef D := runB 7 b_all_words
noncomputable def b_count_words : Ef Fl :=
  sSeq (sExpr (eCall 1 g_need_row (aCons (eVar 0) (rtn []))))
    (sRet (eCall 1 g_number_of_words (aCons (eVar 0) (rtn []))))
noncomputable def g_count_words : Ef D := runB 1 b_count_words
noncomputable def b_are_alike : Ef Fl :=
  sSeq (sExpr (eCall 2 g_need_both (aCons (eVar 0) (aCons (eVar 1) (rtn [])))))
    (sSeq (sExpr (eCall 2 g_need_word_2 (aCons (eVar 0) (aCons (eVar 2) (rtn [])))))
    (sRet (eOp2 fEq (eCall 2 g_end_of (aCons (eVar 0) (aCons (eVar 1) (rtn [])))) (eCall 2 g_end_of (aCons (eVar 0) (aCons (eVar 2) (rtn [])))))))
noncomputable def g_are_alike : Ef D := runB 3 b_are_alike
noncomputable def b_sorts_all : Ef Fl :=
  sRet (eOp2 fEq (eCall 2 g_end (aCons (eVar 0) (aCons (eVar 1) (rtn [])))) (eTupR (eRg1 (eVar 0))))
noncomputable def g_sorts_all : Ef D := runB 2 b_sorts_all
noncomputable def b_need_goal : Ef Fl :=
  sIf (tNotF (eTru (eCall 2 g_is_row_of (aCons (eVar 0) (aCons (eVar 1) (rtn []))))))
    (stk)
    (rtn .nx)
noncomputable def g_need_goal : Ef D := runB 2 b_need_goal
noncomputable def b_reach_from_L1 : Ef Fl :=
  sIf (eB (eOp2 fLt (eOp2 fIx (eVar 5) (eVar 3)) (eOp2 fIx (eVar 5) (eOp2 fAdd (eVar 3) (rtn (.int 1))))))
    (sAsg (rtn (.bl true)) (gPut 4 fPut (eCall 2 g_exchanged (aCons (eVar 5) (aCons (eVar 3) (rtn []))))))
    (rtn .nx)
noncomputable def b_reach_from_L2 : Ef Fl :=
  sSeq (sSetN 4 (eDictN (eIxS 2 (eOp1 fNeg (rtn (.int 1))))))
    (sSeq (sForK (eIxS 2 (eOp1 fNeg (rtn (.int 1)))) (setV 5)
    (b_reach_from_L1))
    (sExpr (eMut 2 1 fAppend (aCons (eVar 4) (rtn [])))))
noncomputable def b_reach_from : Ef Fl :=
  sSeq (sSetN 2 (eLst (aCons (eDct1 (eVar 1) (rtn (.bl true))) (rtn []))))
    (sSeq (sFor (eRev (eVar 0)) (setV 3)
    (b_reach_from_L2))
    (sRet (eOp1 fRevL (eVar 2))))
noncomputable def g_reach_from : Ef D := runB 6 b_reach_from
noncomputable def b_first_scattered_T1 : Ef Bool :=
  eB (eOp2 fNotIn (eVar 11) (eVar 3))
noncomputable def b_first_scattered_E2 : Ef D :=
  eVar 10
noncomputable def b_first_scattered_T3 : Ef Bool :=
  eB (eOp2 fNotIn (eVar 11) (eVar 3))
noncomputable def b_first_scattered_E4 : Ef D :=
  eVar 11
noncomputable def b_first_scattered_L5 : Ef Fl :=
  sIf (tAndF (eB (eOp2 fNe (eVar 7) (eVar 2))) (tAndF (eB (eOp2 fGt (eOp2 fIx (eVar 7) (eVar 10)) (eOp2 fIx (eVar 7) (eOp2 fAdd (eVar 10) (rtn (.int 1)))))) (eB (eOp2 fIn (eCall 2 g_exchanged (aCons (eVar 7) (aCons (eVar 10) (rtn [])))) (eOp2 fIx (eVar 6) (eOp2 fAdd (eVar 9) (rtn (.int 1))))))))
    (sSeq (sSet 7 (eCall 2 g_exchanged (aCons (eVar 7) (aCons (eVar 10) (rtn [])))))
    (sExpr (eMut 8 1 fAppend (aCons (eOp2 fIx (eVar 5) (eVar 9)) (rtn [])))))
    (rtn .nx)
noncomputable def b_first_scattered : Ef Fl :=
  sSeq (sSetN 4 (eLc (eEnum (eVar 1)) (gTupD 2 (gsCons (setV 11) (gsCons (setV 10) (gsNil)))) (b_first_scattered_T1) (b_first_scattered_E2) [11, 10]))
    (sSeq (sSetN 5 (eLc (eRange1 (eFn (fn1 fLen) (aCons (eVar 1) (rtn [])))) (setV 11) (b_first_scattered_T3) (b_first_scattered_E4) [11]))
    (sSeq (sPar3 6 7 8 false false true (eCall 2 g_reach_from (aCons (eVar 4) (aCons (eVar 2) (rtn [])))) (eCall 1 g_turned_row (aCons (eVar 0) (rtn []))) (eLst (rtn [])))
    (sSeq (sIf (eB (eOp2 fNotIn (eVar 7) (eOp2 fIx (eVar 6) (rtn (.int 0)))))
    (sRet (rtn .non))
    (rtn .nx))
    (sSeq (sFor (eEnum (eVar 4)) (gTupD 2 (gsCons (setV 9) (gsCons (setV 10) (gsNil))))
    (b_first_scattered_L5))
    (sRet (eFn (fn1 fTuple) (aCons (eVar 8) (rtn []))))))))
noncomputable def g_first_scattered : Ef D := runB 12 b_first_scattered
noncomputable def b_scattered : Ef Fl :=
  sSeq (sExpr (eCall 2 g_need_both (aCons (eVar 0) (aCons (eVar 1) (rtn [])))))
    (sSeq (sExpr (eCall 2 g_need_goal (aCons (eVar 0) (aCons (eVar 2) (rtn [])))))
    (sRet (eCall 4 g_first_scattered (aCons (eVar 0) (aCons (eVar 1) (aCons (eVar 2) (aCons (eTup (rtn [])) (rtn []))))))))
noncomputable def g_scattered : Ef D := runB 3 b_scattered
noncomputable def b_need_both_v2 : Ef Fl :=
  sSeq (sExpr (eCall 1 g_need_cards_v2 (aCons (eVar 0) (rtn []))))
    (sExpr (eCall 2 g_need_word_v2_2 (aCons (eVar 0) (aCons (eVar 1) (rtn [])))))
noncomputable def g_need_both_v2 : Ef D := runB 2 b_need_both_v2
noncomputable def b_end_v2 : Ef Fl :=
  sSeq (sExpr (eCall 2 g_need_both_v2 (aCons (eVar 0) (aCons (eVar 1) (rtn [])))))
    (sRet (eCall 2 g_end_of (aCons (eVar 0) (aCons (eVar 1) (rtn [])))))
noncomputable def g_end_v2 : Ef D := runB 2 b_end_v2
noncomputable def b_are_alike_v2 : Ef Fl :=
  sSeq (sExpr (eCall 2 g_need_both_v2 (aCons (eVar 0) (aCons (eVar 1) (rtn [])))))
    (sSeq (sExpr (eCall 2 g_need_word_v2_2 (aCons (eVar 0) (aCons (eVar 2) (rtn [])))))
    (sRet (eOp2 fEq (eCall 2 g_end_of (aCons (eVar 0) (aCons (eVar 1) (rtn [])))) (eCall 2 g_end_of (aCons (eVar 0) (aCons (eVar 2) (rtn [])))))))
noncomputable def g_are_alike_v2 : Ef D := runB 3 b_are_alike_v2
noncomputable def b_sorts_all_v2 : Ef Fl :=
  sRet (eOp2 fEq (eCall 2 g_end_v2 (aCons (eVar 0) (aCons (eVar 1) (rtn [])))) (eTupR (eRg1 (eVar 0))))
noncomputable def g_sorts_all_v2 : Ef D := runB 2 b_sorts_all_v2
noncomputable def b_least_word_v4 : Ef Fl :=
  sSeq (sSet 2 (eCall 2 g_end_v2 (aCons (eVar 0) (aCons (eVar 1) (rtn [])))))
    (sRet (eCall 2 g_least_way_v2 (aCons (eCall 1 g_turned_row (aCons (eVar 0) (rtn []))) (aCons (eVar 2) (rtn [])))))
noncomputable def g_least_word_v4 : Ef D := runB 3 b_least_word_v4
noncomputable def b_lacking_v3 : Ef Fl :=
  sRet (eCall 2 g_least_way_v2 (aCons (eCall 2 g_end_v2 (aCons (eVar 0) (aCons (eVar 1) (rtn [])))) (aCons (eTupR (eRg1 (eVar 0))) (rtn []))))
noncomputable def g_lacking_v3 : Ef D := runB 2 b_lacking_v3
noncomputable def b_need_goal_v2 : Ef Fl :=
  sIf (tNotF (eTru (eCall 2 g_is_row_of (aCons (eVar 0) (aCons (eVar 1) (rtn []))))))
    (sRaise (CA.at "BadGoal"))
    (rtn .nx)
noncomputable def g_need_goal_v2 : Ef D := runB 2 b_need_goal_v2
noncomputable def b_scattered_v2 : Ef Fl :=
  sSeq (sExpr (eCall 2 g_need_both_v2 (aCons (eVar 0) (aCons (eVar 1) (rtn [])))))
    (sSeq (sExpr (eCall 2 g_need_goal_v2 (aCons (eVar 0) (aCons (eVar 2) (rtn [])))))
    (sRet (eCall 4 g_first_scattered (aCons (eVar 0) (aCons (eVar 1) (aCons (eVar 2) (aCons (eTup (rtn [])) (rtn []))))))))
noncomputable def g_scattered_v2 : Ef D := runB 3 b_scattered_v2
noncomputable def b_count_words_v2 : Ef Fl :=
  sSeq (sExpr (eCall 1 g_need_row_v2 (aCons (eVar 0) (rtn []))))
    (sRet (eCall 1 g_number_of_words (aCons (eVar 0) (rtn []))))
noncomputable def g_count_words_v2 : Ef D := runB 1 b_count_words_v2
noncomputable def b_all_words_v2_E1 : Ef D :=
  eTup (aCons (eCall 2 g_exchanged (aCons (eVar 4) (aCons (eVar 6) (rtn [])))) (aCons (eTup (aCons (eVar 6) (aStar (eVar 5) (rtn [])))) (rtn [])))
noncomputable def b_all_words_v2_L2 : Ef Fl :=
  sSeq (sAsg (eMut0 1 1 fPop0) (gTupD 2 (gsCons (setV 4) (gsCons (setV 5) (gsNil)))))
    (sSeq (sSet 3 (eCall 1 g_steps_up (aCons (eVar 4) (rtn []))))
    (sSeq (sIf (eB (eOp2 fEq (eVar 3) (eLst (rtn []))))
    (sExpr (eMut 2 1 fAppend (aCons (eVar 5) (rtn []))))
    (rtn .nx))
    (sExpr (eMut 1 1 fExtend (aCons (eLc (eIter (eVar 3)) (setV 6) (rtn true) (b_all_words_v2_E1) [6]) (rtn []))))))
noncomputable def b_all_words_v2_W3 : Ef Bool :=
  eB (eOpL fNe 1 (eLst (rtn [])))
noncomputable def b_all_words_v2 : Ef Fl :=
  sSeq (sExpr (eCall 1 g_need_row_v2 (aCons (eVar 0) (rtn []))))
    (sSeq (sIf (eB (eOp2 fGt (eCall 1 g_number_of_words (aCons (eVar 0) (rtn []))) (rtn (.int 5000))))
    (sRaiseA (CA.at "TooMany") "most" (rtn (.int 5000)))
    (rtn .nx))
    (sSeq (sPar 1 2 true true (eLst (aCons (eTup (aCons (eVar 0) (aCons (eTup (rtn [])) (rtn [])))) (rtn []))) (eLst (rtn [])))
    (sSeq (sWhile (b_all_words_v2_W3)
    (b_all_words_v2_L2))
    (sRet (eFn (fn1 fTuple) (aCons (eFn (fn1 fSortedX) (aCons (eVar 2) (rtn []))) (rtn [])))))))
noncomputable def g_all_words_v2 : Ef D := runB 7 b_all_words_v2
noncomputable def b_need_short : Ef Fl :=
  sSeq (sExpr (eCall 1 g_need_cards (aCons (eVar 0) (rtn []))))
    (sSeq (sExpr (eCall 2 g_need_word_2 (aCons (eVar 0) (aCons (eVar 1) (rtn [])))))
    (sIf (eB (eOp2 fGt (eFn (fn1 fLen) (aCons (eVar 1) (rtn []))) (rtn (.int 40))))
    (stk)
    (rtn .nx)))
noncomputable def g_need_short : Ef D := runB 2 b_need_short
noncomputable def b_need_case : Ef Fl :=
  sSeq (sExpr (eCall 2 g_need_short (aCons (eVar 0) (aCons (eVar 1) (rtn [])))))
    (sExpr (eCall 2 g_need_goal (aCons (eVar 0) (aCons (eVar 2) (rtn [])))))
noncomputable def g_need_case : Ef D := runB 3 b_need_case
noncomputable def b_Table_working : Ef Fl :=
  sSeq (sSet 3 (eOp2 fIx (eFld (CA.at "Table") "word" (eVar 0)) (eVar 1)))
    (sRet (eIf (eB (eOp2 fGt (eOp2 fIx (eVar 2) (eVar 3)) (eOp2 fIx (eVar 2) (eOp2 fAdd (eVar 3) (rtn (.int 1)))))) (eCall 2 g_exchanged (aCons (eVar 2) (aCons (eVar 3) (rtn [])))) (rtn .non)))
noncomputable def g_Table_working : Ef D := runB 4 b_Table_working
noncomputable def b_Table_left : Ef Fl :=
  sRet (eGet2 (eOp2 fIx (eFld (CA.at "Table") "counts" (eVar 0)) (eVar 1)) (eVar 2) (rtn (.int 0)))
noncomputable def g_Table_left : Ef D := runB 3 b_Table_left
noncomputable def b_Table_init_L1 : Ef Fl :=
  sIf (eB (eOp2 fLt (eOp2 fIx (eVar 7) (eVar 4)) (eOp2 fIx (eVar 7) (eOp2 fAdd (eVar 4) (rtn (.int 1))))))
    (sSeq (sSet 8 (eCall 2 g_exchanged (aCons (eVar 7) (aCons (eVar 4) (rtn [])))))
    (sAsg (eOp2 fAdd (eGet2S 6 (eVar 8) (rtn (.int 0))) (eOp2 fIx (eVar 5) (eVar 7))) (gPut 6 fPut (eVar 8))))
    (rtn .nx)
noncomputable def b_Table_init_f1 : Ef D :=
  eCall 1 g_turned_row (aCons (eVar 1) (rtn []))
noncomputable def b_Table_init_f2 : Ef D :=
  eVar 2
noncomputable def b_Table_init_f3 : Ef D :=
  eVar 3
noncomputable def b_Table_init_f4 : Ef D :=
  eLst (aCons (eDct1 (eVar 3) (rtn (.int 1))) (rtn []))
noncomputable def b_Table_init_w : Ef (List D) :=
  eRev (eVar 2)
noncomputable def b_Table_init_b1 : Ef Fl :=
  sSetN 6 (eDictN (eVar 5))
noncomputable def b_Table_init_b2 : Ef Fl :=
  sForK (eVar 5) (setV 7)
    (b_Table_init_L1)
noncomputable def g_Table_init [CA] : Addr → List D → Option D := tabG (CA.at "Table") 9 "first" "word" "goal" "counts" b_Table_init_f1 b_Table_init_f2 b_Table_init_f3 b_Table_init_f4 b_Table_init_w 4 5 6 b_Table_init_b1 b_Table_init_b2
noncomputable def b_table_of : Ef Fl :=
  sSeq (sExpr (eCall 3 g_need_case (aCons (eVar 0) (aCons (eVar 1) (aCons (eVar 2) (rtn []))))))
    (sRet (eNew 3 g_Table_init (aCons (eVar 0) (aCons (eVar 1) (aCons (eVar 2) (rtn []))))))
noncomputable def g_table_of : Ef D := runB 3 b_table_of
noncomputable def b_Table_ways_working : Ef Fl :=
  sSeq (sSet 3 (eMeth (CA.at "Table") "working" 3 g_Table_working (eVar 0) (aCons (eVar 1) (aCons (eVar 2) (rtn [])))))
    (sRet (eIf (eB (eOp2 fIs (eVar 3) (rtn .non))) (rtn (.int 0)) (eMeth (CA.at "Table") "left" 3 g_Table_left (eVar 0) (aCons (eOp2 fAdd (eVar 1) (rtn (.int 1))) (aCons (eVar 3) (rtn []))))))
noncomputable def g_Table_ways_working : Ef D := runB 4 b_Table_ways_working
noncomputable def b_Table_total : Ef Fl :=
  sRet (eGet2 (eOp2 fIx (eFld (CA.at "Table") "counts" (eVar 0)) (rtn (.int 0))) (eFld (CA.at "Table") "first" (eVar 0)) (rtn (.int 0)))
noncomputable def g_Table_total : Ef D := runB 1 b_Table_total
noncomputable def b_need_few : Ef Fl :=
  sIf (eB (eOp2 fGt (eMeth0 (CA.at "Table") "total" g_Table_total (eVar 0)) (eVar 1)))
    (stk)
    (rtn .nx)
noncomputable def g_need_few : Ef D := runB 2 b_need_few
noncomputable def g_need_few_1 : Ef D := fun e => g_need_few ⟨e.s ++ [.int 3000].map .val, e.b⟩
noncomputable def b_Table_lots_L1 : Ef Fl :=
  sSeq (sAsg (eMut0 2 1 fPop0) (gTupD 3 (gsCons (setV 3) (gsCons (setV 4) (gsCons (setV 5) (gsNil))))))
    (sSeq (sIf (eB (eOp2 fEq (eVar 3) (eFn (fn1 fLen) (aCons (eFld (CA.at "Table") "word" (eVar 0)) (rtn [])))))
    (sSeq (sExpr (eMut 1 1 fAppend (aCons (eVar 5) (rtn []))))
    (rtn .ct))
    (rtn .nx))
    (sSeq (sIf (eB (eOp2 fGt (eMeth (CA.at "Table") "left" 3 g_Table_left (eVar 0) (aCons (eOp2 fAdd (eVar 3) (rtn (.int 1))) (aCons (eVar 4) (rtn [])))) (rtn (.int 0))))
    (sExpr (eMut 2 1 fAppend (aCons (eTup (aCons (eOp2 fAdd (eVar 3) (rtn (.int 1))) (aCons (eVar 4) (aCons (eTup (aStar (eVar 5) (aCons (eVar 3) (rtn [])))) (rtn []))))) (rtn []))))
    (rtn .nx))
    (sIf (eB (eOp2 fGt (eMeth (CA.at "Table") "ways_working" 3 g_Table_ways_working (eVar 0) (aCons (eVar 3) (aCons (eVar 4) (rtn [])))) (rtn (.int 0))))
    (sExpr (eMut 2 1 fAppend (aCons (eTup (aCons (eOp2 fAdd (eVar 3) (rtn (.int 1))) (aCons (eMeth (CA.at "Table") "working" 3 g_Table_working (eVar 0) (aCons (eVar 3) (aCons (eVar 4) (rtn [])))) (aCons (eVar 5) (rtn []))))) (rtn []))))
    (rtn .nx))))
noncomputable def b_Table_lots_W2 : Ef Bool :=
  eB (eOpL fNe 2 (eLst (rtn [])))
noncomputable def b_Table_lots : Ef Fl :=
  sSeq (sSetN 1 (eLst (rtn [])))
    (sSeq (sSetN 2 (eIf (eB (eOp2 fGt (eMeth0 (CA.at "Table") "total" g_Table_total (eVar 0)) (rtn (.int 0)))) (eLst (aCons (eTup (aCons (rtn (.int 0)) (aCons (eFld (CA.at "Table") "first" (eVar 0)) (aCons (eTup (rtn [])) (rtn []))))) (rtn []))) (eLst (rtn []))))
    (sSeq (sWhile (b_Table_lots_W2)
    (b_Table_lots_L1))
    (sRet (eVar 1))))
noncomputable def g_Table_lots : Ef D := runB 6 b_Table_lots
noncomputable def b_need_short_v3 : Ef Fl :=
  sSeq (sExpr (eCall 1 g_need_cards_v2 (aCons (eVar 0) (rtn []))))
    (sSeq (sExpr (eCall 2 g_need_word_v2_2 (aCons (eVar 0) (aCons (eVar 1) (rtn [])))))
    (sIf (eB (eOp2 fGt (eFn (fn1 fLen) (aCons (eVar 1) (rtn []))) (rtn (.int 40))))
    (sRaiseA (CA.at "TooLong") "most" (rtn (.int 40)))
    (rtn .nx)))
noncomputable def g_need_short_v3 : Ef D := runB 2 b_need_short_v3
noncomputable def b_need_case_v3 : Ef Fl :=
  sSeq (sExpr (eCall 2 g_need_short_v3 (aCons (eVar 0) (aCons (eVar 1) (rtn [])))))
    (sExpr (eCall 2 g_need_goal_v2 (aCons (eVar 0) (aCons (eVar 2) (rtn [])))))
noncomputable def g_need_case_v3 : Ef D := runB 3 b_need_case_v3
noncomputable def b_table_of_v3 : Ef Fl :=
  sSeq (sExpr (eCall 3 g_need_case_v3 (aCons (eVar 0) (aCons (eVar 1) (aCons (eVar 2) (rtn []))))))
    (sRet (eNew 3 g_Table_init (aCons (eVar 0) (aCons (eVar 1) (aCons (eVar 2) (rtn []))))))
noncomputable def g_table_of_v3 : Ef D := runB 3 b_table_of_v3
noncomputable def b_need_few_v2 : Ef Fl :=
  sIf (eB (eOp2 fGt (eMeth0 (CA.at "Table") "total" g_Table_total (eVar 0)) (eVar 1)))
    (sRaiseA (CA.at "TooMany") "most" (eVar 1))
    (rtn .nx)
noncomputable def g_need_few_v2 : Ef D := runB 2 b_need_few_v2
noncomputable def g_need_few_v2_1 : Ef D := fun e => g_need_few_v2 ⟨e.s ++ [.int 3000].map .val, e.b⟩
noncomputable def b_pairs_met_L1 : Ef Fl :=
  sSeq (sExpr (eMut 5 1 fAppend (aCons (eTup (aCons (eOp2 fIx (eVar 4) (eVar 7)) (aCons (eOp2 fIx (eVar 4) (eOp2 fAdd (eVar 7) (rtn (.int 1)))) (rtn [])))) (rtn []))))
    (sIf (eB (eOp2 fNotIn (eVar 6) (eVar 3)))
    (sSet 4 (eCall 2 g_exchanged (aCons (eVar 4) (aCons (eVar 7) (rtn [])))))
    (rtn .nx))
noncomputable def b_pairs_met : Ef Fl :=
  sSeq (sSet 3 (eFn (fn1 fSetOf) (aCons (eVar 2) (rtn []))))
    (sSeq (sPar 4 5 false true (eCall 1 g_turned_row (aCons (eVar 0) (rtn []))) (eLst (rtn [])))
    (sSeq (sFor (eEnum (eVar 1)) (gTupD 2 (gsCons (setV 6) (gsCons (setV 7) (gsNil))))
    (b_pairs_met_L1))
    (sRet (eVar 5))))
noncomputable def g_pairs_met : Ef D := runB 8 b_pairs_met
noncomputable def b_partners_L1 : Ef Fl :=
  sIf (eB (eOp2 fNotIn (eVar 6) (eVar 3)))
    (sAsg (eVar 6) (gPut 5 fPut (eFn (fn1 fTuple) (aCons (eFn (fn1 fSortedX) (aCons (eVar 7) (rtn []))) (rtn [])))))
    (rtn .nx)
noncomputable def b_partners_K2 : Ef D :=
  eVar 6
noncomputable def b_partners_E3 : Ef D :=
  eGet1S 5 (eFn (fn1 fTuple) (aCons (eFn (fn1 fSortedX) (aCons (eOp2 fIx (eVar 4) (eVar 6)) (rtn []))) (rtn [])))
noncomputable def b_partners : Ef Fl :=
  sSeq (sSet 3 (eFn (fn1 fSetOf) (aCons (eVar 2) (rtn []))))
    (sSeq (sPar 4 5 false true (eCall 3 g_pairs_met (aCons (eVar 0) (aCons (eVar 1) (aCons (eVar 2) (rtn []))))) (eDct0 true))
    (sSeq (sFor (eEnum (eVar 4)) (gTupD 2 (gsCons (setV 6) (gsCons (setV 7) (gsNil))))
    (b_partners_L1))
    (sRet (eDc (eIter (eVar 2)) (setV 6) (rtn true) (b_partners_K2) (b_partners_E3) [6]))))
noncomputable def g_partners : Ef D := runB 8 b_partners
noncomputable def b_rising_T1 : Ef Bool :=
  tAndF (eB (eOp2 fIsNot (eOp2 fIx (eVar 3) (eVar 4)) (rtn .non))) (eB (eOp2 fGt (eOp2 fIx (eVar 3) (eVar 4)) (eVar 4)))
noncomputable def b_rising_E2 : Ef D :=
  eVar 4
noncomputable def b_rising : Ef Fl :=
  sSeq (sSet 3 (eCall 3 g_partners (aCons (eVar 0) (aCons (eVar 1) (aCons (eVar 2) (rtn []))))))
    (sRet (eFn (fn1 fTuple) (aCons (eLc (eIter (eVar 2)) (setV 4) (b_rising_T1) (b_rising_E2) [4]) (rtn []))))
noncomputable def g_rising : Ef D := runB 5 b_rising
noncomputable def b_is_within_E1 : Ef D :=
  eOp2 fIn (eVar 2) (eVar 1)
noncomputable def b_is_within : Ef Fl :=
  sRet (eFn (fn1 fAll) (aCons (eLc (eIter (eVar 0)) (setV 2) (rtn true) (b_is_within_E1) [2]) (rtn [])))
noncomputable def g_is_within : Ef D := runB 3 b_is_within
noncomputable def b_common_L1 : Ef Fl :=
  sPar 0 1 false false (eVar 1) (eOp2 fMod (eVar 0) (eVar 1))
noncomputable def b_common_W2 : Ef Bool :=
  eB (eOp2 fGt (eVar 1) (rtn (.int 0)))
noncomputable def b_common : Ef Fl :=
  sSeq (sWhile (b_common_W2)
    (b_common_L1))
    (sRet (eVar 0))
noncomputable def g_common : Ef D := runB 2 b_common
noncomputable def b_share_v2 : Ef Fl :=
  sSeq (sSet 2 (eCall 2 g_common (aCons (eFn (fn1 fAbs) (aCons (eVar 0) (rtn []))) (aCons (eVar 1) (rtn [])))))
    (sRet (eTup (aCons (eOp2 fDivW (eVar 0) (eVar 2)) (aCons (eOp2 fDivW (eVar 1) (eVar 2)) (rtn [])))))
noncomputable def g_share_v2 : Ef D := runB 3 b_share_v2
noncomputable def b_is_chance_v2_E1 : Ef D :=
  eCall 1 g_is_integer (aCons (eVar 1) (rtn []))
noncomputable def b_is_chance_v2 : Ef Fl :=
  sSeq (sIf (tOrF (tNotF (eTru (eFn (fn2 fIsi) (aCons (eVar 0) (aCons (rtn (.ty "tuple")) (rtn [])))))) (tOrF (eB (eOp2 fNe (eFn (fn1 fLen) (aCons (eVar 0) (rtn []))) (rtn (.int 2)))) (tNotF (eTru (eFn (fn1 fAll) (aCons (eLc (eIter (eVar 0)) (setV 1) (rtn true) (b_is_chance_v2_E1) [1]) (rtn [])))))))
    (sRet (rtn (.bl false)))
    (rtn .nx))
    (sRet (eAnd (eCall 3 g_is_from (aCons (eOp2 fIx (eVar 0) (rtn (.int 1))) (aCons (rtn (.int 1)) (aCons (rtn (.int 1000000)) (rtn []))))) (eAnd (eChain fLe fLe (rtn (.int 0)) (eOp2 fIx (eVar 0) (rtn (.int 0))) (eOp2 fIx (eVar 0) (rtn (.int 1)))) (eOp2 fEq (eCall 2 g_share_v2 (aCons (eOp2 fIx (eVar 0) (rtn (.int 0))) (aCons (eOp2 fIx (eVar 0) (rtn (.int 1))) (rtn [])))) (eVar 0)))))
noncomputable def g_is_chance_v2 : Ef D := runB 2 b_is_chance_v2
noncomputable def b_are_chances_v2_E1 : Ef D :=
  eCall 1 g_is_chance_v2 (aCons (eVar 2) (rtn []))
noncomputable def b_are_chances_v2 : Ef Fl :=
  sRet (eAnd (eFn (fn2 fIsi) (aCons (eVar 1) (aCons (rtn (.ty "tuple")) (rtn [])))) (eAnd (eOp2 fEq (eFn (fn1 fLen) (aCons (eVar 1) (rtn []))) (eVar 0)) (eFn (fn1 fAll) (aCons (eLc (eIter (eVar 1)) (setV 2) (rtn true) (b_are_chances_v2_E1) [2]) (rtn [])))))
noncomputable def g_are_chances_v2 : Ef D := runB 3 b_are_chances_v2
noncomputable def b_need_chances_v2 : Ef Fl :=
  sIf (tNotF (eTru (eCall 2 g_are_chances_v2 (aCons (eFn (fn1 fLen) (aCons (eVar 0) (rtn []))) (aCons (eVar 1) (rtn []))))))
    (stk)
    (rtn .nx)
noncomputable def g_need_chances_v2 : Ef D := runB 2 b_need_chances_v2
noncomputable def b_added_v2 : Ef Fl :=
  sRet (eCall 2 g_share_v2 (aCons (eOp2 fAdd (eOp2 fMulW (eOp2 fIx (eVar 0) (rtn (.int 0))) (eOp2 fIx (eVar 1) (rtn (.int 1)))) (eOp2 fMulW (eOp2 fIx (eVar 1) (rtn (.int 0))) (eOp2 fIx (eVar 0) (rtn (.int 1))))) (aCons (eOp2 fMulW (eOp2 fIx (eVar 0) (rtn (.int 1))) (eOp2 fIx (eVar 1) (rtn (.int 1)))) (rtn []))))
noncomputable def g_added_v2 : Ef D := runB 2 b_added_v2
noncomputable def b_times_v2 : Ef Fl :=
  sRet (eCall 2 g_share_v2 (aCons (eOp2 fMulW (eOp2 fIx (eVar 0) (rtn (.int 0))) (eOp2 fIx (eVar 1) (rtn (.int 0)))) (aCons (eOp2 fMulW (eOp2 fIx (eVar 0) (rtn (.int 1))) (eOp2 fIx (eVar 1) (rtn (.int 1)))) (rtn []))))
noncomputable def g_times_v2 : Ef D := runB 2 b_times_v2
noncomputable def b_lacking_share_v2 : Ef Fl :=
  sRet (eCall 2 g_share_v2 (aCons (eOp2 fSub (eOp2 fIx (eVar 0) (rtn (.int 1))) (eOp2 fIx (eVar 0) (rtn (.int 0)))) (aCons (eOp2 fIx (eVar 0) (rtn (.int 1))) (rtn []))))
noncomputable def g_lacking_share_v2 : Ef D := runB 1 b_lacking_share_v2
noncomputable def b_share_of_lot_v2_L1 : Ef Fl :=
  sSet 5 (eCall 2 g_times_v2 (aCons (eVar 5) (aCons (eOp2 fIx (eVar 3) (eVar 4)) (rtn []))))
noncomputable def b_share_of_lot_v2_L2 : Ef Fl :=
  sIf (eB (eOp2 fNotIn (eVar 4) (eVar 6)))
    (sSet 5 (eCall 2 g_times_v2 (aCons (eVar 5) (aCons (eCall 1 g_lacking_share_v2 (aCons (eOp2 fIx (eVar 3) (eVar 4)) (rtn []))) (rtn [])))))
    (rtn .nx)
noncomputable def b_share_of_lot_v2 : Ef Fl :=
  sSeq (sPar 5 6 false false (rtn (.ktp [.int 1, .int 1])) (eFn (fn1 fList) (aCons (eVar 2) (rtn []))))
    (sSeq (sFor (eIter (eCall 3 g_rising (aCons (eVar 0) (aCons (eVar 1) (aCons (eVar 2) (rtn [])))))) (setV 4)
    (b_share_of_lot_v2_L1))
    (sSeq (sFor (eRange1 (eFn (fn1 fLen) (aCons (eVar 1) (rtn [])))) (setV 4)
    (b_share_of_lot_v2_L2))
    (sRet (eVar 5))))
noncomputable def g_share_of_lot_v2 : Ef D := runB 7 b_share_of_lot_v2
noncomputable def b_sum_of_shares_v2_L1 : Ef Fl :=
  sSet 4 (eCall 2 g_added_v2 (aCons (eVar 4) (aCons (eCall 4 g_share_of_lot_v2 (aCons (eVar 0) (aCons (eVar 1) (aCons (eVar 5) (aCons (eVar 3) (rtn [])))))) (rtn []))))
noncomputable def b_sum_of_shares_v2 : Ef Fl :=
  sSeq (sSet 4 (rtn (.ktp [.int 0, .int 1])))
    (sSeq (sFor (eIter (eVar 2)) (setV 5)
    (b_sum_of_shares_v2_L1))
    (sRet (eVar 4)))
noncomputable def g_sum_of_shares_v2 : Ef D := runB 6 b_sum_of_shares_v2
noncomputable def b_worth_v2 : Ef Fl :=
  sSeq (sSet 5 (eCall 3 g_table_of (aCons (eVar 0) (aCons (eVar 1) (aCons (eVar 2) (rtn []))))))
    (sSeq (sExpr (eCall 2 g_need_chances_v2 (aCons (eVar 1) (aCons (eVar 3) (rtn [])))))
    (sSeq (sIf (tNotF (eTru (eCall 3 g_is_from (aCons (eVar 4) (aCons (rtn (.int 0)) (aCons (eOp2 fSub (eFn (fn1 fLen) (aCons (eVar 1) (rtn []))) (rtn (.int 1))) (rtn [])))))))
    (stk)
    (rtn .nx))
    (sSeq (sExpr (eCall 1 g_need_few_1 (aCons (eVar 5) (rtn []))))
    (sSeq (sSet 6 (eMeth0 (CA.at "Table") "lots" g_Table_lots (eVar 5)))
    (sSeq (sSet 7 (eCall 4 g_sum_of_shares_v2 (aCons (eVar 0) (aCons (eVar 1) (aCons (eVar 6) (aCons (eTup (aStar (eSl (eVar 3) (eNoP) (eP (eVar 4))) (aCons (rtn (.ktp [.int 0, .int 1])) (aStar (eSl (eVar 3) (eP (eOp2 fAdd (eVar 4) (rtn (.int 1)))) (eNoP)) (rtn []))))) (rtn [])))))))
    (sSeq (sSet 8 (eCall 4 g_sum_of_shares_v2 (aCons (eVar 0) (aCons (eVar 1) (aCons (eVar 6) (aCons (eTup (aStar (eSl (eVar 3) (eNoP) (eP (eVar 4))) (aCons (rtn (.ktp [.int 1, .int 1])) (aStar (eSl (eVar 3) (eP (eOp2 fAdd (eVar 4) (rtn (.int 1)))) (eNoP)) (rtn []))))) (rtn [])))))))
    (sRet (eCall 2 g_added_v2 (aCons (eVar 7) (aCons (eTup (aCons (eOp1 fNeg (eOp2 fIx (eVar 8) (rtn (.int 0)))) (aCons (eOp2 fIx (eVar 8) (rtn (.int 1))) (rtn [])))) (rtn [])))))))))))
noncomputable def g_worth_v2 : Ef D := runB 9 b_worth_v2
noncomputable def b_chance_v2 : Ef Fl :=
  sSeq (sSet 4 (eCall 3 g_table_of (aCons (eVar 0) (aCons (eVar 1) (aCons (eVar 2) (rtn []))))))
    (sSeq (sExpr (eCall 2 g_need_chances_v2 (aCons (eVar 1) (aCons (eVar 3) (rtn [])))))
    (sSeq (sExpr (eCall 1 g_need_few_1 (aCons (eVar 4) (rtn []))))
    (sRet (eCall 4 g_sum_of_shares_v2 (aCons (eVar 0) (aCons (eVar 1) (aCons (eMeth0 (CA.at "Table") "lots" g_Table_lots (eVar 4)) (aCons (eVar 3) (rtn [])))))))))
noncomputable def g_chance_v2 : Ef D := runB 5 b_chance_v2
noncomputable def b_chance_numbers_v2_L1 : Ef Fl :=
  sAugL 8 (fun i j => i - j) (eOp2 fAdd (eVar 9) (rtn (.int 1))) (eVar 10)
noncomputable def b_chance_numbers_v2_L2 : Ef Fl :=
  sSeq (sSetN 8 (eOp2 fAddL (eVar 6) (eLst (aCons (rtn (.int 0)) (rtn [])))))
    (sSeq (sFor (eEnum (eVar 6)) (gTupD 2 (gsCons (setV 9) (gsCons (setV 10) (gsNil))))
    (b_chance_numbers_v2_L1))
    (sSet 6 (eVar 8)))
noncomputable def b_chance_numbers_v2_L3 : Ef Fl :=
  sAugL 4 (fun i j => i + j) (eVar 9) (eVar 10)
noncomputable def b_chance_numbers_v2_L4 : Ef Fl :=
  sSeq (sSet 6 (eOp2 fAdd (eOp2 fMul (eLst (aCons (rtn (.int 0)) (rtn []))) (eFn (fn1 fLen) (aCons (eCall 3 g_rising (aCons (eVar 0) (aCons (eVar 1) (aCons (eVar 5) (rtn []))))) (rtn [])))) (eLst (aCons (rtn (.int 1)) (rtn [])))))
    (sSeq (sFor (eRange1 (eOp2 fSub (eFn (fn1 fLen) (aCons (eVar 1) (rtn []))) (eFn (fn1 fLen) (aCons (eVar 5) (rtn []))))) (setV 7)
    (b_chance_numbers_v2_L2))
    (sFor (eEnum (eVar 6)) (gTupD 2 (gsCons (setV 9) (gsCons (setV 10) (gsNil))))
    (b_chance_numbers_v2_L3)))
noncomputable def b_chance_numbers_v2_L5 : Ef Fl :=
  sExpr (eMut0 4 1 fPop0)
noncomputable def b_chance_numbers_v2_W6 : Ef Bool :=
  tAndF (eB (eOpL fNe 4 (eLst (rtn [])))) (eB (eOp2 fEq (eIxS 4 (eOp1 fNeg (rtn (.int 1)))) (rtn (.int 0))))
noncomputable def b_chance_numbers_v2 : Ef Fl :=
  sSeq (sSet 3 (eCall 3 g_table_of (aCons (eVar 0) (aCons (eVar 1) (aCons (eVar 2) (rtn []))))))
    (sSeq (sExpr (eCall 1 g_need_few_1 (aCons (eVar 3) (rtn []))))
    (sSeq (sSetN 4 (eOp2 fMulL (eLst (aCons (rtn (.int 0)) (rtn []))) (eOp2 fAdd (eFn (fn1 fLen) (aCons (eVar 1) (rtn []))) (rtn (.int 1)))))
    (sSeq (sFor (eIter (eMeth0 (CA.at "Table") "lots" g_Table_lots (eVar 3))) (setV 5)
    (b_chance_numbers_v2_L4))
    (sSeq (sWhile (b_chance_numbers_v2_W6)
    (b_chance_numbers_v2_L5))
    (sRet (eFn (fn1 fTuple) (aCons (eVar 4) (rtn []))))))))
noncomputable def g_chance_numbers_v2 : Ef D := runB 11 b_chance_numbers_v2
noncomputable def b_least_meeting_v2_T1 : Ef Bool :=
  eB (eOp2 fNotIn (eVar 7) (eVar 3))
noncomputable def b_least_meeting_v2_E2 : Ef D :=
  eVar 7
noncomputable def b_least_meeting_v2_T3 : Ef Bool :=
  tNotF (eTru (eCall 2 g_is_within (aCons (eVar 6) (aCons (eVar 3) (rtn [])))))
noncomputable def b_least_meeting_v2_K4 : Ef D :=
  eVar 6
noncomputable def b_least_meeting_v2_E5 : Ef D :=
  rtn (.bl true)
noncomputable def b_least_meeting_v2_L6 : Ef Fl :=
  sAsg (rtn (.bl true)) (gPut 5 fPut (eFn (fn1 fTuple) (aCons (eFn (fn1 fSortedX) (aCons (eTup (aStar (eVar 6) (aCons (eVar 7) (rtn [])))) (rtn []))) (rtn []))))
noncomputable def b_least_meeting_v2_L7 : Ef Fl :=
  sIf (eTru (eCall 2 g_is_within (aCons (eVar 6) (aCons (eVar 3) (rtn [])))))
    (sFor (eIter (eVar 4)) (setV 7)
    (b_least_meeting_v2_L6))
    (rtn .nx)
noncomputable def b_least_meeting_v2_E8 : Ef D :=
  eAnd (eOp2 fNe (eVar 8) (eVar 6)) (eCall 2 g_is_within (aCons (eVar 8) (aCons (eVar 6) (rtn []))))
noncomputable def b_least_meeting_v2_T9 : Ef Bool :=
  tNotF (eTru (eFn (fn1 fAny) (aCons (eLc (eKeys (eVar 5)) (setV 8) (rtn true) (b_least_meeting_v2_E8) [8]) (rtn []))))
noncomputable def b_least_meeting_v2_E10 : Ef D :=
  eVar 6
noncomputable def b_least_meeting_v2_L11 : Ef Fl :=
  sSeq (sSetN 4 (eLc (eRange1 (eVar 1)) (setV 7) (b_least_meeting_v2_T1) (b_least_meeting_v2_E2) [7]))
    (sSeq (sSetN 5 (eDcT (eIter (eVar 2)) (setV 6) (b_least_meeting_v2_T3) (b_least_meeting_v2_K4) (b_least_meeting_v2_E5) [6]))
    (sSeq (sFor (eIter (eVar 2)) (setV 6)
    (b_least_meeting_v2_L7))
    (sSetN 2 (eLc (eKeys (eVar 5)) (setV 6) (b_least_meeting_v2_T9) (b_least_meeting_v2_E10) [6]))))
noncomputable def b_least_meeting_v2 : Ef Fl :=
  sSeq (sSet 2 (eLst (aCons (eTup (rtn [])) (rtn []))))
    (sSeq (sFor (eIter (eVar 0)) (setV 3)
    (b_least_meeting_v2_L11))
    (sRet (eVar 2)))
noncomputable def g_least_meeting_v2 : Ef D := runB 9 b_least_meeting_v2
noncomputable def b_harms_of_v2_Y1 : Ef D :=
  eTup (aCons (eFn (fn1 fLen) (aCons (eVar 0) (rtn []))) (aCons (eVar 0) (rtn [])))
noncomputable def b_harms_of_v2 : Ef Fl :=
  sSeq (sSet 3 (eCall 3 g_table_of (aCons (eVar 0) (aCons (eVar 1) (aCons (eVar 2) (rtn []))))))
    (sSeq (sExpr (eCall 2 g_need_few (aCons (eVar 3) (aCons (rtn (.int 500)) (rtn [])))))
    (sRet (eSortKey (eCall 2 g_least_meeting_v2 (aCons (eMeth0 (CA.at "Table") "lots" g_Table_lots (eVar 3)) (aCons (eFn (fn1 fLen) (aCons (eVar 1) (rtn []))) (rtn [])))) 1 [] (b_harms_of_v2_Y1))))
noncomputable def g_harms_of_v2 : Ef D := runB 4 b_harms_of_v2
noncomputable def b_sturdy_v2 : Ef Fl :=
  sSeq (sSet 3 (eCall 3 g_harms_of_v2 (aCons (eVar 0) (aCons (eVar 1) (aCons (eVar 2) (rtn []))))))
    (sRet (eIf (eB (eOp2 fEq (eVar 3) (eLst (rtn [])))) (eFn (fn1 fLen) (aCons (eVar 1) (rtn []))) (eOp2 fSub (eFn (fn1 fLen) (aCons (eOp2 fIx (eVar 3) (rtn (.int 0))) (rtn []))) (rtn (.int 1)))))
noncomputable def g_sturdy_v2 : Ef D := runB 4 b_sturdy_v2
noncomputable def b_least_harms_v2 : Ef Fl :=
  sRet (eFn (fn1 fTuple) (aCons (eCall 3 g_harms_of_v2 (aCons (eVar 0) (aCons (eVar 1) (aCons (eVar 2) (rtn []))))) (rtn [])))
noncomputable def g_least_harms_v2 : Ef D := runB 3 b_least_harms_v2
noncomputable def b_need_chances_v3 : Ef Fl :=
  sIf (tNotF (eTru (eCall 2 g_are_chances_v2 (aCons (eFn (fn1 fLen) (aCons (eVar 0) (rtn []))) (aCons (eVar 1) (rtn []))))))
    (sRaise (CA.at "BadChances"))
    (rtn .nx)
noncomputable def g_need_chances_v3 : Ef D := runB 2 b_need_chances_v3
noncomputable def b_chance_v3 : Ef Fl :=
  sSeq (sSet 4 (eCall 3 g_table_of_v3 (aCons (eVar 0) (aCons (eVar 1) (aCons (eVar 2) (rtn []))))))
    (sSeq (sExpr (eCall 2 g_need_chances_v3 (aCons (eVar 1) (aCons (eVar 3) (rtn [])))))
    (sSeq (sExpr (eCall 1 g_need_few_v2_1 (aCons (eVar 4) (rtn []))))
    (sRet (eCall 4 g_sum_of_shares_v2 (aCons (eVar 0) (aCons (eVar 1) (aCons (eMeth0 (CA.at "Table") "lots" g_Table_lots (eVar 4)) (aCons (eVar 3) (rtn [])))))))))
noncomputable def g_chance_v3 : Ef D := runB 5 b_chance_v3
noncomputable def b_chance_numbers_v3_L1 : Ef Fl :=
  sAugL 8 (fun i j => i - j) (eOp2 fAdd (eVar 9) (rtn (.int 1))) (eVar 10)
noncomputable def b_chance_numbers_v3_L2 : Ef Fl :=
  sSeq (sSetN 8 (eOp2 fAddL (eVar 6) (eLst (aCons (rtn (.int 0)) (rtn [])))))
    (sSeq (sFor (eEnum (eVar 6)) (gTupD 2 (gsCons (setV 9) (gsCons (setV 10) (gsNil))))
    (b_chance_numbers_v3_L1))
    (sSet 6 (eVar 8)))
noncomputable def b_chance_numbers_v3_L3 : Ef Fl :=
  sAugL 4 (fun i j => i + j) (eVar 9) (eVar 10)
noncomputable def b_chance_numbers_v3_L4 : Ef Fl :=
  sSeq (sSet 6 (eOp2 fAdd (eOp2 fMul (eLst (aCons (rtn (.int 0)) (rtn []))) (eFn (fn1 fLen) (aCons (eCall 3 g_rising (aCons (eVar 0) (aCons (eVar 1) (aCons (eVar 5) (rtn []))))) (rtn [])))) (eLst (aCons (rtn (.int 1)) (rtn [])))))
    (sSeq (sFor (eRange1 (eOp2 fSub (eFn (fn1 fLen) (aCons (eVar 1) (rtn []))) (eFn (fn1 fLen) (aCons (eVar 5) (rtn []))))) (setV 7)
    (b_chance_numbers_v3_L2))
    (sFor (eEnum (eVar 6)) (gTupD 2 (gsCons (setV 9) (gsCons (setV 10) (gsNil))))
    (b_chance_numbers_v3_L3)))
noncomputable def b_chance_numbers_v3_L5 : Ef Fl :=
  sExpr (eMut0 4 1 fPop0)
noncomputable def b_chance_numbers_v3_W6 : Ef Bool :=
  tAndF (eB (eOpL fNe 4 (eLst (rtn [])))) (eB (eOp2 fEq (eIxS 4 (eOp1 fNeg (rtn (.int 1)))) (rtn (.int 0))))
noncomputable def b_chance_numbers_v3 : Ef Fl :=
  sSeq (sSet 3 (eCall 3 g_table_of_v3 (aCons (eVar 0) (aCons (eVar 1) (aCons (eVar 2) (rtn []))))))
    (sSeq (sExpr (eCall 1 g_need_few_v2_1 (aCons (eVar 3) (rtn []))))
    (sSeq (sSetN 4 (eOp2 fMulL (eLst (aCons (rtn (.int 0)) (rtn []))) (eOp2 fAdd (eFn (fn1 fLen) (aCons (eVar 1) (rtn []))) (rtn (.int 1)))))
    (sSeq (sFor (eIter (eMeth0 (CA.at "Table") "lots" g_Table_lots (eVar 3))) (setV 5)
    (b_chance_numbers_v3_L4))
    (sSeq (sWhile (b_chance_numbers_v3_W6)
    (b_chance_numbers_v3_L5))
    (sRet (eFn (fn1 fTuple) (aCons (eVar 4) (rtn []))))))))
noncomputable def g_chance_numbers_v3 : Ef D := runB 11 b_chance_numbers_v3
noncomputable def b_worth_v3 : Ef Fl :=
  sSeq (sSet 5 (eCall 3 g_table_of_v3 (aCons (eVar 0) (aCons (eVar 1) (aCons (eVar 2) (rtn []))))))
    (sSeq (sExpr (eCall 2 g_need_chances_v3 (aCons (eVar 1) (aCons (eVar 3) (rtn [])))))
    (sSeq (sIf (tNotF (eTru (eCall 3 g_is_from (aCons (eVar 4) (aCons (rtn (.int 0)) (aCons (eOp2 fSub (eFn (fn1 fLen) (aCons (eVar 1) (rtn []))) (rtn (.int 1))) (rtn [])))))))
    (sRaise (CA.at "BadPlace"))
    (rtn .nx))
    (sSeq (sExpr (eCall 1 g_need_few_v2_1 (aCons (eVar 5) (rtn []))))
    (sSeq (sSet 6 (eMeth0 (CA.at "Table") "lots" g_Table_lots (eVar 5)))
    (sSeq (sSet 7 (eCall 4 g_sum_of_shares_v2 (aCons (eVar 0) (aCons (eVar 1) (aCons (eVar 6) (aCons (eTup (aStar (eSl (eVar 3) (eNoP) (eP (eVar 4))) (aCons (rtn (.ktp [.int 0, .int 1])) (aStar (eSl (eVar 3) (eP (eOp2 fAdd (eVar 4) (rtn (.int 1)))) (eNoP)) (rtn []))))) (rtn [])))))))
    (sSeq (sSet 8 (eCall 4 g_sum_of_shares_v2 (aCons (eVar 0) (aCons (eVar 1) (aCons (eVar 6) (aCons (eTup (aStar (eSl (eVar 3) (eNoP) (eP (eVar 4))) (aCons (rtn (.ktp [.int 1, .int 1])) (aStar (eSl (eVar 3) (eP (eOp2 fAdd (eVar 4) (rtn (.int 1)))) (eNoP)) (rtn []))))) (rtn [])))))))
    (sRet (eCall 2 g_added_v2 (aCons (eVar 7) (aCons (eTup (aCons (eOp1 fNeg (eOp2 fIx (eVar 8) (rtn (.int 0)))) (aCons (eOp2 fIx (eVar 8) (rtn (.int 1))) (rtn [])))) (rtn [])))))))))))
noncomputable def g_worth_v3 : Ef D := runB 9 b_worth_v3
noncomputable def b_harms_of_v4_Y1 : Ef D :=
  eTup (aCons (eFn (fn1 fLen) (aCons (eVar 0) (rtn []))) (aCons (eVar 0) (rtn [])))
noncomputable def b_harms_of_v4 : Ef Fl :=
  sSeq (sSet 3 (eCall 3 g_table_of_v3 (aCons (eVar 0) (aCons (eVar 1) (aCons (eVar 2) (rtn []))))))
    (sSeq (sExpr (eCall 2 g_need_few_v2 (aCons (eVar 3) (aCons (rtn (.int 500)) (rtn [])))))
    (sRet (eSortKey (eCall 2 g_least_meeting_v2 (aCons (eMeth0 (CA.at "Table") "lots" g_Table_lots (eVar 3)) (aCons (eFn (fn1 fLen) (aCons (eVar 1) (rtn []))) (rtn [])))) 1 [] (b_harms_of_v4_Y1))))
noncomputable def g_harms_of_v4 : Ef D := runB 4 b_harms_of_v4
noncomputable def b_least_harms_v4 : Ef Fl :=
  sRet (eFn (fn1 fTuple) (aCons (eCall 3 g_harms_of_v4 (aCons (eVar 0) (aCons (eVar 1) (aCons (eVar 2) (rtn []))))) (rtn [])))
noncomputable def g_least_harms_v4 : Ef D := runB 3 b_least_harms_v4
noncomputable def b_sturdy_v4 : Ef Fl :=
  sSeq (sSet 3 (eCall 3 g_harms_of_v4 (aCons (eVar 0) (aCons (eVar 1) (aCons (eVar 2) (rtn []))))))
    (sRet (eIf (eB (eOp2 fEq (eVar 3) (eLst (rtn [])))) (eFn (fn1 fLen) (aCons (eVar 1) (rtn []))) (eOp2 fSub (eFn (fn1 fLen) (aCons (eOp2 fIx (eVar 3) (rtn (.int 0))) (rtn []))) (rtn (.int 1)))))
noncomputable def g_sturdy_v4 : Ef D := runB 4 b_sturdy_v4
noncomputable def cl_d_law_error_v6 : List ClV :=
  [(none, mOf [("BadCards", true), ("BadGoal", false), ("BadRow", false), ("BadWord", false), ("TooMany", false)], fun _ => some (.str "BadCards")),
   (none, mOf [("BadWord", true), ("BadCards", false), ("BadGoal", false), ("BadRow", false), ("TooMany", false)], fun _ => some (.str "BadWord")),
   (none, mOf [("BadGoal", true), ("BadCards", false), ("BadRow", false), ("BadWord", false), ("TooMany", false)], fun _ => some (.str "BadGoal")),
   (none, mOf [("BadRow", true), ("BadCards", false), ("BadGoal", false), ("BadWord", false), ("TooMany", false)], fun _ => some (.str "BadRow")),
   (some 1, mOf [("TooMany", true), ("BadCards", false), ("BadGoal", false), ("BadRow", false), ("BadWord", false)], tupF "most" "TooMany"),
   (none, mOf [("BadCards", true), ("BadGoal", true), ("BadRow", true), ("BadWord", true), ("TooMany", true)], fun _ => some (.str "other"))]
noncomputable def b_law_Y1 : Ef D :=
  eCall 2 g_least_word_v4 (aCons (eVar 3) (aCons (rtn .non) (rtn [])))
noncomputable def b_law_Y2 : Ef D :=
  eCall 2 g_sorts_all_v2 (aCons (eVar 3) (aCons (rtn .non) (rtn [])))
noncomputable def b_law_Y3 : Ef D :=
  eCall 3 g_are_alike_v2 (aCons (eVar 3) (aCons (rtn .non) (aCons (rtn .non) (rtn []))))
noncomputable def b_law_Y4 : Ef D :=
  eCall 2 g_end_v2 (aCons (eVar 3) (aCons (rtn .non) (rtn [])))
noncomputable def b_law_Y5 : Ef D :=
  eCall 3 g_scattered_v2 (aCons (eVar 3) (aCons (rtn .non) (aCons (rtn .non) (rtn []))))
noncomputable def b_law_Y6 : Ef D :=
  eCall 2 g_lacking_v3 (aCons (eVar 3) (aCons (rtn .non) (rtn [])))
noncomputable def b_law_T7 : Ef Bool :=
  eB (eOp2 fNe (eErrV 6 [b_law_Y1, b_law_Y2, b_law_Y3, b_law_Y4, b_law_Y5, b_law_Y6] cl_d_law_error_v6 "") (rtn (.str "BadCards")))
noncomputable def b_law_E8 : Ef D :=
  eVar 6
noncomputable def b_law_L9 : Ef Fl :=
  sSeq (sSet 4 (eLst (aCons (eClo 3) (aCons (eClo 2) (aCons (eClo 1) (aCons (eClo 0) (rtn [])))))))
    (sIf (eB (eOp2 fNe (eLc (eIter (eOp2 fAdd (eVar 4) (eLst (aCons (eClo 5) (aCons (eClo 4) (rtn [])))))) (setV 6) (b_law_T7) (b_law_E8) [6]) (eLst (rtn []))))
    (sRet (rtn (.bl false)))
    (rtn .nx))
noncomputable def b_law_Y10 : Ef D :=
  eCall 2 g_least_word_v4 (aCons (eVar 2) (aCons (eVar 3) (rtn [])))
noncomputable def b_law_Y11 : Ef D :=
  eCall 2 g_sorts_all_v2 (aCons (eVar 2) (aCons (eVar 3) (rtn [])))
noncomputable def b_law_Y12 : Ef D :=
  eCall 3 g_are_alike_v2 (aCons (eVar 2) (aCons (eVar 3) (aCons (rtn .non) (rtn []))))
noncomputable def b_law_Y13 : Ef D :=
  eCall 2 g_end_v2 (aCons (eVar 2) (aCons (eVar 3) (rtn [])))
noncomputable def b_law_Y14 : Ef D :=
  eCall 3 g_are_alike_v2 (aCons (eVar 2) (aCons (eTup (aCons (rtn (.int 0)) (rtn []))) (aCons (eVar 3) (rtn []))))
noncomputable def b_law_Y15 : Ef D :=
  eCall 3 g_scattered_v2 (aCons (eVar 2) (aCons (eVar 3) (aCons (rtn .non) (rtn []))))
noncomputable def b_law_Y16 : Ef D :=
  eCall 2 g_lacking_v3 (aCons (eVar 2) (aCons (eVar 3) (rtn [])))
noncomputable def b_law_T17 : Ef Bool :=
  eB (eOp2 fNe (eErrV 6 [b_law_Y1, b_law_Y2, b_law_Y3, b_law_Y4, b_law_Y5, b_law_Y6, b_law_Y10, b_law_Y11, b_law_Y12, b_law_Y13, b_law_Y14, b_law_Y15, b_law_Y16] cl_d_law_error_v6 "") (rtn (.str "BadWord")))
noncomputable def b_law_E18 : Ef D :=
  eVar 6
noncomputable def b_law_Y19 : Ef D :=
  eCall 3 g_scattered_v2 (aCons (eVar 2) (aCons (eTup (aCons (rtn (.int 0)) (rtn []))) (aCons (eCallR 2 g__law_pick 1 (aCons (eVar 5) (rtn []))) (rtn []))))
noncomputable def b_law_Y20 : Ef D :=
  eCall 1 g_all_words_v2 (aCons (eVar 3) (rtn []))
noncomputable def b_law_Y21 : Ef D :=
  eCall 1 g_count_words_v2 (aCons (eVar 3) (rtn []))
noncomputable def b_law_Y22 : Ef D :=
  eCall 1 g_all_words_v2 (aCons (eTup (aCons (rtn (.int 0)) (aCons (rtn (.int 1)) (aCons (rtn (.int 2)) (aCons (rtn (.int 3)) (aCons (rtn (.int 4)) (rtn []))))))) (rtn []))
noncomputable def b_law_Y23 : Ef D :=
  eCall 1 g_all_words_v2 (aCons (eTup (aCons (rtn (.int 0)) (aCons (rtn (.int 1)) (aCons (rtn (.int 2)) (aCons (rtn (.int 3)) (aCons (rtn (.int 4)) (aCons (rtn (.int 5)) (rtn [])))))))) (rtn []))
noncomputable def b_law_E24 : Ef D :=
  eCall 1 g_count_words_v2 (aCons (eTupR (eRg1 (eVar 7))) (rtn []))
noncomputable def b_law_R12 : Ef Fl :=
  sRet (eAnd (eOp2 fEq (eLc (eRange2 (rtn (.int 1)) (rtn (.int 7))) (setV 7) (rtn true) (b_law_E24) [7]) (eLst (aCons (rtn (.int 1)) (aCons (rtn (.int 1)) (aCons (rtn (.int 2)) (aCons (rtn (.int 16)) (aCons (rtn (.int 768)) (aCons (rtn (.int 292864)) (rtn []))))))))) (eOp2 fEq (eCall 2 g_end_v2 (aCons (rtn (.int 1)) (aCons (eTup (rtn [])) (rtn [])))) (eTup (aCons (rtn (.int 0)) (rtn [])))))
noncomputable def b_law_R11 : Ef Fl :=
  sSeq (sIf (eB (eOp2 fNe (eLst (aCons (eErr (b_law_Y23) cl_d_law_error_v6 "") (aCons (eErr (b_law_Y22) cl_d_law_error_v6 "") (rtn [])))) (eLst (aCons (eTup (aCons (rtn (.str "TooMany")) (aCons (rtn (.int 5000)) (rtn [])))) (aCons (rtn (.str "")) (rtn []))))))
    (sRet (rtn (.bl false)))
    (rtn .nx))
    (b_law_R12)
noncomputable def b_law_R10 : Ef Fl :=
  sSeq (sIf (eB (eOp2 fNe (eLst (aCons (eErr (b_law_Y21) cl_d_law_error_v6 "") (aCons (eErr (b_law_Y20) cl_d_law_error_v6 "") (rtn [])))) (eOp2 fMul (eLst (aCons (rtn (.str "BadRow")) (rtn []))) (rtn (.int 2)))))
    (sRet (rtn (.bl false)))
    (rtn .nx))
    (b_law_R11)
noncomputable def b_law_R9 : Ef Fl :=
  sSeq (sSet 3 (eCallR 2 g__law_pick 1 (aCons (eLst (aCons (rtn .non) (aCons (eTup (rtn [])) (aCons (eLst (aCons (rtn (.int 0)) (aCons (rtn (.int 1)) (rtn [])))) (aCons (eTup (aCons (rtn (.int 1)) (aCons (rtn (.int 2)) (rtn [])))) (aCons (eTup (aCons (rtn (.int 0)) (aCons (rtn (.int 0)) (rtn [])))) (aCons (eTup (aCons (rtn (.int 0)) (aCons (rtn (.bl true)) (rtn [])))) (aCons (rtn (.str "01")) (aCons (rtn (.int 3)) (aCons (eDct0 false) (aCons (eTup (aCons (rtn (.int 0)) (aCons (rtn (.int 1)) (aCons (rtn (.int 2)) (aCons (rtn (.int 3)) (aCons (rtn (.int 4)) (aCons (rtn (.int 5)) (aCons (rtn (.int 6)) (aCons (rtn (.int 7)) (rtn [])))))))))) (rtn [])))))))))))) (rtn []))))
    (b_law_R10)
noncomputable def b_law_R8 : Ef Fl :=
  sSeq (sIf (eB (eOp2 fNe (eErr (b_law_Y19) cl_d_law_error_v6 "") (rtn (.str "BadGoal"))))
    (sRet (rtn (.bl false)))
    (rtn .nx))
    (b_law_R9)
noncomputable def b_law_R7 : Ef Fl :=
  sSeq (sSet 5 (eLst (aCons (rtn .non) (aCons (eTup (rtn [])) (aCons (eTupR (eRg1 (eOp2 fAdd (eVar 2) (rtn (.int 1))))) (aCons (eTupR (eRg1 (eOp2 fSub (eVar 2) (rtn (.int 1))))) (aCons (eLstR (eRg1 (eVar 2))) (aCons (eOp2 fMulT (eTup (aCons (rtn (.int 0)) (rtn []))) (eVar 2)) (aCons (eOp2 fAdd (eTup (aCons (rtn (.bl true)) (rtn []))) (eTupR (eRg2 (rtn (.int 1)) (eVar 2)))) (aCons (rtn (.str "01")) (aCons (rtn (.int 3)) (aCons (eDct0 false) (rtn [])))))))))))))
    (b_law_R8)
noncomputable def b_law_R6 : Ef Fl :=
  sSeq (sIf (eB (eOp2 fNe (eLc (eIter (eVar 4)) (setV 6) (b_law_T17) (b_law_E18) [6]) (eLst (rtn []))))
    (sRet (rtn (.bl false)))
    (rtn .nx))
    (b_law_R7)
noncomputable def b_law_R5 : Ef Fl :=
  sSeq (sSet 4 (eOp2 fAdd (eVar 4) (eLst (aCons (eClo 12) (aCons (eClo 11) (aCons (eClo 10) (rtn [])))))))
    (b_law_R6)
noncomputable def b_law_R4 : Ef Fl :=
  sSeq (sSet 4 (eLst (aCons (eClo 9) (aCons (eClo 8) (aCons (eClo 7) (aCons (eClo 6) (rtn [])))))))
    (b_law_R5)
noncomputable def b_law_R3 : Ef Fl :=
  sSeq (sSet 3 (eCallR 2 g__law_pick 1 (aCons (eLst (aCons (rtn .non) (aCons (eLst (aCons (rtn (.int 0)) (rtn []))) (aCons (eTup (aCons (eOp2 fSub (eVar 2) (rtn (.int 1))) (rtn []))) (aCons (eTup (aCons (eOp2 fSub (rtn (.int 0)) (rtn (.int 1))) (rtn []))) (aCons (eTup (aCons (rtn (.bl true)) (rtn []))) (aCons (eTup (aCons (rtn (.str "0")) (rtn []))) (aCons (eOp2 fMulT (eTup (aCons (rtn (.int 0)) (rtn []))) (rtn (.int 201))) (aCons (rtn (.int 3)) (aCons (rtn (.str "0")) (aCons (eDct0 false) (rtn [])))))))))))) (rtn []))))
    (b_law_R4)
noncomputable def b_law_R2 : Ef Fl :=
  sSeq (sFor (eIter (eLst (aCons (rtn .non) (aCons (rtn (.int 0)) (aCons (rtn (.int 8)) (aCons (eOp2 fSub (rtn (.int 0)) (rtn (.int 1))) (aCons (rtn (.bl true)) (aCons (rtn (.str "3")) (aCons (eTup (aCons (rtn (.int 3)) (rtn []))) (rtn [])))))))))) (setV 3)
    (b_law_L9))
    (b_law_R3)
noncomputable def b_law_R1 : Ef Fl :=
  sSeq (sSet 2 (eOp2 fAdd (rtn (.int 2)) (eCallR 2 g__law_taken 1 (aCons (rtn (.int 5)) (rtn [])))))
    (b_law_R2)
noncomputable def b_law : Ef Fl :=
  sSeq (sSetN 1 (eLst (aCons (eVar 0) (aCons (rtn (.int 0)) (aCons (rtn (.int 7109)) (aCons (rtn (.int 0)) (rtn [])))))))
    (b_law_R1)
noncomputable def g_law : Ef D := runB 8 b_law
end CLSD
/-! ### draws -/
structure Dr (ns : List Int) (st : D) : Prop where
  ex : ∃ i m k : Int, st = .lst [.scr ns, .int i, .int m, .int k] ∧ 0 ≤ i ∧ 0 ≤ m ∧ m < 2147483648 ∧ 0 ≤ k
theorem taken_ok {ns : List Int} {st : D} {many : Int} (h : Dr ns st) (h1 : 1 ≤ many) (h2 : many < 1000000000) : ∃ v st', 0 ≤ v ∧ v < many ∧ Dr ns st' ∧ ValR g__law_taken st [.int many] (.int v) st' := by
  obtain ⟨i, m, k, rfl, hi, hm, hm2, hk⟩ := h.ex
  have p0 : 0 < many := by omega
  have p1 : many < 1073741824 := by omega
  by_cases c1 : 0 < k
  · refine ⟨k % many, .lst [.scr ns, .int i, .int m, .int (k / many)], Int.emod_nonneg _ (by omega), Int.emod_lt_of_pos _ p0, ⟨i, m, k / many, rfl, hi, hm, hm2, Int.ediv_nonneg hk (by omega)⟩, ValR.run ?_⟩
    simp [b__law_taken, c1, p0, p1]
  · have e1 : (m * 48271 + 11) % 2147483647 < 2147483647 := Int.emod_lt_of_pos _ (by decide)
    have e0 : 0 ≤ (m * 48271 + 11) % 2147483647 := Int.emod_nonneg _ (by decide)
    have m64 : m.natAbs < 2 ^ 64 := by omega
    by_cases c2 : (ns.length : Int) < i + 1
    · refine ⟨(m * 48271 + 11) % 2147483647 / 7 % many, .lst [.scr ns, .int (i + 1), .int ((m * 48271 + 11) % 2147483647), .int k], Int.emod_nonneg _ (by omega), Int.emod_lt_of_pos _ p0, ⟨i + 1, (m * 48271 + 11) % 2147483647, k, rfl, by omega, e0, by omega, hk⟩, ValR.run ?_⟩
      simp [b__law_taken, c1, p0, p1, c2]
    · have hi2 : i.toNat < ns.length := by omega
      have e2 : atI ns i = some ns[i.toNat] := by
        have e3 : ((i.toNat : Nat) : Int) = i := by omega
        have e4 := atI_nat' ns i.toNat
        rw [e3, List.getElem?_eq_getElem hi2] at e4
        exact e4
      have f1 : (m * 48271 + ns[i.toNat] + 11) % 2147483647 < 2147483647 := Int.emod_lt_of_pos _ (by decide)
      have f0 : 0 ≤ (m * 48271 + ns[i.toNat] + 11) % 2147483647 := Int.emod_nonneg _ (by decide)
      by_cases c3 : (1000000000000000000 : Int) ≤ ns[i.toNat]
      · refine ⟨ns[i.toNat] % many, .lst [.scr ns, .int (i + 1), .int ((m * 48271 + ns[i.toNat] + 11) % 2147483647), .int (ns[i.toNat] / many)], Int.emod_nonneg _ (by omega), Int.emod_lt_of_pos _ p0, ⟨i + 1, _, _, rfl, by omega, f0, by omega, Int.ediv_nonneg (by omega) (by omega)⟩, ValR.run ?_⟩
        simp [b__law_taken, c1, p0, p1, c2, e2, c3]
      · refine ⟨ns[i.toNat] % many, .lst [.scr ns, .int (i + 1), .int ((m * 48271 + ns[i.toNat] + 11) % 2147483647), .int k], Int.emod_nonneg _ (by omega), Int.emod_lt_of_pos _ p0, ⟨i + 1, _, _, rfl, by omega, f0, by omega, hk⟩, ValR.run ?_⟩
        simp [b__law_taken, c1, p0, p1, c2, e2, c3]

/-! ### alike -/
/-- a drawn number, as a natural one -/
theorem taken_nat {ns : List Int} {st : D} (many : Nat) (h : Dr ns st) (h1 : 1 ≤ many) (h2 : many < 1000000000) : ∃ (v : Nat) (st' : D), v < many ∧ Dr ns st' ∧ ValR g__law_taken st [.int (many : Int)] (.int (v : Int)) st' := by
  obtain ⟨v, st', a, b, c, d⟩ := taken_ok (many := (many : Int)) h (by omega) (by omega)
  obtain ⟨k, rfl⟩ := Int.eq_ofNat_of_zero_le a
  exact ⟨k, st', by omega, c, d⟩
@[simp] theorem tn_getElem (l : List Nat) (i : Nat) (h : i < (tn l).length) : (tn l)[i] = .int ((l[i]'(by simpa using h) : Nat) : Int) := by
  simp [tn]
/-- below -/
def Bel (n : Nat) (l : List Nat) : Prop := ∀ x ∈ l, x < n
/-- rising -/
def Ris (l : List Nat) : Prop := l.Pairwise (· < ·)
theorem is_integer_ok (v : Int) : Val g_is_integer [.int v] (.bl true) := Val.run (by simp [b_is_integer])
theorem is_from_ok (v a c : Int) : Val g_is_from [.int v, .int a, .int c] (.bl (decide (a ≤ v ∧ v ≤ c))) := by
  refine Val.run ?_
  have h := is_integer_ok v
  by_cases h1 : a ≤ v
  · simp [b_is_from, h.call, h1]
  · simp [b_is_from, h.call, h1]
theorem need_cards_ok (n : Nat) (h1 : 1 ≤ n) (h2 : n ≤ 7) : Val g_need_cards [.int (n : Int)] .non := by
  refine Val.run ?_
  have h := is_from_ok (n : Int) 1 7
  have e1 : (1 : Int) ≤ n ∧ (n : Int) ≤ 7 := by omega
  rw [decide_eq_true e1] at h
  simp [b_need_cards, h.call]
/-- a comprehension of tests that all hold -/
theorem toBls_true {α : Type} : ∀ l : List α, toBls (l.map fun _ => D.bl true) = some (l.map fun _ => true)
  | [] => rfl
  | _ :: l => by
    show (toBls (l.map fun _ => D.bl true)).map (true :: ·) = _
    rw [toBls_true l]; rfl
@[simp] theorem fAll_true {α : Type} (l : List α) : fAll (.lst (l.map fun _ => D.bl true)) = some (.bl true) := by
  unfold fAll
  dsimp only
  rw [toBls_true]
  simp
/-- a row of n cards -/
structure Row (n : Nat) (r : List Nat) : Prop where
  pm : r.Perm (List.range n)
theorem Row.len {n : Nat} {r : List Nat} (h : Row n r) : r.length = n := by simpa using h.pm.length_eq
theorem Row.bel {n : Nat} {r : List Nat} (h : Row n r) : Bel n r := fun x hx => by simpa using h.pm.mem_iff.mp hx
theorem Row.nd {n : Nat} {r : List Nat} (h : Row n r) : r.Nodup := h.pm.nodup_iff.mpr List.nodup_range
theorem is_row_of_ok {n : Nat} {r : List Nat} (h : Row n r) (hn : n ≤ 7) : Val g_is_row_of [.int (n : Int), .tup (tn r)] (.bl true) := by
  refine Val.run ?_
  have lc := lc_map (g := setV 2) (ft := rtn true) (fe := b_is_row_of_E1) (vs := [2]) (ds := tn r) (e := ⟨[.val (.int (n : Int)), .val (.tup (tn r)), .und], []⟩) (fun _ => true) (fun _ => .bl true) rfl (by simp [h.len]; omega) fun d hd => by
    obtain ⟨x, hx, rfl⟩ := mem_tn hd
    have hf := is_from_ok (x : Int) 0 ((n : Int) - 1)
    have := h.bel x hx
    rw [decide_eq_true (by omega)] at hf
    exact ⟨_, rfl, rfl, fun _ => by simp [b_is_row_of_E1, wipeS, hf.call], rfl, rfl⟩
  have hs := fSetOf_tn r (by rw [h.len]; omega)
  have hl := h.len
  have hd := ded_length h.nd
  have hb : (ded (r.map fun x : Nat => (x : Int))).length ≤ 16000000 := by rw [hd]; omega
  rw [List.filter_eq_self.mpr (fun _ _ => rfl)] at lc
  have hb2 : n ≤ 16000000 := by omega
  simp [b_is_row_of, lc, hs, setN, hl, hd, hb2]
theorem need_row_ok {n : Nat} {r : List Nat} (h : Row n r) (h1 : 1 ≤ n) (hn : n ≤ 7) : Val g_need_row [.tup (tn r)] .non := by
  refine Val.run ?_
  have hr := is_row_of_ok h hn
  have hl := h.len
  have e1 : (1 : Int) ≤ n := by omega
  have e2 : (n : Int) ≤ 7 := by omega
  simp [b_need_row, hl, e1, e2, hr.call]
theorem need_word_ok {n most : Nat} {w : List Nat} (h : Bel (n - 1) w) (hl : w.length ≤ most) (hm : most ≤ 100000) : Val g_need_word [.int (n : Int), .tup (tn w), .int (most : Int)] .non := by
  refine Val.run ?_
  have lc := lc_map (g := setV 3) (ft := rtn true) (fe := b_need_word_E1) (vs := [3]) (ds := tn w) (e := ⟨[.val (.int (n : Int)), .val (.tup (tn w)), .val (.int (most : Int)), .und], []⟩) (fun _ => true) (fun _ => .bl true) rfl (by simp; omega) fun d hd => by
    obtain ⟨x, hx, rfl⟩ := mem_tn hd
    have hf := is_from_ok (x : Int) 0 ((n : Int) - 2)
    have := h x hx
    rw [decide_eq_true (by omega)] at hf
    exact ⟨_, rfl, rfl, fun _ => by simp [b_need_word_E1, wipeS, hf.call], rfl, rfl⟩
  have e1 : ¬ (most : Int) < w.length := by omega
  rw [List.filter_eq_self.mpr (fun _ _ => rfl)] at lc
  simp [b_need_word, lc, e1]
theorem need_word_2_ok {n : Nat} {w : List Nat} (h : Bel (n - 1) w) (hl : w.length ≤ 200) : Val g_need_word_2 [.int (n : Int), .tup (tn w)] .non := need_word_ok (most := 200) h hl (by omega)
/-- a lot of so many places -/
structure Lot (size : Nat) (l : List Nat) : Prop where
  bel : Bel size l
  ris : Ris l
theorem Lot.len {size : Nat} {l : List Nat} (h : Lot size l) : l.length ≤ size := by
  have := nodup_le (as := l.map fun x : Nat => (x : Int)) (bs := (List.range size).map fun x : Nat => (x : Int)) ?_ ?_
  · simpa using this
  · rw [List.nodup_iff_pairwise_ne, List.pairwise_map]
    exact h.ris.imp fun a => by omega
  · intro x hx
    obtain ⟨y, hy, rfl⟩ := List.mem_map.mp hx
    exact List.mem_map.mpr ⟨y, List.mem_range.mpr (h.bel y hy), rfl⟩
/-! ### what a deed does -/
def exch (r : List Nat) (d : Nat) : List Nat := r.take d ++ [r.getD (d + 1) 0, r.getD d 0] ++ r.drop (d + 2)
def doneP (r : List Nat) (d : Nat) : List Nat := if r.getD (d + 1) 0 < r.getD d 0 then exch r d else r
def runP (lot : List Nat) : Nat → List Nat → List Nat → List Nat
  | _, r, [] => r
  | p, r, d :: w => runP lot (p + 1) (if p ∈ lot then r else doneP r d) w
theorem exch_length {r : List Nat} {d : Nat} (h : d + 1 < r.length) : (exch r d).length = r.length := by
  simp [exch]; omega
theorem doneP_length {r : List Nat} {d : Nat} (h : d + 1 < r.length) : (doneP r d).length = r.length := by
  unfold doneP
  split
  · exact exch_length h
  · rfl
theorem at_tn (l : List Nat) {i : Nat} (h : i < l.length) : atI (tn l) (i : Int) = some (.int ((l.getD i 0 : Nat) : Int)) := by
  rw [atI_nat', tn_get, List.getElem?_eq_getElem h, List.getD_eq_getElem?_getD, List.getElem?_eq_getElem h]; rfl
theorem exch_core {r : List Nat} {d : Nat} (h : d + 1 < r.length) (hb : r.length ≤ 1000) : ∃ e, b_exchanged ⟨[.val (.tup (tn r)), .val (.int (d : Int))], []⟩ = .ok (.rt (.tup (tn (exch r d)))) e := by
  have e1 := at_tn r (i := d) (by omega)
  have e2 := at_tn r (i := d + 1) h
  rw [show ((d + 1 : Nat) : Int) = (d : Int) + 1 by omega] at e2
  have e3 : cutD (tn r) none (some (d : Int)) = tn (r.take d) := by rw [cutD_to, tn_take]
  have e4 : cutD (tn r) (some ((d : Int) + 2)) none = tn (r.drop (d + 2)) := by
    rw [show (d : Int) + 2 = ((d + 2 : Nat) : Int) by omega, cutD_from, tn_drop]
  have e5 : tn (exch r d) = tn (r.take d) ++ D.int ((r.getD (d + 1) 0 : Nat) : Int) :: D.int ((r.getD d 0 : Nat) : Int) :: tn (r.drop (d + 2)) := by
    unfold exch
    rw [tn_append, tn_append, List.append_assoc]; rfl
  have b1 : min d r.length + 2 ≤ 16000000 := by omega
  have b2 : min d r.length + (r.length - (d + 2) + 2) ≤ 16000000 := by omega
  have b3 : min d r.length + 2 + (r.length - (d + 2)) ≤ 16000000 := by omega
  simp [b_exchanged, e1, e2, e3, e4, e5, b1, b2, b3]
theorem exchanged_ok {r : List Nat} {d : Nat} (h : d + 1 < r.length) (hb : r.length ≤ 1000) : Val g_exchanged [.tup (tn r), .int (d : Int)] (.tup (tn (exch r d))) := by
  obtain ⟨e, he⟩ := exch_core h hb
  exact Val.run ⟨e, .inl he⟩
theorem done_ok {r : List Nat} {d : Nat} (h : d + 1 < r.length) (hb : r.length ≤ 1000) : Val g_done [.tup (tn r), .int (d : Int)] (.tup (tn (doneP r d))) := by
  refine Val.run ?_
  have e1 := at_tn r (i := d) (by omega)
  have e2 := at_tn r (i := d + 1) h
  rw [show ((d + 1 : Nat) : Int) = (d : Int) + 1 by omega] at e2
  have hx := exchanged_ok h hb
  unfold doneP
  by_cases c : r.getD (d + 1) 0 < r.getD d 0
  · have c' : ((r.getD (d + 1) 0 : Nat) : Int) < (r.getD d 0 : Nat) := by omega
    rw [if_pos c]
    simp only [List.getD_eq_getElem?_getD] at e1 e2 c c' ⊢
    simp [b_done, e1, e2, c, hx.call]
  · have c' : ¬ ((r.getD (d + 1) 0 : Nat) : Int) < (r.getD d 0 : Nat) := by omega
    rw [if_neg c]
    simp only [List.getD_eq_getElem?_getD] at e1 e2 c c' ⊢
    simp [b_done, e1, e2, c]

theorem enum_get {w : List Nat} {i : Nat} {d : D} (h : (enumL (tn w))[i]? = some d) : ∃ x, w[i]? = some x ∧ d = .tup [.int (i : Int), .int (x : Int)] := by
  unfold enumL at h
  rw [List.getElem?_map] at h
  have hi : i < w.length := by
    by_cases hi : i < w.length
    · exact hi
    · rw [List.getElem?_eq_none (by simp; omega)] at h; cases h
  rw [List.getElem?_range (by simpa using hi)] at h
  refine ⟨w[i], List.getElem?_eq_getElem hi, ?_⟩
  have := (Option.some.inj h).symm
  rw [this]
  show D.tup [D.int (i : Int), (tn w).getD i D.non] = _
  rw [List.getD_eq_getElem?_getD, tn_get, List.getElem?_eq_getElem hi]
  rfl
@[simp] theorem enum_length (w : List D) : (enumL w).length = w.length := by simp [enumL]
theorem runP_drop {lot r w : List Nat} {i x : Nat} (h : w[i]? = some x) : runP lot i r (w.drop i) = runP lot (i + 1) (if i ∈ lot then r else doneP r x) (w.drop (i + 1)) := by
  obtain ⟨hi, rfl⟩ := List.getElem?_eq_some_iff.mp h
  rw [List.drop_eq_getElem_cons hi]
  rfl
theorem run_left_ok {n : Nat} {r w lot : List Nat} (h : r.length = n) (hw : Bel (n - 1) w) (hn : n ≤ 1000) (hl : lot.length ≤ 1000) : Val g_run_left [.tup (tn r), .tup (tn w), .tup (tn lot)] (.tup (tn (runP lot 0 r w))) := by
  obtain ⟨e', h1, r', s4, s5, rfl, h2, h3⟩ := loopF_inv (g := gTupD 2 (gsCons (setV 4) (gsCons (setV 5) (gsNil)))) (body := b_run_left_L1) (fun i e => ∃ r' s4 s5, e = ⟨[.val (.tup (tn r')), .val (.tup (tn w)), .val (.tup (tn lot)), .val (setN lot), s4, s5], []⟩ ∧ r'.length = n ∧ runP lot i r' (w.drop i) = runP lot 0 r w)
    (enumL (tn w)) 0 ⟨[.val (.tup (tn r)), .val (.tup (tn w)), .val (.tup (tn lot)), .val (setN lot), .und, .und], []⟩ ⟨r, _, _, rfl, h, rfl⟩ fun i d e hd hp => by
      obtain ⟨r', s4, s5, rfl, h2, h3⟩ := hp
      rw [Nat.zero_add] at h3 ⊢
      obtain ⟨x, hx, rfl⟩ := enum_get hd
      have hb : x < n - 1 := hw x (List.mem_of_getElem? hx)
      rw [runP_drop hx] at h3
      by_cases c : i ∈ lot
      · rw [if_pos c] at h3
        refine ⟨⟨[.val (.tup (tn r')), .val (.tup (tn w)), .val (.tup (tn lot)), .val (setN lot), .val (.int (i : Int)), .val (.int (x : Int))], []⟩, ⟨[.val (.tup (tn r')), .val (.tup (tn w)), .val (.tup (tn lot)), .val (setN lot), .val (.int (i : Int)), .val (.int (x : Int))], []⟩, by simp, .inl ?_, r', .val (.int (i : Int)), .val (.int (x : Int)), rfl, h2, h3⟩
        simp [b_run_left_L1, c]
      · rw [if_neg c] at h3
        have hdn := done_ok (r := r') (d := x) (by omega) (by omega)
        refine ⟨⟨[.val (.tup (tn r')), .val (.tup (tn w)), .val (.tup (tn lot)), .val (setN lot), .val (.int (i : Int)), .val (.int (x : Int))], []⟩, ⟨[.val (.tup (tn (doneP r' x))), .val (.tup (tn w)), .val (.tup (tn lot)), .val (setN lot), .val (.int (i : Int)), .val (.int (x : Int))], []⟩, by simp, .inl ?_, doneP r' x, _, _, rfl, by rw [doneP_length (by omega), h2], h3⟩
        simp [b_run_left_L1, c, hdn.call]
  have e1 : w.drop (0 + (enumL (tn w)).length) = [] := by simp
  rw [e1] at h3
  have h3 : r' = runP lot 0 r w := h3
  subst h3
  refine Val.run ?_
  have hs := fSetOf_tn lot hl
  simp [b_run_left, hs, h1]
def turnP (n : Nat) : List Nat := (List.range n).map fun i => n - 1 - i
theorem turn_rg (n : Nat) : (rgI ((n : Int) - 1) n (-1)).map D.int = tn (turnP n) := by
  unfold rgI tn turnP
  rw [List.map_map, List.map_map]
  refine List.map_congr_left fun i hi => ?_
  have : i < n := by simpa using hi
  show D.int ((n : Int) - 1 + (i : Int) * -1) = D.int ((n - 1 - i : Nat) : Int)
  congr 1
  omega
theorem turned_row_ok {n : Nat} (hn : n ≤ 1000) : Val g_turned_row [.int (n : Int)] (.tup (tn (turnP n))) := by
  refine Val.run ?_
  have e1 := turn_rg n
  have s1 : smallI ((n : Int) - 1) = true := by unfold smallI; rw [decide_eq_true_eq]; omega
  have s2 : smallI (-1) = true := by decide
  have e2 : ((n : Int) - 1 - -1) = n := by omega
  have hb : (n : Int) ≤ 16000000 := by omega
  have hb2 : n ≤ 16000000 := by omega
  simp [b_turned_row, s1, s2, e1, hb, hb2]
/-! ### runs -/
theorem cut_two {r : List Nat} {d : Nat} (h : d + 1 < r.length) : r = r.take d ++ r.getD d 0 :: r.getD (d + 1) 0 :: r.drop (d + 2) := by
  have h1 : r.drop d = r.getD d 0 :: r.getD (d + 1) 0 :: r.drop (d + 2) := by
    rw [List.drop_eq_getElem_cons (by omega), List.drop_eq_getElem_cons (by omega), List.getD_eq_getElem?_getD, List.getElem?_eq_getElem (by omega), List.getD_eq_getElem?_getD, List.getElem?_eq_getElem h]
    rfl
  rw [← h1, List.take_append_drop]
theorem exch_perm {r : List Nat} {d : Nat} (h : d + 1 < r.length) : (exch r d).Perm r := by
  have e : exch r d = r.take d ++ r.getD (d + 1) 0 :: r.getD d 0 :: r.drop (d + 2) := by
    unfold exch
    rw [List.append_assoc]; rfl
  rw [e]
  refine List.Perm.trans ?_ (List.Perm.of_eq (cut_two h).symm)
  exact (List.Perm.swap _ _ _).append_left _
theorem Row.done {n : Nat} {r : List Nat} {d : Nat} (h : Row n r) (hd : d < n - 1) : Row n (doneP r d) := by
  unfold doneP
  split
  · exact ⟨(exch_perm (by rw [h.len]; omega)).trans h.pm⟩
  · exact h
theorem Row.run {n : Nat} {lot : List Nat} : ∀ {w r : List Nat} {p : Nat}, Row n r → Bel (n - 1) w → Row n (runP lot p r w)
  | [], _, _, h, _ => h
  | d :: w, r, p, h, hb => by
    unfold runP
    refine Row.run ?_ fun x hx => hb x (List.mem_cons_of_mem _ hx)
    split
    · exact h
    · exact h.done (hb d List.mem_cons_self)
theorem Row.range (n : Nat) : Row n (List.range n) := ⟨.refl _⟩
theorem Lot.nil (n : Nat) : Lot n [] := ⟨fun x hx => (by cases hx), .nil⟩

/-! ### deeds at places and at cards pass one another -/
theorem nd_at {r : List Nat} (h : r.Nodup) {i j x : Nat} (hi : r[i]? = some x) (hj : r[j]? = some x) : i = j := by
  obtain ⟨h1, e1⟩ := List.getElem?_eq_some_iff.mp hi
  obtain ⟨h2, e2⟩ := List.getElem?_eq_some_iff.mp hj
  exact (List.getElem_inj h).mp (e1.trans e2.symm)
/-- the two cards a, a + 1 changed -/
def sw (a x : Nat) : Nat := if x = a then a + 1 else if x = a + 1 then a else x
open Classical in
/-- the places d, d + 1 changed -/
def tw (d i : Nat) : Nat := if i = d then d + 1 else if i = d + 1 then d else i
theorem tw_tw (d i : Nat) : tw d (tw d i) = i := by unfold tw; grind
theorem exch_get {r : List Nat} {d i : Nat} (h : d + 1 < r.length) : (exch r d)[i]? = r[tw d i]? := by
  have hl := exch_length h
  have e1 : (r.take d).length = d := by rw [List.length_take]; omega
  by_cases hi : i < r.length
  · unfold exch
    by_cases c1 : i < d
    · rw [List.getElem?_append_left (by simp; omega), List.getElem?_append_left (by omega), List.getElem?_take_of_lt c1]
      unfold tw; rw [if_neg (by omega), if_neg (by omega)]
    · by_cases c2 : i = d
      · subst c2
        rw [List.getElem?_append_left (by simp; omega), List.getElem?_append_right (by omega), e1, Nat.sub_self]
        unfold tw; rw [if_pos rfl]
        show some (r.getD (i + 1) 0) = _
        rw [List.getD_eq_getElem?_getD, List.getElem?_eq_getElem h]; rfl
      · by_cases c3 : i = d + 1
        · subst c3
          rw [List.getElem?_append_left (by simp; omega), List.getElem?_append_right (by omega), e1, show d + 1 - d = 1 by omega]
          unfold tw; rw [if_neg (by omega), if_pos rfl]
          show some (r.getD d 0) = _
          rw [List.getD_eq_getElem?_getD, List.getElem?_eq_getElem (by omega)]; rfl
        · rw [List.getElem?_append_right (by simp; omega)]
          have e2 : (r.take d ++ [r.getD (d + 1) 0, r.getD d 0]).length = d + 2 := by simp; omega
          rw [e2, List.getElem?_drop, show d + 2 + (i - (d + 2)) = i by omega]
          unfold tw; rw [if_neg c2, if_neg c3]
  · rw [List.getElem?_eq_none (by omega)]
    unfold tw
    rw [if_neg (by omega), if_neg (by omega), List.getElem?_eq_none (by omega)]
theorem turn_length (n : Nat) : (turnP n).length = n := by simp [turnP]
theorem exch_exch {r : List Nat} {d : Nat} (h : d + 1 < r.length) : exch (exch r d) d = r := by
  apply List.ext_getElem?
  intro i
  rw [exch_get (by rw [exch_length h]; exact h), exch_get h, tw_tw]
theorem exch_getD {r : List Nat} {d : Nat} (h : d + 1 < r.length) : (exch r d).getD d 0 = r.getD (d + 1) 0 ∧ (exch r d).getD (d + 1) 0 = r.getD d 0 := by
  constructor
  · rw [List.getD_eq_getElem?_getD, exch_get h, List.getD_eq_getElem?_getD]
    unfold tw
    rw [if_pos rfl]
  · rw [List.getD_eq_getElem?_getD, exch_get h, List.getD_eq_getElem?_getD]
    unfold tw
    rw [if_neg (by omega), if_pos rfl]
theorem need_both_ok {n : Nat} {w : List Nat} (h1 : 1 ≤ n) (hn : n ≤ 7) (h : Bel (n - 1) w) (hl : w.length ≤ 200) : Val g_need_both [.int (n : Int), .tup (tn w)] .non := by
  refine Val.run ?_
  have a1 := need_cards_ok n h1 hn
  have a2 := need_word_2_ok h hl
  simp [b_need_both, a1.call, a2.call]
/-- the end of a word -/
def endP (n : Nat) (w : List Nat) : List Nat := runP [] 0 (turnP n) w
theorem end_of_ok {n : Nat} {w : List Nat} (hn : n ≤ 1000) (h : Bel (n - 1) w) : Val g_end_of [.int (n : Int), .tup (tn w)] (.tup (tn (endP n w))) := by
  refine Val.run ?_
  have a1 := turned_row_ok (n := n) hn
  have a2 := run_left_ok (lot := []) (turn_length n) h (by omega) (by simp)
  simp only [tn_nil] at a2
  simp [b_end_of, a1.call, a2.call, endP]
theorem end_ok {n : Nat} {w : List Nat} (h1 : 1 ≤ n) (hn : n ≤ 7) (h : Bel (n - 1) w) (hl : w.length ≤ 200) : Val g_end [.int (n : Int), .tup (tn w)] (.tup (tn (endP n w))) := by
  refine Val.run ?_
  have a1 := need_both_ok h1 hn h hl
  have a2 := end_of_ok (n := n) (by omega) h
  simp [b_end, a1.call, a2.call]
theorem range_tup (n : Nat) : (rgI 0 n 1).map D.int = tn (List.range n) := by simp [rgI, tn]
/-- all rows, by one card more each turn -/
def stepR (n : Nat) (c : List Nat) : List (List Nat) := ((List.range n).filter fun x => decide (x ∉ c)).map fun x => c ++ [x]
def rowsI (n : Nat) : Nat → List (List Nat)
  | 0 => [[]]
  | i + 1 => (rowsI n i).flatMap (stepR n)
theorem stepR_length (n : Nat) (c : List Nat) : (stepR n c).length ≤ n := by
  unfold stepR
  rw [List.length_map]
  have := List.length_filter_le (fun x => decide (x ∉ c)) (List.range n)
  simpa using this
theorem flat_length (n : Nat) : ∀ L : List (List Nat), (L.flatMap (stepR n)).length ≤ L.length * n
  | [] => by simp
  | c :: L => by
    rw [List.flatMap_cons, List.length_append, List.length_cons, Nat.add_mul, Nat.one_mul]
    have := flat_length n L
    have := stepR_length n c
    omega
theorem rowsI_length (n : Nat) : ∀ i, (rowsI n i).length ≤ n ^ i
  | 0 => by simp [rowsI]
  | i + 1 => by
    have h1 := flat_length n (rowsI n i)
    have h2 := Nat.mul_le_mul_right n (rowsI_length n i)
    rw [Nat.pow_succ]
    show ((rowsI n i).flatMap (stepR n)).length ≤ _
    omega
theorem mem_rowsI {n : Nat} : ∀ {i : Nat} {r : List Nat}, r ∈ rowsI n i ↔ r.length = i ∧ r.Nodup ∧ Bel n r
  | 0, r => by
    simp only [rowsI, List.mem_singleton]
    constructor
    · rintro rfl; exact ⟨rfl, List.nodup_nil, fun x hx => by cases hx⟩
    · rintro ⟨h, _⟩; exact List.eq_nil_of_length_eq_zero h
  | i + 1, r => by
    simp only [rowsI, List.mem_flatMap, stepR, List.mem_map, List.mem_filter, List.mem_range, decide_eq_true_eq]
    constructor
    · rintro ⟨c, hc, x, ⟨hx, hn⟩, rfl⟩
      obtain ⟨h1, h2, h3⟩ := mem_rowsI.mp hc
      refine ⟨by simp [h1], ?_, fun y hy => ?_⟩
      · rw [List.nodup_append]
        refine ⟨h2, by simp, fun a ha b hb => ?_⟩
        have : b = x := by simpa using hb
        rw [this]
        exact fun z => hn (z ▸ ha)
      · rcases List.mem_append.mp hy with hy | hy
        · exact h3 y hy
        · have : y = x := by simpa using hy
          omega
    · rintro ⟨h1, h2, h3⟩
      have hne : r ≠ [] := fun z => by subst z; simp at h1
      have e : r = r.dropLast ++ [r.getLast hne] := (List.dropLast_concat_getLast hne).symm
      rw [e] at h2
      rw [List.nodup_append] at h2
      refine ⟨r.dropLast, mem_rowsI.mpr ⟨by rw [List.length_dropLast]; omega, h2.1, fun x hx => h3 x (List.dropLast_subset r hx)⟩, r.getLast hne, ⟨h3 _ (List.getLast_mem hne), fun z => h2.2.2 _ z _ (by simp) rfl⟩, e.symm⟩
theorem nodup_leN {as bs : List Nat} (h1 : as.Nodup) (h2 : ∀ k, k ∈ as → k ∈ bs) : as.length ≤ bs.length := by
  have := nodup_le (as := as.map fun x : Nat => (x : Int)) (bs := bs.map fun x : Nat => (x : Int)) ?_ ?_
  · simpa using this
  · rw [List.nodup_iff_pairwise_ne] at h1 ⊢
    rw [List.pairwise_map]
    exact h1.imp fun a => by omega
  · intro x hx
    obtain ⟨y, hy, rfl⟩ := List.mem_map.mp hx
    exact List.mem_map.mpr ⟨y, h2 y hy, rfl⟩
theorem row_of {n : Nat} {r : List Nat} (h1 : r.length = n) (h2 : r.Nodup) (h3 : Bel n r) : Row n r := by
  refine ⟨(List.perm_ext_iff_of_nodup h2 List.nodup_range).mpr fun x => ⟨fun hx => List.mem_range.mpr (h3 x hx), fun hx => ?_⟩⟩
  apply Classical.byContradiction
  intro hn
  have := nodup_leN (as := x :: r) (bs := List.range n) (List.nodup_cons.mpr ⟨hn, h2⟩) fun k hk => by
    rcases List.mem_cons.mp hk with rfl | hk
    · exact hx
    · exact List.mem_range.mpr (h3 k hk)
  simp at this
  omega
theorem mem_rows {n : Nat} {r : List Nat} : r ∈ rowsI n n ↔ Row n r := ⟨fun h => let ⟨a, b, c⟩ := mem_rowsI.mp h; row_of a b c, fun h => mem_rowsI.mpr ⟨h.len, h.nd, h.bel⟩⟩
/-- the first state of the draws -/
theorem Dr.first (ns : List Int) (m : Int) (h0 : 0 ≤ m) (h1 : m < 2147483648) : Dr ns (.lst [.scr ns, .int 0, .int m, .int 0]) := ⟨0, m, 0, rfl, Int.le_refl _, h0, h1, Int.le_refl _⟩
theorem Bel.one {m x : Nat} (h : x < m) : Bel m [x] := fun y hy => by
  have : y = x := by simpa using hy
  omega

/-! ### lamps -/
@[simp] theorem fInt_bl (b : Bool) : fInt (.bl b) = some (.int (if b = true then 1 else 0)) := rfl
theorem pick_ok {ns : List Int} {st : D} (xs : List D) (h : Dr ns st) (h1 : 1 ≤ xs.length) (h2 : xs.length < 1000000) : ∃ (k : Nat) (hk : k < xs.length) (st' : D), Dr ns st' ∧ ValR g__law_pick st [.lst xs] xs[k] st' := by
  obtain ⟨k, st', hk, d, v⟩ := taken_nat xs.length h h1 (by omega)
  refine ⟨k, hk, st', d, ValR.run ?_⟩
  have g : atI xs (k : Int) = some xs[k] := by rw [atI_nat', List.getElem?_eq_getElem hk]
  simp [b__law_pick, v.call, g]
/-! ### sorted lamps -/
/-! ### counts: how many of the first i cards are below v -/
def cnt (r : List Nat) (i v : Nat) : Nat := (r.take i).countP fun x => decide (x < v)
/-- r is no less sorted than g -/
def Far (r g : List Nat) : Prop := ∀ i v, cnt g i v ≤ cnt r i v
theorem Far.trans {r g h : List Nat} (a : Far r g) (b : Far g h) : Far r h := fun i v => Nat.le_trans (b i v) (a i v)
/-! ### ways through a word: which deeds work -/
/-- each deed that works finds its cards out of order -/
def Path : List Nat → List Bool → List Nat → List Nat → Prop
  | [], [], r, g => r = g
  | d :: w, b :: f, r, g => if b = true then r.getD (d + 1) 0 < r.getD d 0 ∧ Path w f (exch r d) g else Path w f r g
  | _, _, _, _ => False
/-- what works in f works in b -/
def LeB : List Bool → List Bool → Prop
  | [], [] => True
  | x :: f, y :: b => (x = true → y = true) ∧ LeB f b
  | _, _ => False
theorem Path.len : ∀ {w : List Nat} {f : List Bool} {r g : List Nat}, Path w f r g → f.length = w.length
  | [], [], _, _, _ => rfl
  | d :: w, b :: f, r, g, h => by
    unfold Path at h
    split at h
    · simp [Path.len h.2]
    · simp [Path.len h]
  | [], _ :: _, _, _, h => h.elim
  | _ :: _, [], _, _, h => h.elim
theorem LeB.len : ∀ {f b : List Bool}, LeB f b → f.length = b.length
  | [], [], _ => rfl
  | x :: f, y :: b, h => by simp [LeB.len h.2]
  | [], _ :: _, h => h.elim
  | _ :: _, [], h => h.elim
theorem LeB.trans : ∀ {f g h : List Bool}, LeB f g → LeB g h → LeB f h
  | [], [], [], _, _ => trivial
  | _ :: _, _ :: _, _ :: _, a, b => ⟨fun z => b.1 (a.1 z), LeB.trans a.2 b.2⟩
  | [], [], _ :: _, _, b => b.elim
  | [], _ :: _, _, a, _ => a.elim
  | _ :: _, [], _, a, _ => a.elim
  | _ :: _, _ :: _, [], _, b => b.elim
theorem Row.exch {n : Nat} {r : List Nat} {d : Nat} (h : Row n r) (hd : d < n - 1) : Row n (LW.exch r d) := ⟨(exch_perm (by rw [h.len]; omega)).trans h.pm⟩
theorem row_ne {n : Nat} {r : List Nat} {d : Nat} (h : Row n r) (hd : d < n - 1) : r.getD d 0 ≠ r.getD (d + 1) 0 := fun z => by
  have l := h.len
  have g1 : r[d]? = some (r.getD d 0) := by rw [List.getD_eq_getElem?_getD, List.getElem?_eq_getElem (by omega)]; rfl
  have g2 : r[d + 1]? = some (r.getD (d + 1) 0) := by rw [List.getD_eq_getElem?_getD, List.getElem?_eq_getElem (by omega)]; rfl
  rw [← z] at g2
  have := nd_at h.nd g1 g2
  omega
/-! ### dicts whose keys are rows -/
section
variable {β : Type}
def look (A : List (List Nat × β)) (r : List Nat) : Option β := (A.find? fun p => decide (p.1 = r)).map (·.2)
def keysA (A : List (List Nat × β)) : List (List Nat) := A.map (·.1)
def putA (A : List (List Nat × β)) (r : List Nat) (v : β) : List (List Nat × β) := if r ∈ keysA A then A.map (fun p => if p.1 = r then (p.1, v) else p) else A ++ [(r, v)]
theorem look_cons (p : List Nat × β) (A : List (List Nat × β)) (r : List Nat) : look (p :: A) r = if p.1 = r then some p.2 else look A r := by
  unfold look
  rw [List.find?_cons]
  by_cases h : p.1 = r
  · rw [if_pos h]; simp [h]
  · rw [if_neg h]; simp [h]
theorem look_none {A : List (List Nat × β)} {r : List Nat} : look A r = none ↔ r ∉ keysA A := by
  induction A with
  | nil => simp [look, keysA]
  | cons p A ih =>
    rw [look_cons]
    unfold keysA at ih ⊢
    rw [List.map_cons, List.mem_cons, not_or]
    by_cases h : p.1 = r
    · rw [if_pos h]; simp [h]
    · rw [if_neg h, ih]; simp [h, Ne.symm h]
theorem look_mem {A : List (List Nat × β)} {r : List Nat} : (look A r).isSome = true ↔ r ∈ keysA A := by
  rw [← Option.not_isNone, Bool.not_eq_true', ← Bool.not_eq_true, Option.isNone_iff_eq_none, look_none, Classical.not_not]
theorem look_of {A : List (List Nat × β)} {r : List Nat} (h : r ∈ keysA A) : ∃ v, look A r = some v := by
  cases e : look A r with
  | none => exact absurd h (look_none.mp e)
  | some v => exact ⟨v, rfl⟩
theorem keys_put (A : List (List Nat × β)) (r : List Nat) (v : β) : keysA (putA A r v) = if r ∈ keysA A then keysA A else keysA A ++ [r] := by
  unfold putA
  split
  · unfold keysA
    rw [List.map_map]
    refine List.map_congr_left fun p _ => ?_
    show (if p.1 = r then (p.1, v) else p).1 = p.1
    split <;> rfl
  · unfold keysA
    rw [List.map_append]; rfl
theorem mem_put {A : List (List Nat × β)} {r r' : List Nat} {v : β} : r' ∈ keysA (putA A r v) ↔ r' ∈ keysA A ∨ r' = r := by
  rw [keys_put]
  split
  · rename_i h
    constructor
    · exact .inl
    · rintro (h' | rfl)
      · exact h'
      · exact h
  · rw [List.mem_append, List.mem_singleton]
theorem nd_put {A : List (List Nat × β)} {r : List Nat} {v : β} (h : (keysA A).Nodup) : (keysA (putA A r v)).Nodup := by
  rw [keys_put]
  split
  · exact h
  · rename_i hr
    exact List.nodup_append.mpr ⟨h, by simp, fun x hx y hy => by rw [List.mem_singleton.mp hy]; exact fun z => hr (z ▸ hx)⟩
def td (f : β → D) (A : List (List Nat × β)) : D := .dcT (A.map fun p => (.tup (tn p.1), f p.2))
def kr (r : List Nat) : List Key := r.map fun x : Nat => (Sum.inl (x : Int) : Key)
theorem keysM_tn (r : List Nat) : keysM (.tup (tn r)) = some (kr r) := by
  have : keyT (kr r) = .tup (tn r) := by
    unfold keyT kr tn
    rw [List.map_map]; rfl
  rw [← this, keysM_keyT]
theorem kr_inj {r s : List Nat} (h : kr r = kr s) : r = s := by
  unfold kr at h
  refine List.map_inj_right (f := fun x : Nat => (Sum.inl (x : Int) : Key)) (fun x y h => ?_) |>.mp h
  have : (x : Int) = y := Sum.inl.inj h
  omega
theorem valT_td (f : β → D) (A : List (List Nat × β)) (r : List Nat) : valT (A.map fun p => (D.tup (tn p.1), f p.2)) (.tup (tn r)) = (look A r).map f := by
  unfold valT
  rw [keysM_tn]
  dsimp only
  induction A with
  | nil => rfl
  | cons p A ih =>
    rw [List.map_cons, List.find?_cons, look_cons, keysM_tn]
    dsimp only
    by_cases h : p.1 = r
    · simp [h]
    · have : kr p.1 ≠ kr r := fun z => h (kr_inj z)
      simp only [this, decide_false, h, if_false]
      exact ih
@[simp] theorem get_td (f : β → D) (A : List (List Nat × β)) (r : List Nat) : fGetO (td f A) (.tup (tn r)) = some ((look A r).map f) := by
  unfold td fGetO
  dsimp only
  rw [keysM_tn, valT_td]; rfl
@[simp] theorem fIn_td (f : β → D) (A : List (List Nat × β)) (r : List Nat) : fIn (.tup (tn r)) (td f A) = some (.bl (decide (r ∈ keysA A))) := by
  have h := get_td f A r
  unfold td at h ⊢
  unfold fIn fInB
  dsimp only
  rw [h]
  simp only [Option.map_some, Option.isSome_map]
  congr 2
  rw [Bool.eq_iff_iff, look_mem, decide_eq_true_eq]
@[simp] theorem fNotIn_td (f : β → D) (A : List (List Nat × β)) (r : List Nat) : fNotIn (.tup (tn r)) (td f A) = some (.bl (!decide (r ∈ keysA A))) := by
  have h := get_td f A r
  unfold td at h ⊢
  unfold fNotIn fInB
  dsimp only
  rw [h]
  simp only [Option.map_some, Option.isSome_map]
  congr 3
  rw [Bool.eq_iff_iff, look_mem, decide_eq_true_eq]
@[simp] theorem fIx_td (f : β → D) (A : List (List Nat × β)) (r : List Nat) : fIx (td f A) (.tup (tn r)) = (look A r).map f := by
  have h := get_td f A r
  unfold td at h ⊢
  unfold fIx
  dsimp only
  rw [h]; rfl
theorem any_td (f : β → D) (A : List (List Nat × β)) (r : List Nat) : hasT (kr r) (A.map fun p => (D.tup (tn p.1), f p.2)) = decide (r ∈ keysA A) := by
  unfold hasT keysA
  rw [List.any_map, Bool.eq_iff_iff, List.any_eq_true, decide_eq_true_eq]
  constructor
  · rintro ⟨p, h1, h2⟩
    have h2 : keysM (.tup (tn p.1)) = some (kr r) := by simpa using h2
    rw [keysM_tn] at h2
    exact List.mem_map.mpr ⟨p, h1, kr_inj (Option.some.inj h2)⟩
  · intro h
    obtain ⟨p, h1, h2⟩ := List.mem_map.mp h
    refine ⟨p, h1, ?_⟩
    show decide (keysM (.tup (tn p.1)) = some (kr r)) = true
    rw [keysM_tn, h2, decide_eq_true_eq]
theorem fPut_td (f : β → D) (A : List (List Nat × β)) (r : List Nat) (v : β) (h : A.length < big) : fPut (td f A) (.tup (tn r)) (f v) = some (td f (putA A r v)) := by
  unfold td fPut
  dsimp only
  rw [keysM_tn]
  dsimp only
  rw [List.length_map, if_pos h]
  congr 2
  unfold putDT putA
  rw [any_td]
  by_cases c : r ∈ keysA A
  · rw [decide_eq_true c, if_pos rfl, if_pos c, List.map_map, List.map_map]
    refine List.map_congr_left fun p _ => ?_
    show (if keysM (.tup (tn p.1)) = some (kr r) then (D.tup (tn p.1), f v) else (D.tup (tn p.1), f p.2)) = (D.tup (tn (if p.1 = r then (p.1, v) else p).1), f (if p.1 = r then (p.1, v) else p).2)
    rw [keysM_tn]
    by_cases e : p.1 = r
    · rw [if_pos (by rw [e]), if_pos e]
    · rw [if_neg (fun z => e (kr_inj (Option.some.inj z))), if_neg e]
  · rw [decide_eq_false c, if_neg Bool.false_ne_true, if_neg c, List.map_append]
    have : keyT (kr r) = .tup (tn r) := by
      unfold keyT kr tn
      rw [List.map_map]; rfl
    rw [this]; rfl
@[simp] theorem getD2_td (f : β → D) (A : List (List Nat × β)) (r : List Nat) (x : D) : getD2 (td f A) (.tup (tn r)) x = some (((look A r).map f).getD x) := by unfold getD2; rw [get_td]; rfl
@[simp] theorem getD1_td (f : β → D) (A : List (List Nat × β)) (r : List Nat) : getD1 (td f A) (.tup (tn r)) = some (((look A r).map f).getD .non) := by unfold getD1; rw [get_td]; rfl
@[simp] theorem asDct_td (f : β → D) (A : List (List Nat × β)) (e : En) : asDct (td f A) e = .ok () e := rfl
@[simp] theorem keysD_td (f : β → D) (A : List (List Nat × β)) : keysD (td f A) = some (tl (keysA A)) := by
  unfold td keysD tl keysA
  simp only [List.map_map]; rfl
end

/-! ### the rows' hashes -/
def rowHash (r : List Nat) : Int := hashT (r.map fun x : Nat => (x : Int))
/-- all unlike, by their bits -/
def radix : Nat → List Nat → Bool
  | _, [] => true
  | _, [_] => true
  | 0, _ => false
  | k + 1, x :: y :: l => radix k ((x :: y :: l).filter fun z => z.testBit k) && radix k ((x :: y :: l).filter fun z => !z.testBit k)
def natHash (r : List Nat) : Nat := (rowHash r % 18446744073709551616).toNat
def hashOk (n : Nat) : Bool := radix 64 ((rowsI n n).map natHash)
/-- a dict over rows of n cards -/
structure DRow {β : Type} (n : Nat) (A : List (List Nat × β)) : Prop where
  nd : (keysA A).Nodup
  rw : ∀ r ∈ keysA A, Row n r
theorem DRow.put {β : Type} {n : Nat} {A : List (List Nat × β)} {r : List Nat} {v : β} (h : DRow n A) (hr : Row n r) : DRow n (putA A r v) :=
  ⟨nd_put h.nd, fun r' h' => by
    rcases mem_put.mp h' with h' | rfl
    · exact h.rw _ h'
    · exact hr⟩
theorem DRow.one {β : Type} {n : Nat} {r : List Nat} {v : β} (hr : Row n r) : DRow n [(r, v)] := ⟨by simp [keysA], fun r' h => by
  have e : r' = r := by simpa [keysA] using h
  rw [e]; exact hr⟩
theorem DRow.nil {β : Type} {n : Nat} : DRow n ([] : List (List Nat × β)) := ⟨by simp [keysA], fun r' h => by simp [keysA] at h⟩
theorem nodup_leG {α : Type} [DecidableEq α] : ∀ {as bs : List α}, as.Nodup → (∀ k, k ∈ as → k ∈ bs) → as.length ≤ bs.length
  | [], _, _, _ => Nat.zero_le _
  | a :: r, bs, ha, h => by
    obtain ⟨h1, h2⟩ := List.nodup_cons.mp ha
    have hm : a ∈ bs := h a List.mem_cons_self
    have h3 := nodup_leG (bs := bs.erase a) h2 fun k hk => (List.mem_erase_of_ne (fun e : k = a => h1 (e ▸ hk))).mpr (h k (List.mem_cons_of_mem _ hk))
    have h4 := List.length_erase_of_mem hm
    have h5 : 0 < bs.length := List.length_pos_of_mem hm
    rw [List.length_cons]
    omega
theorem DRow.small {β : Type} {n : Nat} {A : List (List Nat × β)} (h : DRow n A) (hn : n ≤ 7) : A.length ≤ 823543 := by
  have h1 : (keysA A).length ≤ (rowsI n n).length := nodup_leG h.nd fun r hr => mem_rows.mpr (h.rw r hr)
  have h2 := rowsI_length n n
  have h3 : n ^ n ≤ 823543 := by
    have h5 : n ^ n ≤ 7 ^ 7 := Nat.le_trans (Nat.pow_le_pow_left hn n) (Nat.pow_le_pow_right (by omega) hn)
    have h6 : (7 : Nat) ^ 7 = 823543 := by simp
    rw [h6] at h5
    exact h5
  have h4 : (keysA A).length = A.length := by simp [keysA]
  omega
/-! ### tuples compared -/
def ltN : List Nat → List Nat → Bool
  | [], [] => false
  | [], _ :: _ => true
  | _ :: _, [] => false
  | x :: l, y :: m => decide (x < y) || (decide (x = y) && ltN l m)
theorem ltN_trans : ∀ {a b c : List Nat}, ltN a b = true → ltN b c = true → ltN a c = true
  | [], [], _, h, _ => by cases h
  | [], _ :: _, [], _, h => by cases h
  | [], _ :: _, _ :: _, _, _ => rfl
  | _ :: _, [], _, h, _ => by cases h
  | _ :: _, _ :: _, [], _, h => by cases h
  | x :: a, y :: b, z :: c, h1, h2 => by
    unfold ltN at h1 h2 ⊢
    simp only [Bool.or_eq_true, Bool.and_eq_true, decide_eq_true_eq] at h1 h2 ⊢
    rcases h1 with h1 | ⟨h1, h1'⟩
    · rcases h2 with h2 | ⟨h2, _⟩
      · exact .inl (by omega)
      · exact .inl (by omega)
    · rcases h2 with h2 | ⟨h2, h2'⟩
      · exact .inl (by omega)
      · exact .inr ⟨by omega, ltN_trans h1' h2'⟩
theorem ltN_tot : ∀ {a b : List Nat}, ltN a b = false → ltN b a = false → a = b
  | [], [], _, _ => rfl
  | [], _ :: _, h, _ => by cases h
  | _ :: _, [], _, h => by cases h
  | x :: a, y :: b, h1, h2 => by
    unfold ltN at h1 h2
    simp only [Bool.or_eq_false_iff, Bool.and_eq_false_iff, decide_eq_false_iff_not] at h1 h2
    have e : x = y := by omega
    subst e
    have h1' : ltN a b = false := by rcases h1.2 with h | h; exact absurd rfl h; exact h
    have h2' : ltN b a = false := by rcases h2.2 with h | h; exact absurd rfl h; exact h
    rw [ltN_tot h1' h2']
theorem toks_lt : ∀ l m : List Nat, PyProof.Rows.lexLt PyProof.Rows.itemOrd (PySem.W.keyToksAll (l.map fun x : Nat => PyData.int (x : Int))) (PySem.W.keyToksAll (m.map fun x : Nat => PyData.int (x : Int))) = ltN l m
  | [], [] => by simp [PySem.W.keyToksAll, PyProof.Rows.lexLt, PyProof.Rows.itemLt, ltN]
  | [], y :: m => by simp [PySem.W.keyToksAll, PyProof.Rows.lexLt, PyProof.Rows.itemLt, ltN]
  | x :: l, [] => by simp [PySem.W.keyToksAll, PyProof.Rows.lexLt, PyProof.Rows.itemLt, ltN]
  | x :: l, y :: m => by
    have ih := toks_lt l m
    simp only [List.map_cons, PySem.W.keyToksAll, PySem.W.keyToks, List.singleton_append, PyProof.Rows.lexLt, PyProof.Rows.itemLt, ltN, ih]
    by_cases c1 : x < y
    · simp [c1]
    · by_cases c2 : x = y
      · subst c2; simp
      · have c3 : y < x := by omega
        simp [c1, c2, c3]
theorem dataLt_tn (l m : List Nat) : PySem.W.dataLt (py (.tup (tn l))) (py (.tup (tn m))) = ltN l m := by
  rw [← toks_lt l m]
  simp only [py, py_tn]
  rfl
theorem alike_tn (l m : List Nat) : PySem.W.alike (py (.tup (tn l))) (py (.tup (tn m))) = true := by
  simp only [py, py_tn, PySem.W.alike]
  have := PySem.W.alike_ints (l.map fun x : Nat => (x : Int)) (m.map fun x : Nat => (x : Int))
  rw [List.map_map, List.map_map] at this
  exact this
theorem minOk_tl (L : List (List Nat)) : minOk (tl L) = true := by
  unfold minOk
  rw [Bool.and_eq_true, Bool.and_eq_true]
  refine ⟨⟨?_, ?_⟩, ?_⟩
  · rw [List.all_eq_true]
    intro d hd
    obtain ⟨l, _, rfl⟩ := List.mem_map.mp hd
    exact okd_tn l
  · unfold alikeB
    rw [List.all_eq_true]
    intro d hd
    rw [List.all_eq_true]
    intro d' hd'
    obtain ⟨l, _, rfl⟩ := List.mem_map.mp hd
    obtain ⟨m, _, rfl⟩ := List.mem_map.mp hd'
    exact alike_tn l m
  · rw [List.all_eq_true]
    intro d hd
    obtain ⟨l, _, rfl⟩ := List.mem_map.mp hd
    rfl
/-! ### pairs out of order, counted -/
def ninv : List Nat → Nat
  | [] => 0
  | x :: r => r.countP (fun y => decide (y < x)) + ninv r
theorem ninv_exch : ∀ {r : List Nat} {d : Nat}, d + 1 < r.length → r.getD (d + 1) 0 < r.getD d 0 → ninv r = ninv (exch r d) + 1
  | [], d, h, _ => by simp at h
  | [_], d, h, _ => by simp at h
  | x :: y :: r, 0, h, hlt => by
    have hlt : y < x := by simpa using hlt
    have e : exch (x :: y :: r) 0 = y :: x :: r := by simp [exch]
    rw [e]
    unfold ninv
    unfold ninv
    rw [List.countP_cons, List.countP_cons, if_pos (by simpa using hlt), if_neg (by simp; omega)]
    omega
  | x :: y :: r, d + 1, h, hlt => by
    have h' : d + 1 < (y :: r).length := by simpa using h
    have e : exch (x :: y :: r) (d + 1) = x :: exch (y :: r) d := by simp [exch]
    have ih := ninv_exch h' (by simpa using hlt)
    rw [e]
    show (y :: r).countP (fun z => decide (z < x)) + ninv (y :: r) = (exch (y :: r) d).countP (fun z => decide (z < x)) + ninv (exch (y :: r) d) + 1
    rw [(exch_perm h').countP_eq, ih]
    omega
/-- how many deeds work -/
def cntT (f : List Bool) : Nat := f.countP id
theorem path_ninv {n : Nat} : ∀ {w : List Nat} {f : List Bool} {r g : List Nat}, r.length = n → Bel (n - 1) w → Path w f r g → ninv r = ninv g + cntT f
  | [], [], r, g, _, _, p => by have p : r = g := p; subst p; rfl
  | d :: w, b :: f, r, g, hl, hb, p => by
    have hd : d < n - 1 := hb d List.mem_cons_self
    unfold Path at p
    by_cases c : b = true
    · rw [if_pos c] at p
      have := path_ninv (by rw [exch_length (by omega), hl]) (fun x hx => hb x (List.mem_cons_of_mem _ hx)) p.2
      have e := ninv_exch (r := r) (d := d) (by omega) p.1
      unfold cntT at this ⊢
      rw [List.countP_cons, if_pos (by simpa using c)]
      omega
    · rw [if_neg c] at p
      have := path_ninv hl (fun x hx => hb x (List.mem_cons_of_mem _ hx)) p
      unfold cntT at this ⊢
      rw [List.countP_cons, if_neg (by simpa using c)]
      omega
  | [], _ :: _, _, _, _, _, p => p.elim
  | _ :: _, [], _, _, _, _, p => p.elim

/-! ### all ways through a word, those in which a deed works ahead of those in which it fails -/
def facs : List Nat → List Nat → List Nat → List (List Bool)
  | [], r, g => if r = g then [[]] else []
  | d :: w, r, g => (if r.getD (d + 1) 0 < r.getD d 0 then (facs w (exch r d) g).map (true :: ·) else []) ++ (facs w r g).map (false :: ·)
theorem mem_facs : ∀ {w : List Nat} {f : List Bool} {r g : List Nat}, f ∈ facs w r g ↔ Path w f r g
  | [], f, r, g => by
    unfold facs
    by_cases h : r = g
    · rw [if_pos h, List.mem_singleton]
      cases f with
      | nil => exact ⟨fun _ => h, fun _ => rfl⟩
      | cons b f => exact ⟨fun z => (by cases z), fun z => z.elim⟩
    · rw [if_neg h]
      cases f with
      | nil => exact ⟨fun z => (by cases z), fun z => absurd z h⟩
      | cons b f => exact ⟨fun z => (by cases z), fun z => z.elim⟩
  | d :: w, [], r, g => by
    unfold facs
    rw [List.mem_append]
    constructor
    · rintro (h | h)
      · split at h
        · obtain ⟨_, _, z⟩ := List.mem_map.mp h; cases z
        · cases h
      · obtain ⟨_, _, z⟩ := List.mem_map.mp h; cases z
    · exact fun z => z.elim
  | d :: w, b :: f, r, g => by
    have i1 := mem_facs (w := w) (f := f) (r := exch r d) (g := g)
    have i2 := mem_facs (w := w) (f := f) (r := r) (g := g)
    unfold facs Path
    rw [List.mem_append]
    cases b with
    | true =>
      rw [if_pos rfl]
      constructor
      · rintro (h | h)
        · split at h
          · rename_i hd
            obtain ⟨f', h1, h2⟩ := List.mem_map.mp h
            cases h2
            exact ⟨hd, i1.mp h1⟩
          · cases h
        · obtain ⟨_, _, z⟩ := List.mem_map.mp h; cases z
      · rintro ⟨h1, h2⟩
        rw [if_pos h1]
        exact .inl (List.mem_map.mpr ⟨f, i1.mpr h2, rfl⟩)
    | false =>
      rw [if_neg Bool.false_ne_true]
      constructor
      · rintro (h | h)
        · split at h
          · obtain ⟨_, _, z⟩ := List.mem_map.mp h; cases z
          · cases h
        · obtain ⟨f', h1, h2⟩ := List.mem_map.mp h
          cases h2
          exact i2.mp h1
      · exact fun h => .inr (List.mem_map.mpr ⟨f, i2.mpr h, rfl⟩)
/-- the first place where two differ: there a works -/
def Ahead : List Bool → List Bool → Prop
  | x :: a, y :: b => (x = true ∧ y = false) ∨ (x = y ∧ Ahead a b)
  | _, _ => False
theorem facs_ahead : ∀ (w r g : List Nat), (facs w r g).Pairwise Ahead
  | [], r, g => by
    unfold facs
    split
    · exact List.pairwise_singleton _ _
    · exact .nil
  | d :: w, r, g => by
    unfold facs
    refine List.pairwise_append.mpr ⟨?_, ?_, fun a ha b hb => ?_⟩
    · split
      · rw [List.pairwise_map]
        exact (facs_ahead w _ g).imp fun h => .inr ⟨rfl, h⟩
      · exact .nil
    · rw [List.pairwise_map]
      exact (facs_ahead w _ g).imp fun h => .inr ⟨rfl, h⟩
    · obtain ⟨b', _, rfl⟩ := List.mem_map.mp hb
      split at ha
      · obtain ⟨a', _, rfl⟩ := List.mem_map.mp ha
        exact .inl ⟨rfl, rfl⟩
      · cases ha
theorem tn_map (L : List Nat) : L.map (fun x : Nat => D.int (x : Int)) = tn L := rfl
/-! ### lacks -/
/-! ### drawn cases -/
theorem Bel.take {m : Nat} {l : List Nat} (h : Bel m l) (k : Nat) : Bel m (l.take k) := fun x hx => h x (List.mem_of_mem_take hx)
/-! ### all lots -/
/-! ### the places that work -/
/-! ### from which rows a goal can be reached -/
theorem tl_get' {L : List (List Nat)} {i : Nat} {d : D} (h : (tl L)[i]? = some d) : ∃ r, L[i]? = some r ∧ d = .tup (tn r) := by
  rw [tl_get] at h
  cases hx : L[i]? with
  | none => rw [hx] at h; cases h
  | some r => rw [hx] at h; cases h; exact ⟨r, rfl, rfl⟩
/-! ### lots as bits -/
@[simp] theorem fNe_tl_nil (L : List (List Nat)) : fNe (.lst (tl L)) (.lst []) = some (.bl (!decide (L = []))) := by
  have h := fEq_tl_nil L
  unfold fEq at h
  unfold fNe
  split at h
  · rename_i c
    rw [if_pos c]
    have := Option.some.inj h
    rw [D.bl.inj this]
  · cases h
/-! ### pairs (number, tuple) -/
/-! ### deeds that all exchange -/
/-! ### pairs out of order as the laws list them -/
def sortT (L : List (List Nat)) : List (List Nat) := L.mergeSort fun a b => !ltN b a
theorem fSortedI_tl {L : List (List Nat)} (h : L ≠ []) : fSortedI (.lst (tl L)) = none := by
  cases L with
  | nil => exact absurd rfl h
  | cons x L => rfl
theorem sortD_tl (L : List (List Nat)) : sortD (tl L) = tl (sortT L) := by
  unfold sortD sortT tl
  rw [List.map_mergeSort]
  intro a _ b _
  show (!ltN b a) = PySem.W.dataLe false py (.tup (tn a)) (.tup (tn b))
  have := dataLt_tn b a
  show (!ltN b a) = !PyProof.Rows.lexLt PyProof.Rows.itemOrd (PySem.W.keyToks (py (.tup (tn b)))) (PySem.W.keyToks (py (.tup (tn a))))
  rw [← this]; rfl
theorem fSortedX_tl {L : List (List Nat)} (h : L.length ≤ 1 ∨ ∀ l ∈ L, l ≠ []) : fSortedX (.lst (tl L)) = some (.lst (tl (sortT L))) := by
  by_cases e : L = []
  · subst e
    have e1 : sortT [] = [] := by simp [sortT]
    rw [e1]; rfl
  · have hk : sortOk (tl L) = true := by
      unfold sortOk
      rcases h with h | h
      · rw [tl_length, decide_eq_true h]; rfl
      · have h1 := minOk_tl L
        unfold minOk at h1
        rw [Bool.and_eq_true, Bool.and_eq_true] at h1
        rw [h1.1.1, h1.1.2]
        have : (tl L).all tupB = true := by
          rw [List.all_eq_true]
          intro d hd
          obtain ⟨l, hl, rfl⟩ := List.mem_map.mp hd
          cases l with
          | nil => exact absurd rfl (h _ hl)
          | cons x l => rfl
        rw [this]
        simp
    unfold fSortedX
    rw [fSortedI_tl e]
    show (if sortOk (tl L) = true then some (D.lst (sortD (tl L))) else none) = _
    rw [if_pos hk, sortD_tl]
/-! ### the cheapest way -/
/-! ### words of deeds over a row -/
def goP (r w : List Nat) : List Nat := runP [] 0 r w
def BestN (P : List Nat → Prop) : Option (List Nat) → Prop
  | some w => P w ∧ ∀ x, P x → ltN x w = false
  | none => ∀ x, ¬ P x
theorem ltN_neg {a b c : List Nat} (h1 : ltN a b = false) (h2 : ltN b c = false) : ltN a c = false := by
  cases e : ltN a c with
  | false => rfl
  | true =>
    by_cases e2 : ltN c b = true
    · have := ltN_trans e e2; rw [h1] at this; cases this
    · have := ltN_tot h2 (by simpa using e2)
      subst this
      rw [h1] at e; cases e
/-- a better set with the same least -/
theorem BestN.sub {P Q : List Nat → Prop} {o : Option (List Nat)} (h : BestN P o) (h1 : ∀ x, P x → Q x) (h2 : ∀ x, Q x → ∃ y, P y ∧ ltN x y = false) : BestN Q o := by
  cases o with
  | none => exact fun x hx => let ⟨y, hy, _⟩ := h2 x hx; h y hy
  | some w => exact ⟨h1 _ h.1, fun x hx => let ⟨y, hy, l⟩ := h2 x hx; ltN_neg l (h.2 y hy)⟩
/-! ### every word of a length -/
/-- the words of a length, to a row -/
def WP (n L : Nat) (left r x : List Nat) : Prop := x.length = L ∧ Bel (n - 1) x ∧ goP left x = r
structure HL (n L : Nat) (left : List Nat) (A : List (List Nat × List Nat)) : Prop where
  d : DRow n A
  b : ∀ r, BestN (WP n L left r) (look A r)
theorem HL.len {n L : Nat} {left : List Nat} {A : List (List Nat × List Nat)} (h : HL n L left A) {r m : List Nat} (hm : look A r = some m) : m.length = L := by
  have := h.b r
  rw [hm] at this
  exact this.1.1
theorem sWhile_step {c : Ef Bool} {body : Ef Fl} {e e1 e2 : En} {r : Res Fl} (hc : c e = .ok true e1) (hb : body e1 = .ok .nx e2) (h : ∃ k, whileN c body k e2 = r) : ∃ k, whileN c body k e = r := by
  obtain ⟨k, h⟩ := h
  refine ⟨k + 1, ?_⟩
  show (bnd c _) e = r
  unfold bnd
  rw [hc]
  dsimp only
  rw [if_pos rfl, hb]
  exact h
theorem sWhile_ret {c : Ef Bool} {body : Ef Fl} {e e1 e2 : En} {d : D} (hc : c e = .ok true e1) (hb : body e1 = .ok (.rt d) e2) : ∃ k, whileN c body k e = .ok (.rt d) e2 := by
  refine ⟨1, ?_⟩
  show (bnd c _) e = _
  unfold bnd
  rw [hc]
  dsimp only
  rw [if_pos rfl, hb]
  rfl
theorem sWhile_end {c : Ef Bool} {body : Ef Fl} {e e1 : En} (hc : c e = .ok false e1) : ∃ k, whileN c body k e = .ok .nx e1 := by
  refine ⟨1, ?_⟩
  show (bnd c _) e = _
  unfold bnd
  rw [hc]
  rfl
/-! ### a row is sorted by as many deeds as it has pairs out of order -/
/-! ### a word made longer -/
section
variable {n : Nat} {w g lot : List Nat}
@[simp] theorem fNe_str (x y : Str) : fNe (.str x) (.str y) = some (.bl (!decide (x = y))) := by
  have h := fEq_str x y
  unfold fEq at h
  unfold fNe
  split at h
  · rename_i hc
    rw [if_pos hc]
    have h := D.bl.inj (Option.some.inj h)
    rw [h]
  · cases h
@[simp] theorem gLstD_lst (n : Nat) (gs : List D → Ef Unit) (ds : List D) : gLstD n gs (.lst ds) = if ds.length = n then gs ds else stk := rfl
@[simp] theorem ne_hf : ¬ (Str.ofString "harms" = Str.ofString "fine") := by decide
@[simp] theorem ne_fh : ¬ (Str.ofString "fine" = Str.ofString "harms") := by decide
@[simp] theorem ne_Ff : ¬ (Str.ofString "Fine" = Str.ofString "fine") := by decide
@[simp] theorem ne_Fh : ¬ (Str.ofString "Fine" = Str.ofString "harms") := by decide
end

/-! ### tuples of tuples, ordered -/
/-! ### a tuple in a list of tuples -/
/-! ### rounds -/
@[simp] theorem eTupS_eq (i : Nat) : eTupS i = (bnd (rdV i) fun d => lift (match d with
  | .lst xs => some (.tup xs)
  | _ => none)) := rfl
@[simp] theorem eRevS_eq (i : Nat) : eRevS i = (bnd (rdV i) fun d => lift (match d with
  | .lst xs => some (.lst xs.reverse)
  | _ => none)) := rfl
@[simp] theorem eListS_eq (i : Nat) : eListS i = (bnd (rdV i) fun d => lift (match d with
  | .lst xs => some (.lst xs)
  | _ => none)) := rfl
@[simp] theorem sRaise_ap (c : Addr) (e : En) : sRaise c e = .exc c [] e := rfl
/-- a def raises -/
def ValX (g : Ef D) (ds : List D) (c : Addr) : Prop := ∃ e, g ⟨ds.map .val, []⟩ = .exc c [] e
theorem ValX.call {g : Ef D} {ds : List D} {c : Addr} (h : ValX g ds c) {n : Nat} (hn : ds.length = n) (e : En) : callG n g ds e = .exc c [] e := by
  obtain ⟨e', h⟩ := h
  unfold callG
  rw [if_pos hn, h]
theorem ValX.run {n : Nat} {body : Ef Fl} {ds : List D} {c : Addr} (h : ∃ e, body ⟨ds.map .val ++ List.replicate (n - ds.length) .und, []⟩ = .exc c [] e) : ValX (runB n body) ds c := by
  obtain ⟨e, h⟩ := h
  refine ⟨e, ?_⟩
  unfold runB
  simp only [List.length_map]
  rw [h]
/-! ### raised with fields; clauses one after the other -/
@[simp] theorem sRaiseA_eq (c : Addr) (fld : Str) (f : Ef D) : sRaiseA c fld f = bnd f fun d e => .exc c [.str fld, d] e := rfl
/-- a def raises, with the exception's fields -/
def ValE (g : Ef D) (ds : List D) (c : Addr) (as : List D) : Prop := ∃ e, g ⟨ds.map .val, []⟩ = .exc c as e
theorem ValE.call {g : Ef D} {ds : List D} {c : Addr} {as : List D} (h : ValE g ds c as) {n : Nat} (hn : ds.length = n) (e : En) : callG n g ds e = .exc c as e := by
  obtain ⟨e', h⟩ := h
  unfold callG
  rw [if_pos hn, h]
theorem ValE.run {n : Nat} {body : Ef Fl} {ds : List D} {c : Addr} {as : List D} (h : ∃ e, body ⟨ds.map .val ++ List.replicate (n - ds.length) .und, []⟩ = .exc c as e) : ValE (runB n body) ds c as := by
  obtain ⟨e, h⟩ := h
  refine ⟨e, ?_⟩
  unfold runB
  simp only [List.length_map]
  rw [h]
/-! ### what is told of a def holds of the same def that raises where the other is not told of -/
def Le {α : Type} (f g : Ef α) : Prop := ∀ e, f e = .stuck ∨ f e = g e
section
variable {α β : Type}
theorem Le.rfl {f : Ef α} : Le f f := fun _ => .inr (by rfl)
theorem Le.stk {g : Ef α} : Le stk g := fun _ => .inl (by rfl)
theorem Le.bnd {f f' : Ef α} {g g' : α → Ef β} (h : Le f f') (k : ∀ a, Le (g a) (g' a)) : Le (DL.bnd f g) (DL.bnd f' g') := fun e => by
  unfold DL.bnd
  rcases h e with h | h
  · rw [h]; exact .inl (by rfl)
  · rw [← h]
    cases f e with
    | ok a e' => exact k a e'
    | exc c as e' => exact .inr (by rfl)
    | stuck => exact .inl (by rfl)
theorem Le.ite {c : Prop} [Decidable c] {f f' g g' : Ef α} (h : Le f f') (k : Le g g') : Le (if c then f else g) (if c then f' else g') := by
  by_cases z : c
  · rw [if_pos z, if_pos z]; exact h
  · rw [if_neg z, if_neg z]; exact k
end
theorem Le.callG {n : Nat} {g g' : Ef D} {ds : List D} (h : Le g g') : Le (callG n g ds) (callG n g' ds) := fun e => by
  unfold DL.callG
  by_cases z : ds.length = n
  · rw [if_pos z, if_pos z]
    rcases h ⟨ds.map .val, []⟩ with q | q
    · rw [q]; exact .inl (by rfl)
    · rw [← q]; exact .inr (by rfl)
  · rw [if_neg z]; exact .inl (by rfl)
theorem Le.seq {f f' g g' : Ef Fl} (h : Le f f') (k : Le g g') : Le (sSeq f g) (sSeq f' g') := Le.bnd h fun fl => by cases fl <;> first | exact k | exact Le.rfl
theorem Le.sif {t t' : Ef Bool} {f f' g g' : Ef Fl} (ht : Le t t') (h : Le f f') (k : Le g g') : Le (sIf t f g) (sIf t' f' g') := Le.bnd ht fun b => Le.ite h k
theorem Le.eif {t t' : Ef Bool} {f f' g g' : Ef D} (ht : Le t t') (h : Le f f') (k : Le g g') : Le (eIf t f g) (eIf t' f' g') := Le.bnd ht fun b => Le.ite h k
theorem Le.sexpr {f f' : Ef D} (h : Le f f') : Le (sExpr f) (sExpr f') := Le.bnd h fun _ => Le.rfl
theorem Le.sset {i : Nat} {f f' : Ef D} (h : Le f f') : Le (sSet i f) (sSet i f') := Le.bnd h fun _ => Le.rfl
theorem Le.ssetN {i : Nat} {f f' : Ef D} (h : Le f f') : Le (sSetN i f) (sSetN i f') := Le.bnd h fun _ => Le.rfl
theorem Le.sret {f f' : Ef D} (h : Le f f') : Le (sRet f) (sRet f') := Le.bnd h fun _ => Le.rfl
theorem Le.sasg {f f' : Ef D} {g : D → Ef Unit} (h : Le f f') : Le (sAsg f g) (sAsg f' g) := Le.bnd h fun _ => Le.rfl
theorem Le.spar {i j : Nat} {o1 o2 : Bool} {f f' g g' : Ef D} (h : Le f f') (k : Le g g') : Le (sPar i j o1 o2 f g) (sPar i j o1 o2 f' g') := Le.bnd h fun _ => Le.bnd k fun _ => Le.rfl
theorem Le.ecall {n : Nat} {g g' : Ef D} {h h' : Ef (List D)} (k : Le g g') (q : Le h h') : Le (eCall n g h) (eCall n g' h') := Le.bnd q fun _ => Le.callG k
theorem Le.emeth {c : Addr} {m : Str} {n : Nat} {g : Ef D} {f f' : Ef D} {h h' : Ef (List D)} (k : Le f f') (q : Le h h') : Le (eMeth c m n g f h) (eMeth c m n g f' h') := Le.bnd k fun _ => Le.bnd Le.rfl fun _ => Le.bnd q fun _ => Le.rfl
theorem Le.emeth0 {c : Addr} {m : Str} {g : Ef D} {f f' : Ef D} (k : Le f f') : Le (eMeth0 c m g f) (eMeth0 c m g f') := Le.bnd k fun _ => Le.rfl
theorem Le.efn {fn : List D → Option D} {f f' : Ef (List D)} (k : Le f f') : Le (eFn fn f) (eFn fn f') := Le.bnd k fun _ => Le.rfl
theorem Le.acons {f f' : Ef D} {g g' : Ef (List D)} (h : Le f f') (k : Le g g') : Le (aCons f g) (aCons f' g') := Le.bnd h fun _ => Le.bnd k fun _ => Le.rfl
theorem Le.op2 {fn : D → D → Option D} {f f' g g' : Ef D} (h : Le f f') (k : Le g g') : Le (eOp2 fn f g) (eOp2 fn f' g') := Le.bnd h fun _ => Le.bnd k fun _ => Le.rfl
theorem Le.op1 {fn : D → Option D} {f f' : Ef D} (h : Le f f') : Le (eOp1 fn f) (eOp1 fn f') := Le.bnd h fun _ => Le.rfl
theorem Le.eb {f f' : Ef D} (h : Le f f') : Le (eB f) (eB f') := Le.bnd h fun _ => Le.rfl
theorem Le.etru {f f' : Ef D} (h : Le f f') : Le (eTru f) (eTru f') := Le.bnd h fun _ => Le.rfl
theorem Le.tnot {f f' : Ef Bool} (h : Le f f') : Le (tNotF f) (tNotF f') := Le.bnd h fun _ => Le.rfl
theorem Le.tand {f f' g g' : Ef Bool} (h : Le f f') (k : Le g g') : Le (tAndF f g) (tAndF f' g') := Le.bnd h fun b => Le.ite k Le.rfl
theorem Le.tor {f f' g g' : Ef Bool} (h : Le f f') (k : Le g g') : Le (tOrF f g) (tOrF f' g') := Le.bnd h fun b => Le.ite Le.rfl k
theorem Le.elst {f f' : Ef (List D)} (h : Le f f') : Le (eLst f) (eLst f') := Le.bnd h fun _ => Le.rfl
theorem Le.etup {f f' : Ef (List D)} (h : Le f f') : Le (eTup f) (eTup f') := Le.bnd h fun _ => Le.rfl
theorem Le.sortKey {f f' : Ef D} {n : Nat} {js : List Nat} {g : Ef D} (h : Le f f') : Le (eSortKey f n js g) (eSortKey f' n js g) := Le.bnd h fun _ => Le.rfl
theorem Le.lc {fi fi' : Ef (List D)} {g : D → Ef Unit} {ft : Ef Bool} {fe : Ef D} {vs : List Nat} (h : Le fi fi') : Le (eLc fi g ft fe vs) (eLc fi' g ft fe vs) := Le.bnd h fun _ => Le.rfl
theorem Le.iter {f f' : Ef D} (h : Le f f') : Le (eIter f) (eIter f') := Le.bnd h fun _ => Le.rfl
theorem Le.sfor {f f' : Ef (List D)} {g : D → Ef Unit} {b : Ef Fl} (h : Le f f') : Le (sFor f g b) (sFor f' g b) := Le.bnd h fun _ => Le.rfl
theorem Le.runB {n : Nat} {b b' : Ef Fl} (h : Le b b') : Le (runB n b) (runB n b') := fun e => by
  unfold DL.runB
  rcases h ⟨e.s ++ List.replicate (n - e.s.length) .und, e.b⟩ with q | q
  · rw [q]; exact .inl (by rfl)
  · rw [← q]; exact .inr (by rfl)
theorem Le.dflt {g g' : Ef D} {l : List D} (h : Le g g') : Le (fun e => g ⟨e.s ++ l.map .val, e.b⟩) (fun e => g' ⟨e.s ++ l.map .val, e.b⟩) := fun e => h _
theorem Val.le {g g' : Ef D} {ds : List D} {v : D} (h : Val g ds v) (k : Le g g') : Val g' ds v := by
  obtain ⟨e, h⟩ := h
  rcases k ⟨ds.map .val, []⟩ with q | q
  · rw [q] at h; cases h
  · exact ⟨e, by rw [← q]; exact h⟩
theorem le_b_need_cards_v2 : Le b_need_cards b_need_cards_v2 := by
  unfold b_need_cards b_need_cards_v2
  with_reducible repeat (first | exact Le.rfl | exact Le.stk | assumption | refine Le.seq ?_ ?_ | refine Le.sif ?_ ?_ ?_ | refine Le.eif ?_ ?_ ?_ | refine Le.sexpr ?_ | refine Le.sset ?_ | refine Le.ssetN ?_ | refine Le.sret ?_ | refine Le.sasg ?_ | refine Le.spar ?_ ?_ | refine Le.ecall ?_ ?_ | refine Le.emeth ?_ ?_ | refine Le.emeth0 ?_ | refine Le.efn ?_ | refine Le.acons ?_ ?_ | refine Le.op2 ?_ ?_ | refine Le.op1 ?_ | refine Le.eb ?_ | refine Le.etru ?_ | refine Le.tnot ?_ | refine Le.tand ?_ ?_ | refine Le.tor ?_ ?_ | refine Le.elst ?_ | refine Le.etup ?_ | refine Le.sortKey ?_ | refine Le.lc ?_ | refine Le.iter ?_ | refine Le.sfor ?_)
theorem le_g_need_cards_v2 : Le g_need_cards g_need_cards_v2 := Le.runB le_b_need_cards_v2
theorem eq_b_need_word_v2_E1 : b_need_word_v2_E1 = b_need_word_E1 := rfl
theorem le_b_need_word_v2 : Le b_need_word b_need_word_v2 := by
  unfold b_need_word b_need_word_v2
  try simp only [eq_b_need_word_v2_E1]
  with_reducible repeat (first | exact Le.rfl | exact Le.stk | assumption | refine Le.seq ?_ ?_ | refine Le.sif ?_ ?_ ?_ | refine Le.eif ?_ ?_ ?_ | refine Le.sexpr ?_ | refine Le.sset ?_ | refine Le.ssetN ?_ | refine Le.sret ?_ | refine Le.sasg ?_ | refine Le.spar ?_ ?_ | refine Le.ecall ?_ ?_ | refine Le.emeth ?_ ?_ | refine Le.emeth0 ?_ | refine Le.efn ?_ | refine Le.acons ?_ ?_ | refine Le.op2 ?_ ?_ | refine Le.op1 ?_ | refine Le.eb ?_ | refine Le.etru ?_ | refine Le.tnot ?_ | refine Le.tand ?_ ?_ | refine Le.tor ?_ ?_ | refine Le.elst ?_ | refine Le.etup ?_ | refine Le.sortKey ?_ | refine Le.lc ?_ | refine Le.iter ?_ | refine Le.sfor ?_)
theorem le_g_need_word_v2 : Le g_need_word g_need_word_v2 := Le.runB le_b_need_word_v2
theorem le_g_need_word_v2_2 : Le g_need_word_2 g_need_word_v2_2 := Le.dflt le_g_need_word_v2
theorem le_b_need_both_v2 : Le b_need_both b_need_both_v2 := by
  unfold b_need_both b_need_both_v2
  have := le_g_need_cards_v2
  have := le_g_need_word_v2_2
  with_reducible repeat (first | exact Le.rfl | exact Le.stk | assumption | refine Le.seq ?_ ?_ | refine Le.sif ?_ ?_ ?_ | refine Le.eif ?_ ?_ ?_ | refine Le.sexpr ?_ | refine Le.sset ?_ | refine Le.ssetN ?_ | refine Le.sret ?_ | refine Le.sasg ?_ | refine Le.spar ?_ ?_ | refine Le.ecall ?_ ?_ | refine Le.emeth ?_ ?_ | refine Le.emeth0 ?_ | refine Le.efn ?_ | refine Le.acons ?_ ?_ | refine Le.op2 ?_ ?_ | refine Le.op1 ?_ | refine Le.eb ?_ | refine Le.etru ?_ | refine Le.tnot ?_ | refine Le.tand ?_ ?_ | refine Le.tor ?_ ?_ | refine Le.elst ?_ | refine Le.etup ?_ | refine Le.sortKey ?_ | refine Le.lc ?_ | refine Le.iter ?_ | refine Le.sfor ?_)
theorem le_g_need_both_v2 : Le g_need_both g_need_both_v2 := Le.runB le_b_need_both_v2
theorem le_b_end_v2 : Le b_end b_end_v2 := by
  unfold b_end b_end_v2
  have := le_g_need_both_v2
  with_reducible repeat (first | exact Le.rfl | exact Le.stk | assumption | refine Le.seq ?_ ?_ | refine Le.sif ?_ ?_ ?_ | refine Le.eif ?_ ?_ ?_ | refine Le.sexpr ?_ | refine Le.sset ?_ | refine Le.ssetN ?_ | refine Le.sret ?_ | refine Le.sasg ?_ | refine Le.spar ?_ ?_ | refine Le.ecall ?_ ?_ | refine Le.emeth ?_ ?_ | refine Le.emeth0 ?_ | refine Le.efn ?_ | refine Le.acons ?_ ?_ | refine Le.op2 ?_ ?_ | refine Le.op1 ?_ | refine Le.eb ?_ | refine Le.etru ?_ | refine Le.tnot ?_ | refine Le.tand ?_ ?_ | refine Le.tor ?_ ?_ | refine Le.elst ?_ | refine Le.etup ?_ | refine Le.sortKey ?_ | refine Le.lc ?_ | refine Le.iter ?_ | refine Le.sfor ?_)
theorem le_g_end_v2 : Le g_end g_end_v2 := Le.runB le_b_end_v2
theorem le_b_need_row_v2 : Le b_need_row b_need_row_v2 := by
  unfold b_need_row b_need_row_v2
  with_reducible repeat (first | exact Le.rfl | exact Le.stk | assumption | refine Le.seq ?_ ?_ | refine Le.sif ?_ ?_ ?_ | refine Le.eif ?_ ?_ ?_ | refine Le.sexpr ?_ | refine Le.sset ?_ | refine Le.ssetN ?_ | refine Le.sret ?_ | refine Le.sasg ?_ | refine Le.spar ?_ ?_ | refine Le.ecall ?_ ?_ | refine Le.emeth ?_ ?_ | refine Le.emeth0 ?_ | refine Le.efn ?_ | refine Le.acons ?_ ?_ | refine Le.op2 ?_ ?_ | refine Le.op1 ?_ | refine Le.eb ?_ | refine Le.etru ?_ | refine Le.tnot ?_ | refine Le.tand ?_ ?_ | refine Le.tor ?_ ?_ | refine Le.elst ?_ | refine Le.etup ?_ | refine Le.sortKey ?_ | refine Le.lc ?_ | refine Le.iter ?_ | refine Le.sfor ?_)
theorem le_g_need_row_v2 : Le g_need_row g_need_row_v2 := Le.runB le_b_need_row_v2
theorem le_b_count_words_v2 : Le b_count_words b_count_words_v2 := by
  unfold b_count_words b_count_words_v2
  have := le_g_need_row_v2
  with_reducible repeat (first | exact Le.rfl | exact Le.stk | assumption | refine Le.seq ?_ ?_ | refine Le.sif ?_ ?_ ?_ | refine Le.eif ?_ ?_ ?_ | refine Le.sexpr ?_ | refine Le.sset ?_ | refine Le.ssetN ?_ | refine Le.sret ?_ | refine Le.sasg ?_ | refine Le.spar ?_ ?_ | refine Le.ecall ?_ ?_ | refine Le.emeth ?_ ?_ | refine Le.emeth0 ?_ | refine Le.efn ?_ | refine Le.acons ?_ ?_ | refine Le.op2 ?_ ?_ | refine Le.op1 ?_ | refine Le.eb ?_ | refine Le.etru ?_ | refine Le.tnot ?_ | refine Le.tand ?_ ?_ | refine Le.tor ?_ ?_ | refine Le.elst ?_ | refine Le.etup ?_ | refine Le.sortKey ?_ | refine Le.lc ?_ | refine Le.iter ?_ | refine Le.sfor ?_)
theorem le_g_count_words_v2 : Le g_count_words g_count_words_v2 := Le.runB le_b_count_words_v2
theorem eq_b_all_words_v2_W3 : b_all_words_v2_W3 = b_all_words_W3 := rfl
theorem eq_b_all_words_v2_L2 : b_all_words_v2_L2 = b_all_words_L2 := rfl
theorem le_b_all_words_v2 : Le b_all_words b_all_words_v2 := by
  unfold b_all_words b_all_words_v2
  have := le_g_need_row_v2
  try simp only [eq_b_all_words_v2_W3, eq_b_all_words_v2_L2]
  with_reducible repeat (first | exact Le.rfl | exact Le.stk | assumption | refine Le.seq ?_ ?_ | refine Le.sif ?_ ?_ ?_ | refine Le.eif ?_ ?_ ?_ | refine Le.sexpr ?_ | refine Le.sset ?_ | refine Le.ssetN ?_ | refine Le.sret ?_ | refine Le.sasg ?_ | refine Le.spar ?_ ?_ | refine Le.ecall ?_ ?_ | refine Le.emeth ?_ ?_ | refine Le.emeth0 ?_ | refine Le.efn ?_ | refine Le.acons ?_ ?_ | refine Le.op2 ?_ ?_ | refine Le.op1 ?_ | refine Le.eb ?_ | refine Le.etru ?_ | refine Le.tnot ?_ | refine Le.tand ?_ ?_ | refine Le.tor ?_ ?_ | refine Le.elst ?_ | refine Le.etup ?_ | refine Le.sortKey ?_ | refine Le.lc ?_ | refine Le.iter ?_ | refine Le.sfor ?_)
theorem le_g_all_words_v2 : Le g_all_words g_all_words_v2 := Le.runB le_b_all_words_v2
/-! ### the table of ways -/
def tI (c : Nat) : D := .int (c : Int)
def tds (Ls : List (List (List Nat × Nat))) : List D := Ls.map (td tI)
/-- the instance -/
def tabI (n : Nat) (g w : List Nat) (Ls : List (List (List Nat × Nat))) : D := .ins (CA.at "Table") [("first", .tup (tn (turnP n))), ("word", .tup (tn w)), ("goal", .tup (tn g)), ("counts", .lst (tds Ls))]
@[simp] theorem eMeth_eq (C : Addr) (m : Str) (n : Nat) (g f : Ef D) (h : Ef (List D)) : eMeth C m n g f h = (bnd f fun d => bnd (asIns C m d) fun _ => bnd h fun ds => callG n g (d :: ds)) := rfl
@[simp] theorem eMeth0_eq (C : Addr) (m : Str) (g f : Ef D) : eMeth0 C m g f = (bnd f fun d => bnd (asIns C m d) fun _ => callG 1 g [d]) := rfl
@[simp] theorem eFld_eq (C : Addr) (x : Str) (f : Ef D) : eFld C x f = (bnd f fun d => lift (fFld C x d)) := rfl
@[simp] theorem eNew_eq (n : Nat) (g : Addr → List D → Option D) (h : Ef (List D)) : eNew n g h = (bnd h (newG n g)) := rfl
section
variable {n : Nat} {g w : List Nat} {Ls : List (List (List Nat × Nat))}
@[simp] theorem fld_first : fFld (CA.at "Table") "first" (tabI n g w Ls) = some (.tup (tn (turnP n))) := by simp [fFld, tabI]
@[simp] theorem fld_word : fFld (CA.at "Table") "word" (tabI n g w Ls) = some (.tup (tn w)) := by
  unfold fFld tabI
  dsimp only
  rw [if_pos rfl]
  rfl
@[simp] theorem fld_goal : fFld (CA.at "Table") "goal" (tabI n g w Ls) = some (.tup (tn g)) := by
  unfold fFld tabI
  dsimp only
  rw [if_pos rfl]
  rfl
@[simp] theorem fld_counts : fFld (CA.at "Table") "counts" (tabI n g w Ls) = some (.lst (tds Ls)) := by
  unfold fFld tabI
  dsimp only
  rw [if_pos rfl]
  rfl
theorem as_tab {m : Str} (h : m ∉ (["first", "word", "goal", "counts"] : List Str)) (e : En) : asIns (CA.at "Table") m (tabI n g w Ls) e = .ok () e := by
  unfold asIns tabI
  dsimp only
  rw [if_pos]
  refine ⟨rfl, ?_⟩
  simp only [List.mem_cons, List.not_mem_nil, or_false, not_or] at h
  obtain ⟨h1, h2, h3, h4⟩ := h
  simp [List.lookup, h1, h2, h3, h4, beq_eq_false_iff_ne.mpr h1, beq_eq_false_iff_ne.mpr h2, beq_eq_false_iff_ne.mpr h3, beq_eq_false_iff_ne.mpr h4]
@[simp] theorem as_total (e : En) : asIns (CA.at "Table") "total" (tabI n g w Ls) e = .ok () e := as_tab (by decide) e
@[simp] theorem as_left (e : En) : asIns (CA.at "Table") "left" (tabI n g w Ls) e = .ok () e := as_tab (by decide) e
@[simp] theorem as_working (e : En) : asIns (CA.at "Table") "working" (tabI n g w Ls) e = .ok () e := as_tab (by decide) e
@[simp] theorem as_ways (e : En) : asIns (CA.at "Table") "ways_working" (tabI n g w Ls) e = .ok () e := as_tab (by decide) e
@[simp] theorem as_lots (e : En) : asIns (CA.at "Table") "lots" (tabI n g w Ls) e = .ok () e := as_tab (by decide) e
@[simp] theorem as_at (e : En) : asIns (CA.at "Table") "at" (tabI n g w Ls) e = .ok () e := as_tab (by decide) e
@[simp] theorem as_number (e : En) : asIns (CA.at "Table") "number" (tabI n g w Ls) e = .ok () e := as_tab (by decide) e
@[simp] theorem as_above (e : En) : asIns (CA.at "Table") "first_above" (tabI n g w Ls) e = .ok () e := as_tab (by decide) e
def optT : Option (List Nat) → D
  | none => .non
  | some u => .tup (tn u)
@[simp] theorem isNon_optT (o : Option (List Nat)) : isNon (optT o) = !o.isSome := by cases o <;> rfl
end
/-! ### lots above a lot, words of spheres -/
/-! ### a word without the places of a lot -/
/-! ### places exchanged -/
def xr : List Nat → List Bool → List Nat → List Nat
  | d :: w, b :: f, r => xr w f (if b = true then exch r d else r)
  | _, _, r => r
theorem xr_nil (w r : List Nat) : xr w [] r = r := by cases w <;> rfl
theorem xr_path : ∀ {w : List Nat} {f : List Bool} {r g : List Nat}, Path w f r g → xr w f r = g
  | [], [], _, _, h => h
  | d :: w, b :: f, r, g, h => by
    unfold Path at h
    unfold xr
    by_cases c : b = true
    · rw [if_pos c] at h ⊢
      exact xr_path h.2
    · rw [if_neg c] at h ⊢
      exact xr_path h
  | [], _ :: _, _, _, h => h.elim
  | _ :: _, [], _, _, h => h.elim
theorem xr_row {n : Nat} : ∀ {w : List Nat} {f : List Bool} {r : List Nat}, Row n r → Bel (n - 1) w → Row n (xr w f r)
  | [], [], _, h, _ => h
  | [], _ :: _, _, h, _ => h
  | _ :: _, [], _, h, _ => h
  | d :: w, b :: f, r, h, hb => by
    unfold xr
    refine xr_row ?_ fun x hx => hb x (List.mem_cons_of_mem _ hx)
    split
    · exact h.exch (hb d List.mem_cons_self)
    · exact h
theorem xr_app : ∀ {u w : List Nat} {a f : List Bool} {r : List Nat}, u.length = a.length → xr (u ++ w) (a ++ f) r = xr w f (xr u a r)
  | [], _, [], _, _, _ => rfl
  | d :: u, w, b :: a, f, r, h => by
    show xr (u ++ w) (a ++ f) _ = xr w f (xr u a _)
    exact xr_app (by simpa using h)
  | [], _, _ :: _, _, _, h => by simp at h
  | _ :: _, _, [], _, _, h => by simp at h
theorem cntT_cons (b : Bool) (f : List Bool) : cntT (b :: f) = cntT f + if b = true then 1 else 0 := by
  unfold cntT
  rw [List.countP_cons]
  rfl
theorem ninv_le {n : Nat} {r : List Nat} {d : Nat} (h : Row n r) (hd : d < n - 1) : ninv r ≤ ninv (exch r d) + 1 ∧ (¬ r.getD (d + 1) 0 < r.getD d 0 → ninv (exch r d) = ninv r + 1) := by
  have hl := h.len
  have hne := row_ne h hd
  by_cases c : r.getD (d + 1) 0 < r.getD d 0
  · have := ninv_exch (r := r) (d := d) (by omega) c
    exact ⟨by omega, fun k => absurd c k⟩
  · have ge := exch_getD (r := r) (d := d) (by omega)
    have := ninv_exch (r := exch r d) (d := d) (by rw [exch_length (by omega)]; omega) (by rw [ge.1, ge.2]; omega)
    rw [exch_exch (by omega)] at this
    exact ⟨by omega, fun _ => this⟩
theorem ninv_xr {n : Nat} : ∀ {w : List Nat} {f : List Bool} {r : List Nat}, Row n r → Bel (n - 1) w → ninv r ≤ ninv (xr w f r) + cntT f
  | [], f, r, _, _ => by
    have : xr [] f r = r := by cases f <;> rfl
    rw [this]; omega
  | _ :: _, [], r, _, _ => by
    rw [xr_nil]; omega
  | d :: w, b :: f, r, h, hb => by
    have hb' : Bel (n - 1) w := fun x hx => hb x (List.mem_cons_of_mem _ hx)
    have hd := hb d List.mem_cons_self
    unfold xr
    rw [cntT_cons]
    by_cases c : b = true
    · rw [if_pos c, if_pos c]
      have h1 := (ninv_le h hd).1
      have h2 := ninv_xr (f := f) (h.exch hd) hb'
      omega
    · rw [if_neg c, if_neg c]
      exact ninv_xr h hb'
theorem path_of_xr {n : Nat} : ∀ {w : List Nat} {f : List Bool} {r g : List Nat}, f.length = w.length → Row n r → Bel (n - 1) w → xr w f r = g → ninv r = ninv g + cntT f → Path w f r g
  | [], [], _, _, _, _, _, h, _ => h
  | [], _ :: _, _, _, hl, _, _, _, _ => by simp at hl
  | _ :: _, [], _, _, hl, _, _, _, _ => by simp at hl
  | d :: w, b :: f, r, g, hl, h, hb, hx, hn => by
    have hb' : Bel (n - 1) w := fun x hx => hb x (List.mem_cons_of_mem _ hx)
    have hd := hb d List.mem_cons_self
    have hl' : f.length = w.length := by simpa using hl
    unfold xr at hx
    rw [cntT_cons] at hn
    unfold Path
    by_cases c : b = true
    · rw [if_pos c] at hx hn ⊢
      have h2 := ninv_xr (f := f) (h.exch hd) hb'
      rw [hx] at h2
      have h1 := ninv_le h hd
      have desc : r.getD (d + 1) 0 < r.getD d 0 := by
        by_cases k : r.getD (d + 1) 0 < r.getD d 0
        · exact k
        · have := h1.2 k; omega
      have e := ninv_exch (r := r) (d := d) (by rw [h.len]; omega) desc
      exact ⟨desc, path_of_xr hl' (h.exch hd) hb' hx (by omega)⟩
    · rw [if_neg c] at hx hn ⊢
      exact path_of_xr hl' h hb' hx (by omega)
/-! ### two cards exchanged -/
def sv (a b x : Nat) : Nat := if x = a then b else if x = b then a else x
theorem sv_sv (a b x : Nat) : sv a b (sv a b x) = x := by
  unfold sv
  by_cases h1 : x = a
  · subst h1
    by_cases h2 : b = x
    · simp [h2]
    · simp [h2]
  · by_cases h2 : x = b
    · subst h2; simp [h1]
    · simp [h1, h2]
theorem sv_comm (a b x : Nat) : sv a b x = sv b a x := by
  unfold sv
  by_cases h1 : x = a
  · by_cases h2 : x = b
    · subst h1; simp [h2]
    · subst h1; simp [h2]
  · simp [h1]
theorem exch_mapX {h : Nat → Nat} {r : List Nat} {d : Nat} (hd : d + 1 < r.length) : exch (r.map h) d = (exch r d).map h := by
  have g1 : (r.map h).getD d 0 = h (r.getD d 0) := by
    rw [List.getD_eq_getElem?_getD, List.getD_eq_getElem?_getD, List.getElem?_map, List.getElem?_eq_getElem (by omega)]; rfl
  have g2 : (r.map h).getD (d + 1) 0 = h (r.getD (d + 1) 0) := by
    rw [List.getD_eq_getElem?_getD, List.getD_eq_getElem?_getD, List.getElem?_map, List.getElem?_eq_getElem hd]; rfl
  unfold exch
  rw [g1, g2, List.map_append, List.map_append, List.map_take, List.map_drop]; rfl
theorem xr_map {n : Nat} {h : Nat → Nat} : ∀ {w : List Nat} {f : List Bool} {r : List Nat}, r.length = n → Bel (n - 1) w → xr w f (r.map h) = (xr w f r).map h
  | [], f, r, _, _ => by
    have : ∀ r, xr [] f r = r := fun r => by cases f <;> rfl
    rw [this, this]
  | _ :: _, [], r, _, _ => by rw [xr_nil, xr_nil]
  | d :: w, b :: f, r, hl, hb => by
    have hb' : Bel (n - 1) w := fun x hx => hb x (List.mem_cons_of_mem _ hx)
    have hd := hb d List.mem_cons_self
    unfold xr
    by_cases c : b = true
    · rw [if_pos c, if_pos c, exch_mapX (by omega)]
      exact xr_map (by rw [exch_length (by omega), hl]) hb'
    · rw [if_neg c, if_neg c]
      exact xr_map hl hb'
/-- an exchange of places is one of cards -/
theorem exch_sv {n : Nat} {r : List Nat} {d : Nat} (h : Row n r) (hd : d < n - 1) : exch r d = r.map (sv (r.getD d 0) (r.getD (d + 1) 0)) := by
  have hl := h.len
  have nd := h.nd
  have e := cut_two (r := r) (d := d) (by omega)
  generalize ha : r.getD d 0 = a at *
  generalize hb : r.getD (d + 1) 0 = b at *
  have e2 : exch r d = r.take d ++ b :: a :: r.drop (d + 2) := by
    unfold exch
    rw [ha, hb, List.append_assoc]; rfl
  rw [e2]
  conv => rhs; rw [e]
  rw [e] at nd
  rw [List.nodup_append] at nd
  obtain ⟨n1, n2, n3⟩ := nd
  rw [List.nodup_cons, List.nodup_cons] at n2
  obtain ⟨m1, m2, m3⟩ := n2
  have fix : ∀ L : List Nat, a ∉ L → b ∉ L → L.map (sv a b) = L := fun L h1 h2 => by
    conv => rhs; rw [← List.map_id L]
    apply List.map_congr_left
    intro x hx
    have q1 : x ≠ a := fun z => h1 (z ▸ hx)
    have q2 : x ≠ b := fun z => h2 (z ▸ hx)
    unfold sv
    rw [if_neg q1, if_neg q2]; rfl
  rw [List.map_append, List.map_cons, List.map_cons, fix _ (fun z => n3 a z a List.mem_cons_self rfl) (fun z => n3 b z b (List.mem_cons_of_mem _ List.mem_cons_self) rfl), fix _ (fun z => m1 (List.mem_cons_of_mem _ z)) m2]
  have hab : a ≠ b := fun z => m1 (z ▸ List.mem_cons_self)
  have s1 : sv a b a = b := by simp [sv]
  have s2 : sv a b b = a := by
    unfold sv
    rw [if_neg (Ne.symm hab), if_pos rfl]
  rw [s1, s2]
/-- the row before place p and the pair met there -/
def rowX (w : List Nat) (f : List Bool) (r : List Nat) (p : Nat) : List Nat := xr (w.take p) (f.take p) r
def samePair (a b c d : Nat) : Prop := (a = c ∧ b = d) ∨ (a = d ∧ b = c)
theorem exch_of_pair {n : Nat} {r : List Nat} {e a b : Nat} (h : Row n r) (he : e < n - 1) (hp : samePair (r.getD e 0) (r.getD (e + 1) 0) a b) : exch r e = r.map (sv a b) := by
  rw [exch_sv h he]
  rcases hp with ⟨h1, h2⟩ | ⟨h1, h2⟩
  · rw [h1, h2]
  · rw [h1, h2]
    apply List.map_congr_left
    intro x _
    exact sv_comm b a x
/-- from p on with all else alike, the second place later -/
theorem xr_two {n : Nat} {r : List Nat} {d e : Nat} {v t : List Nat} {fv ft : List Bool} (h : Row n r) (hv : Bel (n - 1) v) (hd : d < n - 1) (he : e < n - 1) (hl : v.length = fv.length)
    (hp : samePair ((xr v fv r).getD e 0) ((xr v fv r).getD (e + 1) 0) (r.getD d 0) (r.getD (d + 1) 0)) :
    xr (d :: (v ++ e :: t)) (true :: (fv ++ false :: ft)) r = xr (d :: (v ++ e :: t)) (false :: (fv ++ true :: ft)) r := by
  have k1 : xr (d :: (v ++ e :: t)) (true :: (fv ++ false :: ft)) r = xr t ft (xr v fv (exch r d)) := by
    show xr (v ++ e :: t) (fv ++ false :: ft) (if true = true then exch r d else r) = _
    rw [if_pos rfl, xr_app hl]
    rfl
  have k2 : xr (d :: (v ++ e :: t)) (false :: (fv ++ true :: ft)) r = xr t ft (exch (xr v fv r) e) := by
    show xr (v ++ e :: t) (fv ++ true :: ft) (if false = true then exch r d else r) = _
    rw [if_neg Bool.false_ne_true, xr_app hl]
    rfl
  rw [k1, k2, exch_sv h hd, xr_map h.len hv, exch_of_pair (xr_row h hv) he hp]
theorem split_at {w : List Nat} {f : List Bool} {p q : Nat} (hl : f.length = w.length) (hpq : p < q) (hq : q < w.length) :
    w = w.take p ++ w.getD p 0 :: ((w.drop (p + 1)).take (q - (p + 1)) ++ w.getD q 0 :: w.drop (q + 1)) ∧
    f = f.take p ++ f.getD p false :: ((f.drop (p + 1)).take (q - (p + 1)) ++ f.getD q false :: f.drop (q + 1)) := by
  have key : ∀ {α : Type} (dflt : α) (l : List α), q < l.length → l = l.take p ++ l.getD p dflt :: ((l.drop (p + 1)).take (q - (p + 1)) ++ l.getD q dflt :: l.drop (q + 1)) := fun {α} dflt l hq => by
    have e1 : l.drop p = l.getD p dflt :: l.drop (p + 1) := by
      rw [List.drop_eq_getElem_cons (by omega), List.getD_eq_getElem?_getD, List.getElem?_eq_getElem (by omega)]; rfl
    have e2 : l.drop q = l.getD q dflt :: l.drop (q + 1) := by
      rw [List.drop_eq_getElem_cons (by omega), List.getD_eq_getElem?_getD, List.getElem?_eq_getElem (by omega)]; rfl
    have e3 : l.drop (p + 1) = (l.drop (p + 1)).take (q - (p + 1)) ++ l.drop q := by
      conv => lhs; rw [← List.take_append_drop (q - (p + 1)) (l.drop (p + 1))]
      rw [List.drop_drop, show p + 1 + (q - (p + 1)) = q by omega]
    rw [← e2, ← e3, ← e1, List.take_append_drop]
  exact ⟨key 0 w hq, key false f (by omega)⟩
/-! ### exchanges of lots -/
def flipS (f : List Bool) (p q : Nat) (x y : Bool) : List Bool := f.take p ++ x :: ((f.drop (p + 1)).take (q - (p + 1)) ++ y :: f.drop (q + 1))
theorem two_get {α : Type} {A B C : List α} {x y x' y' : α} {p q : Nat} (hA : A.length = p) (hB : B.length + (p + 1) = q) (i : Nat) : (A ++ x :: (B ++ y :: C))[i]? = if i = p then some x else if i = q then some y else (A ++ x' :: (B ++ y' :: C))[i]? := by
  by_cases h1 : i < p
  · rw [if_neg (by omega), if_neg (by omega), List.getElem?_append_left (by omega), List.getElem?_append_left (by omega)]
  · rw [List.getElem?_append_right (by omega), List.getElem?_append_right (by omega), hA]
    by_cases h2 : i = p
    · subst h2; simp
    · rw [if_neg h2]
      obtain ⟨j, hj⟩ : ∃ j, i - p = j + 1 := ⟨i - p - 1, by omega⟩
      rw [hj, List.getElem?_cons_succ, List.getElem?_cons_succ]
      by_cases h3 : j < B.length
      · rw [if_neg (by omega), List.getElem?_append_left h3, List.getElem?_append_left h3]
      · rw [List.getElem?_append_right (by omega), List.getElem?_append_right (by omega)]
        by_cases h4 : j = B.length
        · subst h4
          rw [if_pos (by omega)]
          simp
        · rw [if_neg (by omega)]
          obtain ⟨k, hk⟩ : ∃ k, j - B.length = k + 1 := ⟨j - B.length - 1, by omega⟩
          rw [hk, List.getElem?_cons_succ, List.getElem?_cons_succ]
section
variable {w : List Nat} {f : List Bool} {p q n : Nat} {r g : List Nat}
theorem flipS_get (hl : f.length = w.length) (hpq : p < q) (hq : q < w.length) (x y : Bool) (i : Nat) : (flipS f p q x y)[i]? = if i = p then some x else if i = q then some y else f[i]? := by
  have e := (split_at hl hpq hq).2
  have := two_get (A := f.take p) (B := (f.drop (p + 1)).take (q - (p + 1))) (C := f.drop (q + 1)) (x := x) (y := y) (x' := f.getD p false) (y' := f.getD q false) (p := p) (q := q) (by rw [List.length_take]; omega) (by rw [List.length_take, List.length_drop]; omega) i
  rw [← e] at this
  exact this
theorem flipS_length (hl : f.length = w.length) (hpq : p < q) (hq : q < w.length) (x y : Bool) : (flipS f p q x y).length = w.length := by
  unfold flipS
  simp only [List.length_append, List.length_cons, List.length_take, List.length_drop]
  omega
theorem cnt_app (a b : List Bool) : cntT (a ++ b) = cntT a + cntT b := by unfold cntT; rw [List.countP_append]
/-- the pair that meets at a place -/
def metX (w : List Nat) (f : List Bool) (r : List Nat) (p : Nat) : Nat × Nat := ((rowX w f r p).getD (w.getD p 0) 0, (rowX w f r p).getD (w.getD p 0 + 1) 0)
def sameP (a b : Nat × Nat) : Prop := samePair a.1 a.2 b.1 b.2
theorem rowX_row (h : Row n r) (hw : Bel (n - 1) w) (p : Nat) : Row n (rowX w f r p) := xr_row h (hw.take p)
/-- the row before the later place -/
theorem rowX_later (hl : f.length = w.length) (hpq : p < q) (hq : q < w.length) : rowX w f r q = xr ((w.drop (p + 1)).take (q - (p + 1))) ((f.drop (p + 1)).take (q - (p + 1))) (if f.getD p false = true then exch (rowX w f r p) (w.getD p 0) else rowX w f r p) := by
  have key : ∀ {α : Type} (dflt : α) (l : List α), q < l.length → l.take q = l.take p ++ l.getD p dflt :: (l.drop (p + 1)).take (q - (p + 1)) := fun {α} dflt l hq => by
    have e1 : l.drop p = l.getD p dflt :: l.drop (p + 1) := by
      rw [List.drop_eq_getElem_cons (by omega), List.getD_eq_getElem?_getD, List.getElem?_eq_getElem (by omega)]; rfl
    conv => lhs; rw [← List.take_append_drop p (l.take q)]
    rw [List.take_take, Nat.min_eq_left (by omega), List.drop_take, e1, show q - p = (q - (p + 1)) + 1 by omega, List.take_succ_cons]
  unfold rowX
  rw [key 0 w hq, key false f (by omega), xr_app (by simp; omega)]
  rfl
theorem flip_path (h : Row n r) (hw : Bel (n - 1) w) (hp : Path w f r g) (hpq : p < q) (hq : q < w.length) {x : Bool} (h1 : f[p]? = some x) (h2 : f[q]? = some (!x)) (hs : sameP (metX w f r q) (metX w f r p)) : Path w (flipS f p q (!x) x) r g := by
  have hl := hp.len
  obtain ⟨ew, ef⟩ := split_at hl hpq hq
  have g1 : f.getD p false = x := by rw [List.getD_eq_getElem?_getD, h1]; rfl
  have g2 : f.getD q false = !x := by rw [List.getD_eq_getElem?_getD, h2]; rfl
  rw [g1, g2] at ef
  have hdp : w.getD p 0 < n - 1 := hw _ (by rw [List.getD_eq_getElem?_getD, List.getElem?_eq_getElem (by omega)]; exact List.getElem_mem _)
  have hdq : w.getD q 0 < n - 1 := hw _ (by rw [List.getD_eq_getElem?_getD, List.getElem?_eq_getElem hq]; exact List.getElem_mem _)
  have hr1 : Row n (rowX w f r p) := rowX_row h hw p
  have hv : Bel (n - 1) ((w.drop (p + 1)).take (q - (p + 1))) := fun y hy => hw y (List.mem_of_mem_drop (List.mem_of_mem_take hy))
  have lv : ((w.drop (p + 1)).take (q - (p + 1))).length = ((f.drop (p + 1)).take (q - (p + 1))).length := by simp only [List.length_take, List.length_drop]; omega
  have hlater := rowX_later (w := w) (f := f) (r := r) hl hpq hq
  rw [g1] at hlater
  -- the pair as it would meet with p left out
  have pair0 : samePair ((xr ((w.drop (p + 1)).take (q - (p + 1))) ((f.drop (p + 1)).take (q - (p + 1))) (rowX w f r p)).getD (w.getD q 0) 0) ((xr ((w.drop (p + 1)).take (q - (p + 1))) ((f.drop (p + 1)).take (q - (p + 1))) (rowX w f r p)).getD (w.getD q 0 + 1) 0) ((rowX w f r p).getD (w.getD p 0) 0) ((rowX w f r p).getD (w.getD p 0 + 1) 0) := by
    unfold sameP metX at hs
    dsimp only at hs
    cases x with
    | false =>
      rw [if_neg Bool.false_ne_true] at hlater
      rw [hlater] at hs
      exact hs
    | true =>
      rw [if_pos rfl, exch_sv hr1 hdp, xr_map hr1.len hv] at hlater
      rw [hlater] at hs
      have hrow := xr_row (f := (f.drop (p + 1)).take (q - (p + 1))) hr1 hv
      generalize (xr ((w.drop (p + 1)).take (q - (p + 1))) ((f.drop (p + 1)).take (q - (p + 1))) (rowX w f r p)) = R at *
      generalize rowX w f r p = R1 at *
      generalize R1.getD (w.getD p 0) 0 = a at *
      generalize R1.getD (w.getD p 0 + 1) 0 = b at *
      have m1 : ∀ e, e < n → (R.map (sv a b)).getD e 0 = sv a b (R.getD e 0) := fun e he => by
        have : e < R.length := by rw [hrow.len]; exact he
        rw [List.getD_eq_getElem?_getD, List.getD_eq_getElem?_getD, List.getElem?_map, List.getElem?_eq_getElem this]; rfl
      rw [m1 _ (by omega), m1 _ (by omega)] at hs
      have back : ∀ u v, sv a b u = v → u = sv a b v := fun u v e => by rw [← e, sv_sv]
      have sa : sv a b a = b := by simp [sv]
      have sb : sv a b b = a := by
        unfold sv
        by_cases c : b = a
        · rw [if_pos c, c]
        · rw [if_neg c, if_pos rfl]
      rcases hs with ⟨e1, e2⟩ | ⟨e1, e2⟩
      · exact .inr ⟨by rw [back _ _ e1, sa], by rw [back _ _ e2, sb]⟩
      · exact .inl ⟨by rw [back _ _ e1, sb], by rw [back _ _ e2, sa]⟩
  have two := xr_two (t := w.drop (q + 1)) (ft := f.drop (q + 1)) hr1 hv hdp hdq lv pair0
  have hxf := xr_path hp
  have lu : (w.take p).length = (f.take p).length := by simp only [List.length_take]; omega
  have eq1 : ∀ a b : Bool, xr w (flipS f p q a b) r = xr (w.getD p 0 :: ((w.drop (p + 1)).take (q - (p + 1)) ++ w.getD q 0 :: w.drop (q + 1))) (a :: ((f.drop (p + 1)).take (q - (p + 1)) ++ b :: f.drop (q + 1))) (rowX w f r p) := fun a b => by
    conv => lhs; rw [ew]
    unfold flipS
    rw [xr_app lu]; rfl
  have eqf : f = flipS f p q x (!x) := ef
  have hx' : xr w (flipS f p q (!x) x) r = g := by
    rw [eq1]
    rw [eqf, eq1] at hxf
    cases x with
    | false => exact two.trans hxf
    | true => exact two.symm.trans hxf
  refine path_of_xr (flipS_length hl hpq hq _ _) h hw hx' ?_
  have hn := path_ninv h.len hw hp
  have c1 : cntT (flipS f p q (!x) x) = cntT f := by
    conv => rhs; rw [eqf]
    unfold flipS
    simp only [cnt_app, cntT_cons]
    cases x <;> simp <;> omega
  rw [c1]; exact hn
end
/-! ### which card stands in front -/
/-! ### the stretch of a lot -/
theorem ahead_iff : ∀ {a b : List Bool}, Ahead a b → ∃ p : Nat, (∀ i, i < p → a[i]? = b[i]?) ∧ a[p]? = some true ∧ b[p]? = some false
  | x :: a, y :: b, h => by
    rcases h with ⟨rfl, rfl⟩ | ⟨rfl, h⟩
    · exact ⟨0, fun i hi => by omega, rfl, rfl⟩
    · obtain ⟨p, h1, h2, h3⟩ := ahead_iff h
      refine ⟨p + 1, fun i hi => ?_, by simpa using h2, by simpa using h3⟩
      cases i with
      | zero => rfl
      | succ i => simpa using h1 i (by omega)
  | [], [], h => h.elim
  | [], _ :: _, h => h.elim
  | _ :: _, [], h => h.elim
theorem ahead_of : ∀ {p : Nat} {a b : List Bool}, (∀ i, i < p → a[i]? = b[i]?) → a[p]? = some true → b[p]? = some false → Ahead a b
  | 0, a, b, _, h2, h3 => by
    cases a with
    | nil => simp at h2
    | cons x a =>
      cases b with
      | nil => simp at h3
      | cons y b =>
        have h2 : x = true := by simpa using h2
        have h3 : y = false := by simpa using h3
        exact .inl ⟨h2, h3⟩
  | p + 1, a, b, h1, h2, h3 => by
    cases a with
    | nil => simp at h2
    | cons x a =>
      cases b with
      | nil => simp at h3
      | cons y b =>
        have h0 := h1 0 (by omega)
        have h0 : x = y := by simpa using h0
        exact .inr ⟨h0, ahead_of (p := p) (fun i hi => by simpa using h1 (i + 1) (by omega)) (by simpa using h2) (by simpa using h3)⟩
theorem ahead_asym {a b : List Bool} (h : Ahead a b) (k : Ahead b a) : False := by
  obtain ⟨p, p1, p2, p3⟩ := ahead_iff h
  obtain ⟨q, q1, q2, q3⟩ := ahead_iff k
  rcases Nat.lt_trichotomy p q with c | c | c
  · have := q1 p c; rw [p2, p3] at this; cases this
  · subst c; rw [p2] at q3; cases q3
  · have := p1 q c; rw [q2, q3] at this; cases this
/-! ### rows along a way -/
/-- a place that fails and whose pair works later -/
def risesAt (w : List Nat) (f : List Bool) (r : List Nat) (p : Nat) : Prop := f[p]? = some false ∧ ∃ q, p < q ∧ q < w.length ∧ f[q]? = some true ∧ sameP (metX w f r q) (metX w f r p)
/-- the lot A lies in the stretch of the way f -/
structure Fits (w : List Nat) (r : List Nat) (A : List Nat) (f : List Bool) : Prop where
  sub : ∀ x ∈ A, f[x]? = some false
  fix : ∀ p, risesAt w f r p → p ∈ A
/-- the first way above a lot -/
theorem Fits.first {n : Nat} {w r g A : List Nat} {f : List Bool} (hr : Row n r) (hw : Bel (n - 1) w) (hf : Path w f r g) (hs : ∀ x ∈ A, f[x]? = some false) (hm : ∀ k, Path w k r g → (∀ x ∈ A, k[x]? = some false) → ¬ Ahead k f) : Fits w r A f := by
  refine ⟨hs, fun p hp => ?_⟩
  by_cases c : p ∈ A
  · exact c
  · obtain ⟨h1, q, h2, h3, h4, h5⟩ := hp
    have hl := hf.len
    have hk := flip_path hr hw hf h2 h3 (x := false) h1 h4 h5
    have hg := flipS_get (w := w) (f := f) (p := p) (q := q) hl h2 h3 true false
    refine absurd (ahead_of (p := p) (fun i hi => ?_) ?_ h1) (hm _ hk fun x hx => ?_)
    · rw [show (!false) = true from rfl, hg, if_neg (by omega), if_neg (by omega)]
    · rw [show (!false) = true from rfl, hg, if_pos rfl]
    · rw [show (!false) = true from rfl, hg, if_neg (fun e : x = p => c (e ▸ hx))]
      split
      · rfl
      · exact hs x hx
theorem first_of {α : Type} {R : α → α → Prop} {P : α → Prop} [DecidablePred P] : ∀ {l : List α}, l.Pairwise R → (∃ x ∈ l, P x) → ∃ x ∈ l, P x ∧ ∀ y ∈ l, P y → y = x ∨ R x y
  | [], _, h => by obtain ⟨x, hx, _⟩ := h; cases hx
  | a :: l, hp, h => by
    rw [List.pairwise_cons] at hp
    by_cases c : P a
    · refine ⟨a, List.mem_cons_self, c, fun y hy _ => ?_⟩
      rcases List.mem_cons.mp hy with e | e
      · exact .inl e
      · exact .inr (hp.1 y e)
    · have : ∃ x ∈ l, P x := by
        obtain ⟨x, hx, px⟩ := h
        rcases List.mem_cons.mp hx with e | e
        · exact absurd (e ▸ px) c
        · exact ⟨x, e, px⟩
      obtain ⟨x, hx, px, hm⟩ := first_of hp.2 this
      refine ⟨x, List.mem_cons_of_mem _ hx, px, fun y hy py => ?_⟩
      rcases List.mem_cons.mp hy with e | e
      · exact absurd (e ▸ py) c
      · exact hm y e py
/-- each harmless lot lies in one stretch -/
theorem Fits.ex {n : Nat} {w r g A : List Nat} (hr : Row n r) (hw : Bel (n - 1) w) (h : ∃ f ∈ facs w r g, ∀ x ∈ A, f[x]? = some false) : ∃ f ∈ facs w r g, Fits w r A f := by
  obtain ⟨f, hf, hs, hm⟩ := first_of (P := fun f : List Bool => ∀ x ∈ A, f[x]? = some false) (facs_ahead w r g) h
  refine ⟨f, hf, Fits.first hr hw (mem_facs.mp hf) hs fun k hk ks hA => ?_⟩
  rcases hm k (mem_facs.mpr hk) ks with e | e
  · rw [e] at hA; exact ahead_asym hA hA
  · exact ahead_asym hA e
/-! ### pairs met, partners: the program's -/
/-! ### dicts by whole numbers -/
/-! ### partners -/
/-! ### fractions -/
@[simp] theorem fMulW_int (i j : Int) : fMulW (.int i) (.int j) = if i.natAbs.log2 + j.natAbs.log2 < 1000000 then some (.int (i * j)) else none := rfl
@[simp] theorem fDivW_int (i j : Int) : fDivW (.int i) (.int j) = if 0 < j ∧ j.natAbs.log2 < 9000 then some (.int (i / j)) else none := rfl
@[simp] theorem fIx_ktp (xs : List D) (i : Int) : fIx (.ktp xs) (.int i) = atI xs i := rfl
/-! ### fractions by a common bottom -/
def cD : Nat := 21000000
theorem cD_pos (k : Nat) : 0 < cD ^ k := Nat.pow_pos (by decide)
/-- a fraction by the k-th power of the bottom, at most M -/
def Sq (k M : Nat) (q : Rat) : Prop := ∃ z : Nat, q = mkRat (z : Int) (cD ^ k) ∧ z ≤ M * cD ^ k
theorem Sq.up {k j M : Nat} {q : Rat} (h : Sq k M q) (hj : k ≤ j) : Sq j M q := by
  obtain ⟨z, rfl, hz⟩ := h
  obtain ⟨i, rfl⟩ : ∃ i, j = k + i := ⟨j - k, by omega⟩
  refine ⟨z * cD ^ i, ?_, ?_⟩
  · rw [Nat.pow_add]
    have := Rat.mkRat_mul_right (n := (z : Int)) (d := cD ^ k) (a := cD ^ i) (Nat.ne_of_gt (cD_pos i))
    rw [← this]; simp
  · rw [Nat.pow_add, ← Nat.mul_assoc]
    exact Nat.mul_le_mul_right _ hz
theorem Sq.zero (k M : Nat) : Sq k M 0 := ⟨0, by simp, by omega⟩
theorem Sq.one (k : Nat) {M : Nat} (h : 1 ≤ M) : Sq k M 1 := by
  have hc := cD_pos k
  refine ⟨cD ^ k, ?_, by simpa using Nat.mul_le_mul_right (cD ^ k) h⟩
  generalize cD ^ k = D at *
  have e1 : (1 : Rat) = mkRat 1 1 := by rw [Rat.mkRat_one]; rfl
  rw [e1, Rat.mkRat_eq_iff (by omega) (by omega)]
  simp
/-! ### the law's own fractions -/
/-! ### sums of shares -/
/-! ### the law's sums -/
/-! ### sums and products over lists -/
section
variable {α β : Type}
open Classical in
end
/-! ### boxes of lots -/
section
variable {n : Nat} {w g : List Nat} {f : List Bool}
open Classical in
end
/-! ### chances told -/
/-! ### keys: (cost, size, lot) compared -/
@[simp] theorem fLen_ktp (xs : List D) : fLen (.ktp xs) = some (.int xs.length) := rfl
/-! ### polynomials as lists of coefficients -/
/-! ### lists of ints, x[k] += e -/
def zi (l : List Int) : List D := l.map .int
@[simp] theorem zi_length (l : List Int) : (zi l).length = l.length := by simp [zi]
theorem zeros_flat (k : Nat) : (List.replicate k [D.int 0]).flatten = zi (List.replicate k 0) := by
  induction k with
  | zero => rfl
  | succ k ih => rw [List.replicate_succ, List.flatten_cons, ih, List.replicate_succ]; rfl
@[simp] theorem fMul_zeros (k : Nat) (h : k ≤ 1000) : fMul (.lst [.int 0]) (.int (k : Int)) = some (.lst (zi (List.replicate k 0))) := by
  show (if (k : Int).natAbs < 2 ^ 62 ∧ 1 * (k : Int).toNat ≤ big then some (D.lst (List.replicate (k : Int).toNat [D.int 0]).flatten) else none) = _
  rw [if_pos ⟨by omega, by rw [Int.toNat_natCast]; unfold big; omega⟩, Int.toNat_natCast, zeros_flat]
@[simp] theorem fMulL_zeros (k : Nat) (h : k ≤ 1000) : fMulL (.lst [.int 0]) (.int (k : Int)) = some (.lst (zi (List.replicate k 0))) := fMul_zeros k h
/-! ### the worth of a place -/
/-! ### binomials -/
/-! ### times 1 + x -/
/-! ### the harmless lots by their sizes -/
/-! ### all the lots have one length -/
/-! ### the numbers of harmless lots -/
/-! ### f_numbers -/
/-! ### orders -/
/-! ### when harm is done -/
/-! ### survival, wear -/
/-! ### the law's worn -/
/-! ### sorted by keys that are lists of ints -/
/-! ### the greatest lots in their order -/
/-! ### by length, then by places -/
/-! ### lots that meet -/
/-! ### how many greatest lots -/
/-! ### a deed more -/
/-! ### lots moved -/
/-- the place of a place other than p, before p's deed came in -/
def us (p x : Nat) : Nat := if p < x then x - 1 else x
section
variable {n : Nat} {w g : List Nat} {p d : Nat}
end
/-! ### the chance with a deed more -/
/-! ### a greatest lot's number -/
@[simp] theorem fIn_setN (x : Nat) (l : List Nat) : fIn (.int (x : Int)) (setN l) = some (.bl (decide (x ∈ l))) := by
  unfold fIn fInB setN fInZ
  dsimp only
  rw [toInts_map]
  simp [mem_ded]
  constructor
  · rintro ⟨y, h1, h2⟩
    have : y = x := by omega
    exact this ▸ h1
  · intro h
    exact ⟨x, h, rfl⟩
/-! ### the lot of a number -/
/-! ### weighted sums over a dict of rows -/
/-! ### how many greatest lots hold a place -/
section
variable {n : Nat} {w g : List Nat} {Ls : List (List (List Nat × Nat))}
end
/-! ### exchanges: one partner, and no other -/
section
variable {n : Nat} {w : List Nat} {f : List Bool} {r g : List Nat}
end
section
variable {n : Nat} {w r g : List Nat} {f f' : List Bool}
end
/-! ### on lots -/
section
variable {n : Nat} {w g l : List Nat} {p q : Nat}
end
section
variable {n : Nat} {w g l : List Nat} {p q : Nat}
end
section
variable {n : Nat} {w g l : List Nat}
end
/-! ### the order of the greatest lots -/
section
variable {n : Nat} {w g l : List Nat} {p q : Nat}
end
/-! ### the first greatest lot above a lot -/
section
variable {n : Nat} {w g lot : List Nat} {Ls : List (List (List Nat × Nat))}
end
section
variable {n : Nat} {w g lot : List Nat} {Ls : List (List (List Nat × Nat))}
end
section
variable {n : Nat} {w g l lot : List Nat}
end
section
variable {n : Nat} {w g : List Nat}
end
/-! ### the same defs, where what goes wrong is raised -/
theorem need_cards_okR (n : Nat) (h1 : 1 ≤ n) (h2 : n ≤ 7) : Val g_need_cards_v2 [.int (n : Int)] .non := by
  refine Val.run ?_
  have h := is_from_ok (n : Int) 1 7
  have e1 : (1 : Int) ≤ n ∧ (n : Int) ≤ 7 := by omega
  rw [decide_eq_true e1] at h
  simp [b_need_cards_v2, h.call]
theorem need_word_okR {n : Nat} {w : List Nat} (h : Bel (n - 1) w) (hl : w.length ≤ 200) : Val g_need_word_v2_2 [.int (n : Int), .tup (tn w)] .non := by
  have key : Val g_need_word_v2 [.int (n : Int), .tup (tn w), .int 200] .non := by
    refine Val.run ?_
    have lc := lc_map (g := setV 3) (ft := rtn true) (fe := b_need_word_v2_E1) (vs := [3]) (ds := tn w) (e := ⟨[.val (.int (n : Int)), .val (.tup (tn w)), .val (.int 200), .und], []⟩) (fun _ => true) (fun _ => .bl true) rfl (by simp; omega) fun d hd => by
      obtain ⟨x, hx, rfl⟩ := mem_tn hd
      have hf := is_from_ok (x : Int) 0 ((n : Int) - 2)
      have := h x hx
      rw [decide_eq_true (by omega)] at hf
      exact ⟨_, rfl, rfl, fun _ => by simp [b_need_word_v2_E1, wipeS, hf.call], rfl, rfl⟩
    have e1 : ¬ (200 : Int) < w.length := by omega
    rw [List.filter_eq_self.mpr (fun _ _ => rfl)] at lc
    simp [b_need_word_v2, lc, e1]
  exact key
section
variable {n : Nat} {w g : List Nat} (h1 : 1 ≤ n) (hn : n ≤ 7) (hh : hashOk n = true) (hw : Bel (n - 1) w) (hl : w.length ≤ 40) (hg : Row n g)
include h1 hn hh hw hl hg
end
/-! ### the law's own count -/
/-! ### values that cannot stand -/
theorem toBls_of {α : Type} (f : α → Bool) : ∀ l : List α, toBls (l.map fun x => D.bl (f x)) = some (l.map f)
  | [] => rfl
  | x :: l => by
    show (toBls (l.map fun x => D.bl (f x))).map (f x :: ·) = _
    rw [toBls_of f l]; rfl
theorem fAll_of {α : Type} (f : α → Bool) (l : List α) : fAll (.lst (l.map fun x => D.bl (f x))) = some (.bl (l.all f)) := by
  unfold fAll
  dsimp only
  rw [toBls_of]
  simp [List.all_map]
/-! ### the first that cannot stand is told -/
section
variable {a b c d e : D} {cls : Addr} {as : List D} (h : ValE g_table_of_v3 [a, b, c] cls as)
include h
end
section
variable {n : Nat} {w g : List Nat} {Ts : List Rat} (h1 : 1 ≤ n) (hn : n ≤ 7) (hh : hashOk n = true) (hw : Bel (n - 1) w) (hl : w.length ≤ 40) (hg : Row n g)
include h1 hn hh hw hl hg
end
theorem cand_ne {l : List Str} (h : CAND l) {i j : Nat} {x y : Str} (hi : l[i]? = some x) (hj : l[j]? = some y) (ne : i ≠ j) : ¬ CA.at x = CA.at y := fun e => by
  have h : (l.map CA.at).Nodup := h
  have h1 : (l.map CA.at)[i]? = some (CA.at x) := by rw [List.getElem?_map, hi]; rfl
  have h2 : (l.map CA.at)[j]? = some (CA.at y) := by rw [List.getElem?_map, hj]; rfl
  have li := (List.getElem?_eq_some_iff.mp h1).1
  exact ne ((List.getElem?_inj li h).mp (by rw [h1, h2, e]))
theorem rep_flat {α : Type} (x : α) : ∀ k : Nat, (List.replicate k [x]).flatten = List.replicate k x
  | 0 => rfl
  | k + 1 => by rw [List.replicate_succ, List.flatten_cons, rep_flat x k, List.replicate_succ]; rfl
theorem fMulT_rep (m k : Nat) (h : k ≤ 1000) : fMulT (.tup [.int (m : Int)]) (.int (k : Int)) = some (.tup (tn (List.replicate k m))) := by
  unfold fMulT
  dsimp only
  rw [if_pos ⟨by simp, by simp, by omega, by omega⟩, Int.toNat_natCast, rep_flat]
  unfold tn
  rw [List.map_replicate]
/-! ### values that are no lots, no numbers -/
/-! ### values of all kinds, asked what they are -/
inductive AnyV : D → Prop
  | non : AnyV .non | bl (b : Bool) : AnyV (.bl b) | int (i : Int) : AnyV (.int i) | str (x : Str) : AnyV (.str x) | tup (xs : List D) : AnyV (.tup xs) | lst (xs : List D) : AnyV (.lst xs) | dct : AnyV (.dct [])
/-- .. and what is in them -/
def Any2 (d : D) : Prop := AnyV d ∧ ∀ xs, d = .tup xs → xs.length ≤ 1000 ∧ ∀ x ∈ xs, AnyV x
theorem Any2.of {d : D} (h : AnyV d) (n : ∀ xs, d ≠ .tup xs) : Any2 d := ⟨h, fun xs e => absurd e (n xs)⟩
theorem Any2.tup {xs : List D} (hl : xs.length ≤ 1000) (h : ∀ x ∈ xs, AnyV x) : Any2 (.tup xs) := ⟨.tup xs, fun ys e => by cases e; exact ⟨hl, h⟩⟩
def intOf : D → Int
  | .int i => i
  | _ => 0
def intB : D → Bool
  | .int _ => true
  | _ => false
def fromB (lo hi : Int) : D → Bool
  | .int i => decide (lo ≤ i ∧ i ≤ hi)
  | _ => false
theorem is_integer_any {d : D} (h : AnyV d) : Val g_is_integer [d] (.bl (intB d)) := by
  refine Val.run ?_
  cases h <;> simp [b_is_integer, intB]
theorem is_from_any {d : D} (h : AnyV d) (lo hi : Int) : Val g_is_from [d, .int lo, .int hi] (.bl (fromB lo hi d)) := by
  have a := is_integer_any h
  cases h with
  | int i => exact is_from_ok i lo hi
  | _ => exact Val.run (by simp [b_is_from, a.call, intB, fromB])
section
variable {n : Nat} {d : D} {xs : List D}
theorem all_any (f : D → Bool) (xs : List D) : fAll (.lst (xs.map fun x => D.bl (f x))) = some (.bl (xs.all f)) := fAll_of f xs
/-! #### rows -/
/-- so many cards from 0 on, each just once -/
def rowD (n : Nat) : D → Bool
  | .tup xs => decide (xs.length = n) && (xs.all (fromB 0 ((n : Int) - 1)) && decide ((ded (xs.map intOf)).length = n))
  | _ => false
theorem froms_ints {lo hi : Int} : ∀ {xs : List D}, xs.all (fromB lo hi) = true → xs = (xs.map intOf).map D.int
  | [], _ => rfl
  | x :: r, h => by
    rw [List.all_cons, Bool.and_eq_true] at h
    have ih := froms_ints h.2
    cases x with
    | int i => simp only [List.map_cons]; rw [← ih]; rfl
    | _ => exact absurd h.1 Bool.false_ne_true
theorem row_lc (hx : ∀ x ∈ xs, AnyV x) (hl : xs.length ≤ 1000) : lcRun (setV 2) (rtn true) b_is_row_of_E1 [2] xs ⟨[.val (.int (n : Int)), .val (.tup xs), .und], []⟩ = .ok (.lst (xs.map fun x => .bl (fromB 0 ((n : Int) - 1) x))) ⟨[.val (.int (n : Int)), .val (.tup xs), .und], []⟩ := by
  have lc := lc_of (g := setV 2) (ft := rtn true) (fe := b_is_row_of_E1) (vs := [2]) (e := ⟨[.val (.int (n : Int)), .val (.tup xs), .und], []⟩) (fun x : D => x) (L := xs) (fun _ => true) (fun x => .bl (fromB 0 ((n : Int) - 1) x)) rfl (by show _ ≤ 16000000; omega) fun x hx' => by
    have a := is_from_any (hx x hx') 0 ((n : Int) - 1)
    exact ⟨_, rfl, rfl, fun _ => by simp [b_is_row_of_E1, wipeS, a.call], rfl, rfl⟩
  rw [List.filter_eq_self.mpr (fun _ _ => rfl), List.map_id'] at lc
  exact lc
theorem is_row_any (h : Any2 d) (hn : n ≤ 1000) : Val g_is_row_of [.int (n : Int), d] (.bl (rowD n d)) := by
  obtain ⟨h, h2⟩ := h
  cases h with
  | tup xs =>
    obtain ⟨hl, hx⟩ := h2 xs rfl
    have lc := row_lc (n := n) hx hl
    have fa := all_any (fromB 0 ((n : Int) - 1)) xs
    have e3 : decide ((xs.length : Int) = (n : Int)) = decide (xs.length = n) := decide_eq_decide.mpr (by omega)
    refine Val.run ?_
    by_cases c1 : xs.length = n
    · have r1 : rowD n (.tup xs) = (xs.all (fromB 0 ((n : Int) - 1)) && decide ((ded (xs.map intOf)).length = n)) := by
        show (decide (xs.length = n) && _) = _
        rw [decide_eq_true c1]; rfl
      have c1' : (xs.length : Int) = (n : Int) := by omega
      rw [r1]
      cases c2 : xs.all (fromB 0 ((n : Int) - 1)) with
      | false =>
        rw [c2] at fa
        generalize (xs.map fun x => D.bl (fromB 0 ((n : Int) - 1) x)) = ys at *
        simp [b_is_row_of, c1', lc, fa]
      | true =>
        rw [c2] at fa
        have hz := froms_ints c2
        generalize hz2 : (xs.map intOf) = zs at *
        have hs : fSetOf (.tup xs) = some (.set ((ded zs).map D.int)) := by
          rw [hz]
          unfold fSetOf
          dsimp only
          have : ∀ zs : List Int, toInts (zs.map D.int) = some zs := fun zs => by induction zs with
            | nil => rfl
            | cons a r ih => show (toInts (r.map D.int)).map (a :: ·) = _; rw [ih]; rfl
          rw [this]
          dsimp only
          rw [if_pos (by rw [← hz2, List.length_map]; exact hl)]
        have dl : (ded zs).length ≤ 16000000 := by
          have le : ∀ l : List Int, (ded l).length ≤ l.length := fun l => by
            induction l with
            | nil => exact Nat.le_refl _
            | cons x l ih =>
              unfold ded
              split
              · exact Nat.le_succ_of_le ih
              · exact Nat.succ_le_succ ih
          have := le zs
          have lz : zs.length = xs.length := by rw [← hz2, List.length_map]
          omega
        have e4 : decide (((ded zs).length : Int) = (n : Int)) = decide ((ded zs).length = n) := decide_eq_decide.mpr (by omega)
        generalize (xs.map fun x => D.bl (fromB 0 ((n : Int) - 1) x)) = ys at *
        generalize ded zs = S at *
        simp [b_is_row_of, c1', lc, fa, hs, dl, e4]
    · have r1 : rowD n (.tup xs) = false := by
        show (decide (xs.length = n) && _) = _
        rw [decide_eq_false c1]; rfl
      have c1' : ¬ (xs.length : Int) = (n : Int) := by omega
      rw [r1]
      simp [b_is_row_of, c1']
  | _ => exact Val.run (by simp [b_is_row_of, rowD])
def needRowB : D → Bool
  | .tup xs => decide (1 ≤ xs.length ∧ xs.length ≤ 7) && rowD xs.length (.tup xs)
  | _ => false
theorem need_row_any (h : Any2 d) (hb : needRowB d = false) : ValE g_need_row_v2 [d] (CA.at "BadRow") [] := by
  have h0 := h
  obtain ⟨h, h2⟩ := h
  cases h with
  | tup xs =>
    obtain ⟨hl, hx⟩ := h2 xs rfl
    have a := is_row_any (n := xs.length) h0 hl
    have hb : (decide (1 ≤ xs.length ∧ xs.length ≤ 7) && rowD xs.length (.tup xs)) = false := hb
    refine ValE.run ?_
    by_cases c : 1 ≤ xs.length ∧ xs.length ≤ 7
    · rw [decide_eq_true c, Bool.true_and] at hb
      rw [hb] at a
      have c1 : (1 : Int) ≤ (xs.length : Int) := by omega
      have c2 : (xs.length : Int) ≤ 7 := by omega
      simp [b_need_row_v2, c1, c2, a.call]
    · by_cases c1 : 1 ≤ xs.length
      · have c1' : (1 : Int) ≤ (xs.length : Int) := by omega
        have c2 : ¬ (xs.length : Int) ≤ 7 := by omega
        simp [b_need_row_v2, c1', c2]
      · have c1' : ¬ (1 : Int) ≤ (xs.length : Int) := by omega
        simp [b_need_row_v2, c1']
  | _ => exact ValE.run (by simp [b_need_row_v2])
/-! #### words -/
def wordD (n most : Nat) : D → Bool
  | .tup xs => decide (xs.length ≤ most) && xs.all (fromB 0 ((n : Int) - 2))
  | _ => false
theorem need_word_any (h : Any2 d) (hb : wordD n 200 d = false) : ValE g_need_word_v2_2 [.int (n : Int), d] (CA.at "BadWord") [] := by
  have key : ValE g_need_word_v2 [.int (n : Int), d, .int 200] (CA.at "BadWord") [] := by
    obtain ⟨h, h2⟩ := h
    cases h with
    | tup xs =>
      obtain ⟨hl, hx⟩ := h2 xs rfl
      refine ValE.run ?_
      by_cases c : xs.length ≤ 200
      · have lc := lc_of (g := setV 3) (ft := rtn true) (fe := b_need_word_v2_E1) (vs := [3]) (e := ⟨[.val (.int (n : Int)), .val (.tup xs), .val (.int 200), .und], []⟩) (fun x : D => x) (L := xs) (fun _ => true) (fun x => .bl (fromB 0 ((n : Int) - 2) x)) rfl (by show _ ≤ 16000000; omega) fun x hx' => by
          have a := is_from_any (hx x hx') 0 ((n : Int) - 2)
          exact ⟨_, rfl, rfl, fun _ => by simp [b_need_word_v2_E1, wipeS, a.call], rfl, rfl⟩
        rw [List.filter_eq_self.mpr (fun _ _ => rfl), List.map_id'] at lc
        have fa := all_any (fromB 0 ((n : Int) - 2)) xs
        have hb : (decide (xs.length ≤ 200) && xs.all (fromB 0 ((n : Int) - 2))) = false := hb
        rw [decide_eq_true c, Bool.true_and] at hb
        rw [hb] at fa
        have c1 : ¬ (200 : Int) < (xs.length : Int) := by omega
        generalize (xs.map fun x => D.bl (fromB 0 ((n : Int) - 2) x)) = ys at *
        simp [b_need_word_v2, c1, lc, fa]
      · have c1 : (200 : Int) < (xs.length : Int) := by omega
        simp [b_need_word_v2, c1]
    | _ => exact ValE.run (by simp [b_need_word_v2])
  exact key
/-! #### goals, lots -/
theorem need_goal_any (h : Any2 d) (hn : n ≤ 1000) (hb : rowD n d = false) : ValE g_need_goal_v2 [.int (n : Int), d] (CA.at "BadGoal") [] := by
  have a := is_row_any h hn
  rw [hb] at a
  exact ValE.run (by simp [b_need_goal_v2, a.call])
/-! #### cards -/
theorem need_cards_any (h : AnyV d) (hb : fromB 1 7 d = false) : ValE g_need_cards_v2 [d] (CA.at "BadCards") [] := by
  have a := is_from_any h 1 7
  rw [hb] at a
  exact ValE.run (by simp [b_need_cards_v2, a.call])
end
/-! ### lambdas kept -/
section CLS
variable [CLs]
@[simp] theorem eClo_ap (k : Nat) (e : En) : eClo k e = .ok (.clo k (CLs.lam k) CLs.cl) e := rfl
theorem errV_at {iv k : Nat} {gs : List (Ef D)} {g : Ef D} {cl : List ClV} {z : Str} {e : En} (hs : e.s[iv]? = some (.val (.clo k (CLs.lam k) CLs.cl))) (hg : gs[k]? = some g) : eErrV iv gs cl z e = eErr g cl z e := by
  unfold eErrV
  rw [hs]
  dsimp only
  rw [if_pos ⟨rfl, rfl⟩, hg]
end CLS
theorem eErr_exc {g : Ef D} {cl : List ClV} {z : Str} {e e' : En} {c : Addr} {as : List D} {v : D} (h : g e = .exc c as e') (hs : selV c as cl = some v) : eErr g cl z e = .ok v e' := by
  unfold eErr
  rw [h]
  dsimp only
  rw [hs]
theorem eErr_ok {g : Ef D} {cl : List ClV} {z : Str} {e e' : En} {d : D} (h : g e = .ok d e') : eErr g cl z e = .ok (.str z) e' := by
  unfold eErr
  rw [h]
theorem fNe_self {d : D} (h : okd dmax d = true) : fNe d d = some (.bl false) := by
  unfold fNe
  rw [if_pos ⟨h, h⟩, PySem.SeqAt.eqv_refl_plain _ (py_ok _ _ h).1]
  rfl
def anyB : D → Bool
  | .non => true
  | .bl _ => true
  | .int _ => true
  | .str _ => true
  | .tup _ => true
  | .lst _ => true
  | .dct [] => true
  | _ => false
theorem any_of {d : D} (h : anyB d = true) : AnyV d := by
  unfold anyB at h
  split at h <;> first | exact .non | exact .bl _ | exact .int _ | exact .str _ | exact .tup _ | exact .lst _ | exact .dct | cases h
def any2B : D → Bool
  | .tup xs => decide (xs.length ≤ 1000) && xs.all anyB
  | d => anyB d
theorem any2_of {d : D} (h : any2B d = true) : Any2 d := by
  cases d with
  | tup xs =>
    have h : (decide (xs.length ≤ 1000) && xs.all anyB) = true := h
    rw [Bool.and_eq_true, decide_eq_true_eq, List.all_eq_true] at h
    exact Any2.tup h.1 fun x hx => any_of (h.2 x hx)
  | _ => exact Any2.of (any_of h) (fun xs z => by cases z)
theorem two_words (x : Str) : fMul (.lst [.str x]) (.int 2) = some (.lst [.str x, .str x]) := by
  unfold fMul
  dsimp only
  rw [if_pos ⟨by decide, by simp [big]⟩]
  rfl
theorem ne_words (x : Str) : fNe (.lst [.str x, .str x]) (.lst [.str x, .str x]) = some (.bl false) := fNe_self rfl
theorem ne_word (x : Str) : fNe (.str x) (.str x) = some (.bl false) := fNe_self rfl
theorem ne_nilD : fNe (.lst []) (.lst []) = some (.bl false) := fNe_self rfl

/-! ### pairs out of order, as a relation -/
/-! ### shortest words -/
def DP : List Nat → List Nat → List Nat → Prop
  | r, [], g => r = g
  | r, d :: w, g => d + 1 < r.length ∧ r.getD (d + 1) 0 < r.getD d 0 ∧ DP (exch r d) w g
theorem DP.split : ∀ {w r g : List Nat} {d : Nat}, DP r (w ++ [d]) g → ∃ m, DP r w m ∧ d + 1 < m.length ∧ m.getD (d + 1) 0 < m.getD d 0 ∧ exch m d = g
  | [], r, g, d, p => ⟨r, rfl, p.1, p.2.1, p.2.2⟩
  | e :: w, r, g, d, p => by
    obtain ⟨m, a, b⟩ := DP.split (w := w) p.2.2
    exact ⟨m, ⟨p.1, p.2.1, a⟩, b⟩
theorem DP.row {n : Nat} : ∀ {w r g : List Nat}, Row n r → DP r w g → Row n g
  | [], r, g, h, p => by have p : r = g := p; subst p; exact h
  | d :: w, r, g, h, p => DP.row (h.exch (by have := h.len; have := p.1; omega)) p.2.2
/-! ### steps up -/
def upsP (r : List Nat) : List Nat := (List.range (r.length - 1)).filter fun d => decide (r.getD d 0 < r.getD (d + 1) 0)
theorem mem_ups {r : List Nat} {d : Nat} : d ∈ upsP r ↔ d + 1 < r.length ∧ r.getD d 0 < r.getD (d + 1) 0 := by
  unfold upsP
  rw [List.mem_filter, List.mem_range, decide_eq_true_eq]
  constructor
  · rintro ⟨a, b⟩; exact ⟨by omega, b⟩
  · rintro ⟨a, b⟩; exact ⟨by omega, b⟩
theorem steps_up_ok {r : List Nat} (h0 : 1 ≤ r.length) (h : r.length ≤ 1000) : Val g_steps_up [.tup (tn r)] (.lst (tn (upsP r))) := by
  have lc := lc_of (g := setV 1) (ft := b_steps_up_T1) (fe := b_steps_up_E2) (vs := [1]) (e := ⟨[.val (.tup (tn r)), .und], []⟩) (fun x : Nat => D.int (x : Int)) (L := List.range (r.length - 1)) (fun d => decide (r.getD d 0 < r.getD (d + 1) 0)) (fun x => .int (x : Int)) rfl (by simp; omega) fun d hd => by
    have hd := List.mem_range.mp hd
    have a1 := at_tn r (i := d) (by omega)
    have a2 := at_tn r (i := d + 1) (by omega)
    rw [show ((d + 1 : Nat) : Int) = (d : Int) + 1 by omega] at a2
    refine ⟨⟨[.val (.tup (tn r)), .val (.int (d : Int))], []⟩, by simp [wipeS], ?_, fun _ => ?_, by simp [wipeS], rfl⟩
    · by_cases c : r.getD d 0 < r.getD (d + 1) 0
      · have c' : ((r.getD d 0 : Nat) : Int) < (r.getD (d + 1) 0 : Nat) := by omega
        simp only [List.getD_eq_getElem?_getD] at a1 a2 c c'
        simp [b_steps_up_T1, a1, a2, c, c']
      · have c' : ¬ ((r.getD d 0 : Nat) : Int) < (r.getD (d + 1) 0 : Nat) := by omega
        simp only [List.getD_eq_getElem?_getD] at a1 a2 c c'
        simp [b_steps_up_T1, a1, a2, c, c']
    · simp [b_steps_up_E2]
  rw [tn_map, tn_map] at lc
  refine Val.run ?_
  have sm := small_nat (n := r.length - 1) (by omega)
  have ec : (r.length : Int) - 1 = ((r.length - 1 : Nat) : Int) := by omega
  have eu : (List.range (r.length - 1)).filter (fun d => decide (r.getD d 0 < r.getD (d + 1) 0)) = upsP r := rfl
  rw [eu] at lc
  generalize hk : r.length - 1 = k at *
  simp [b_steps_up, ec, sm, rng_tn, lc]

/-! ### the number of words -/
def dI (x : Nat) : D := .int (x : Int)
def nwRow (c : Nat) (r : List Nat) (us : List Nat) (B : List (List Nat × Nat)) : List (List Nat × Nat) := us.foldl (fun B d => putA B (exch r d) ((look B (exch r d)).getD 0 + c)) B
def nwStep (A : List (List Nat × Nat)) (ks : List (List Nat)) : List (List Nat × Nat) := ks.foldl (fun B r => nwRow ((look A r).getD 0) r (upsP r) B) []
def nwF : Nat → List (List Nat × Nat) → Option (Nat × List (List Nat × Nat))
  | 0, _ => none
  | k + 1, A => if nwStep A (keysA A) = [] then some (0, A) else nwF k (nwStep A (keysA A))
def EN (A : D) (B : DL.Slot) (r0 : List Nat) (s3 s4 s5 : DL.Slot) : En := ⟨[.val (.tup (tn r0)), .val A, B, s3, s4, s5], []⟩
theorem nw_row_ok {n : Nat} {r0 r : List Nat} {A : List (List Nat × Nat)} {c : Nat} (hn : n ≤ 7) (hr : Row n r) (hA : look A r = some c) (s5 : DL.Slot) : ∀ (us : List Nat) (B : List (List Nat × Nat)) (s4 : DL.Slot) , (∀ d ∈ us, d + 1 < n) → DRow n B →
    ∃ t4 t5, loopF (setV 4) b_number_of_words_L1 (tn us) (EN (td dI A) (.own (td dI B)) r0 (.val (.tup (tn r))) s4 s5) = .ok .nx (EN (td dI A) (.own (td dI (nwRow c r us B))) r0 (.val (.tup (tn r))) t4 t5) ∧ DRow n (nwRow c r us B) := by
  intro us B0 s4 hu hB
  obtain ⟨e', h1, B, t4, t5, rfl, hD, hq⟩ := loopF_inv (g := setV 4) (body := b_number_of_words_L1) (fun i e => ∃ B t4 t5, e = EN (td dI A) (.own (td dI B)) r0 (.val (.tup (tn r))) t4 t5 ∧ DRow n B ∧ nwRow c r (us.drop i) B = nwRow c r us B0)
    (tn us) 0 _ ⟨B0, s4, s5, rfl, hB, rfl⟩ fun i d e hd hp => by
      obtain ⟨B, t4, t5, rfl, hD, hq⟩ := hp
      rw [Nat.zero_add] at hq ⊢
      rw [tn_get] at hd
      cases hx : us[i]? with
      | none => rw [hx] at hd; cases hd
      | some x =>
        rw [hx] at hd; cases hd
        have hxn := hu x (List.mem_of_getElem? hx)
        have hl := hr.len
        have ex := exchanged_ok (r := r) (d := x) (by omega) (by omega)
        have hrow : Row n (exch r x) := hr.exch (by omega)
        have hs := hD.small hn
        have eD : us.drop i = x :: us.drop (i + 1) := by
          obtain ⟨hi, e⟩ := List.getElem?_eq_some_iff.mp hx
          rw [List.drop_eq_getElem_cons hi, e]
        rw [eD] at hq
        have hput := fPut_td dI B (exch r x) ((look B (exch r x)).getD 0 + c) (by show _ < 16000000; omega)
        have hg : ((look B (exch r x)).map dI).getD (.int 0) = dI ((look B (exch r x)).getD 0) := by cases look B (exch r x) <;> rfl
        refine ⟨EN (td dI A) (.own (td dI B)) r0 (.val (.tup (tn r))) (.val (.int (x : Int))) t5, EN (td dI A) (.own (td dI (putA B (exch r x) ((look B (exch r x)).getD 0 + c)))) r0 (.val (.tup (tn r))) (.val (.int (x : Int))) (.val (.tup (tn (exch r x)))), by simp [EN], .inl ?_, _, _, _, rfl, hD.put hrow, hq⟩
        have e1 : dI ((look B (exch r x)).getD 0 + c) = .int (((look B (exch r x)).getD 0 : Nat) + (c : Int)) := by unfold dI; rw [Int.natCast_add]
        rw [e1] at hput
        have e2 : ∀ x, dI x = .int (x : Int) := fun _ => rfl
        rw [e2] at hg
        generalize (look B (exch r x)).getD 0 = G at *
        simp [EN, b_number_of_words_L1, ex.call, hA, hg, e2, hput]
  refine ⟨t4, t5, h1.trans ?_, ?_⟩
  · rw [tn_length, Nat.zero_add, List.drop_length] at hq
    have hq : B = nwRow c r us B0 := hq
    rw [hq]
  · rw [tn_length, Nat.zero_add, List.drop_length] at hq
    have hq : B = nwRow c r us B0 := hq
    rw [← hq]; exact hD
theorem nw_step_ok {n : Nat} {r0 : List Nat} {A : List (List Nat × Nat)} (h1n : 1 ≤ n) (hn : n ≤ 7) (hA : DRow n A) (s3 s4 s5 : DL.Slot) :
    ∃ t3 t4 t5, loopF (setV 3) b_number_of_words_L2 (tl (keysA A)) (EN (td dI A) (.own (td dI [])) r0 s3 s4 s5) = .ok .nx (EN (td dI A) (.own (td dI (nwStep A (keysA A)))) r0 t3 t4 t5) ∧ DRow n (nwStep A (keysA A)) := by
  obtain ⟨e', h1, t3, t4, t5, B, rfl, hD, hq⟩ := loopF_inv (g := setV 3) (body := b_number_of_words_L2) (fun i e => ∃ t3 t4 t5 B, e = EN (td dI A) (.own (td dI B)) r0 t3 t4 t5 ∧ DRow n B ∧ ((keysA A).drop i).foldl (fun B r => nwRow ((look A r).getD 0) r (upsP r) B) B = nwStep A (keysA A))
    (tl (keysA A)) 0 _ ⟨s3, s4, s5, [], rfl, DRow.nil, rfl⟩ fun i d e hd hp => by
      obtain ⟨t3, t4, t5, B, rfl, hD, hq⟩ := hp
      rw [Nat.zero_add] at hq ⊢
      obtain ⟨r, hx, rfl⟩ := tl_get' hd
      have hrow := hA.rw r (List.mem_of_getElem? hx)
      obtain ⟨c, hc⟩ := look_of (List.mem_of_getElem? hx)
      have hl := hrow.len
      have eD : (keysA A).drop i = r :: (keysA A).drop (i + 1) := by
        obtain ⟨hi, e⟩ := List.getElem?_eq_some_iff.mp hx
        rw [List.drop_eq_getElem_cons hi, e]
      rw [eD, List.foldl_cons, hc] at hq
      obtain ⟨u4, u5, g1, g2⟩ := nw_row_ok (r0 := r0) hn hrow hc t5 (upsP r) B t4 (fun d hd => by have := (mem_ups.mp hd).1; omega) hD
      have su := steps_up_ok (r := r) (by omega) (by omega)
      refine ⟨_, EN (td dI A) (.own (td dI (nwRow c r (upsP r) B))) r0 (.val (.tup (tn r))) u4 u5, rfl, .inl ?_, _, _, _, nwRow c r (upsP r) B, rfl, g2, hq⟩
      unfold EN at g1 ⊢
      simp [b_number_of_words_L2, su.call, g1]
  refine ⟨t3, t4, t5, h1.trans ?_, ?_⟩
  · rw [tl_length, Nat.zero_add, List.drop_length] at hq
    have hq : B = nwStep A (keysA A) := hq
    rw [hq]
  · rw [tl_length, Nat.zero_add, List.drop_length] at hq
    have hq : B = nwStep A (keysA A) := hq
    rw [← hq]; exact hD
theorem nw_loop {n : Nat} {r0 : List Nat} (h1n : 1 ≤ n) (hn : n ≤ 7) (hr0 : r0.length = n) : ∀ (k : Nat) (A Z : List (List Nat × Nat)) (s2 s3 s4 s5 : DL.Slot) (v : Nat), DRow n A → nwF k A = some (0, Z) → look Z (turnP n) = some v →
    ∃ kk e', whileN b_number_of_words_W4 b_number_of_words_L3 kk (EN (td dI A) s2 r0 s3 s4 s5) = .ok (.rt (.int (v : Int))) e'
  | 0, _, _, _, _, _, _, _, _, h, _ => by cases h
  | k + 1, A, Z, s2, s3, s4, s5, v, hA, h, hv => by
    obtain ⟨t3, t4, t5, g1, g2⟩ := nw_step_ok (r0 := r0) h1n hn hA s3 s4 s5
    unfold nwF at h
    have tr := turned_row_ok (n := n) (by omega)
    by_cases c : nwStep A (keysA A) = []
    · rw [if_pos c] at h
      cases h
      rw [c] at g1
      obtain ⟨kk, hk⟩ := sWhile_ret (c := b_number_of_words_W4) (body := b_number_of_words_L3) (e := EN (td dI A) s2 r0 s3 s4 s5) (e1 := EN (td dI A) s2 r0 s3 s4 s5) (e2 := EN (td dI A) (.val (td dI [])) r0 t3 t4 t5) (d := .int (v : Int)) (by simp [b_number_of_words_W4]) (by
        have e2 : ∀ x, dI x = .int (x : Int) := fun _ => rfl
        have g1' := noX_ok g1
        have e3 : D.dcT [] = td dI [] := rfl
        have e4 : keysD (td dI []) = some [] := rfl
        unfold EN at *
        simp [b_number_of_words_L3, e3, e4, g1', hr0, tr.call, hv, e2])
      exact ⟨kk, _, hk⟩
    · rw [if_neg c] at h
      obtain ⟨kk, e', hk⟩ := nw_loop h1n hn hr0 k (nwStep A (keysA A)) Z (.val (td dI (nwStep A (keysA A)))) t3 t4 t5 v g2 h hv
      obtain ⟨kk2, hk2⟩ := sWhile_step (c := b_number_of_words_W4) (body := b_number_of_words_L3) (e := EN (td dI A) s2 r0 s3 s4 s5) (e1 := EN (td dI A) s2 r0 s3 s4 s5) (e2 := EN (td dI (nwStep A (keysA A))) (.val (td dI (nwStep A (keysA A)))) r0 t3 t4 t5) (by simp [b_number_of_words_W4]) (by
        have g1' := noX_ok g1
        have e3 : D.dcT [] = td dI [] := rfl
        have e4 : ∀ B : List (List Nat × Nat), B ≠ [] → ∃ ks, keysD (td dI B) = some ks ∧ ks.isEmpty = false := fun B hB => by
          cases B with
          | nil => exact absurd rfl hB
          | cons b B => exact ⟨_, rfl, rfl⟩
        obtain ⟨ks, e5, e6⟩ := e4 _ c
        unfold EN at *
        generalize nwStep A (keysA A) = B at *
        simp [b_number_of_words_L3, e3, g1', e5, e6]) ⟨kk, hk⟩
      exact ⟨kk2, e', hk2⟩

theorem number_of_words_ok {n : Nat} {r : List Nat} (h1n : 1 ≤ n) (hn : n ≤ 7) (hr : Row n r) {k v : Nat} {Z : List (List Nat × Nat)} (h : nwF k [(r, 1)] = some (0, Z)) (hv : look Z (turnP n) = some v) : Val g_number_of_words [.tup (tn r)] (.int (v : Int)) := by
  obtain ⟨kk, e', hk⟩ := nw_loop h1n hn hr.len k [(r, 1)] Z .und .und .und .und v (DRow.one hr) h hv
  have sw := sWhile_eq hk (by intro z; cases z)
  have e1 : td dI [(r, 1)] = .dcT [(.tup (tn r), .int 1)] := rfl
  rw [e1] at sw
  unfold EN at sw
  have km := keysM_tn r
  refine Val.run ?_
  simp [b_number_of_words, eDct1, km, sw]
/-! ### all shortest words, back from a row -/
def pD (p : List Nat × List Nat) : D := .tup [.tup (tn p.1), .tup (tn p.2)]
def awF : Nat → List (List Nat × List Nat) → List (List Nat) → Option (List (List Nat))
  | 0, _, _ => none
  | k + 1, heads, found => match heads.getLast? with
    | none => some found
    | some p => awF k (heads.dropLast ++ (upsP p.1).map fun d => (exch p.1 d, d :: p.2)) (if upsP p.1 = [] then found ++ [p.2] else found)
theorem pop_pD {H : List (List Nat × List Nat)} {p : List Nat × List Nat} (h : H.getLast? = some p) : fPop0 (.lst (H.map pD)) [] = some (.lst (H.dropLast.map pD), pD p) := by
  have e : H = H.dropLast ++ [p] := by
    have hne : H ≠ [] := fun z => by rw [z] at h; cases h
    rw [List.getLast?_eq_some_getLast hne] at h
    have := List.dropLast_concat_getLast hne
    rw [Option.some.inj h] at this
    exact this.symm
  unfold fPop0
  dsimp only
  rw [List.length_map, List.getElem?_map]
  have e2 : H[H.length - 1]? = some p := by rw [← List.getLast?_eq_getElem?]; exact h
  rw [e2]
  show some (D.lst (H.map pD).dropLast, pD p) = _
  rw [List.map_dropLast]
theorem fNe_pD (P : List (List Nat × List Nat)) : fNe (.lst (P.map pD)) (.lst []) = some (.bl (!decide (P = []))) := by
  have ok : okd dmax (.lst (P.map pD)) = true := by simp [okd, dmax, pD, tn]
  unfold fNe
  rw [if_pos ⟨ok, rfl⟩]
  cases P with
  | nil => rfl
  | cons p P => rfl
theorem aw_loop {n : Nat} {r0 : List Nat} (h1n : 1 ≤ n) (hn : n ≤ 7) : ∀ (k : Nat) (H : List (List Nat × List Nat)) (S W : List (List Nat)) (s3 s4 s5 : DL.Slot), (∀ p ∈ H, Row n p.1 ∧ p.2.length ≤ 8000 - k) → k ≤ 8000 → H.length + 10 * k ≤ 100000 → S.length + k ≤ 100000 → awF k H S = some W →
    ∃ kk e', whileN b_all_words_W3 b_all_words_L2 kk ⟨[.val (.tup (tn r0)), .own (.lst (H.map pD)), .own (.lst (tl S)), s3, s4, s5, .und], []⟩ = .ok .nx e' ∧ ∃ t1 t3 t4 t5, e' = ⟨[.val (.tup (tn r0)), t1, .own (.lst (tl W)), t3, t4, t5, .und], []⟩
  | 0, _, _, _, _, _, _, _, _, _, _, h => by cases h
  | k + 1, H, S, W, s3, s4, s5, hp, hk, hH, hS, h => by
    unfold awF at h
    cases hl : H.getLast? with
    | none =>
      rw [hl] at h
      cases h
      have e : H = [] := List.getLast?_eq_none_iff.mp hl
      subst e
      obtain ⟨kk, hk⟩ := sWhile_end (c := b_all_words_W3) (body := b_all_words_L2) (e := ⟨[.val (.tup (tn r0)), .own (.lst []), .own (.lst (tl S)), s3, s4, s5, .und], []⟩) (e1 := ⟨[.val (.tup (tn r0)), .own (.lst []), .own (.lst (tl S)), s3, s4, s5, .und], []⟩) (by
        have ne := fNe_pD []
        rw [List.map_nil] at ne
        simp [b_all_words_W3, ne])
      exact ⟨kk, _, hk, _, _, _, _, rfl⟩
    | some p =>
      rw [hl] at h
      dsimp only at h
      have hne : H ≠ [] := fun z => by rw [z] at hl; cases hl
      have hpm : p ∈ H := List.mem_of_getLast? hl
      obtain ⟨hrow, hw⟩ := hp p hpm
      have hlr := hrow.len
      have pp := pop_pD hl
      have su := steps_up_ok (r := p.1) (by omega) (by omega)
      have hul : (upsP p.1).length ≤ 7 := by
        unfold upsP
        have := List.length_filter_le (fun d => decide (p.1.getD d 0 < p.1.getD (d + 1) 0)) (List.range (p.1.length - 1))
        rw [List.length_range] at this
        omega
      have hS' : (if upsP p.1 = [] then S ++ [p.2] else S).length + k ≤ 100000 := by
        split
        · rw [List.length_append]; show S.length + 1 + k ≤ _; omega
        · omega
      obtain ⟨kk, e', hk1, hk2⟩ := aw_loop (r0 := r0) h1n hn k (H.dropLast ++ (upsP p.1).map fun d => (exch p.1 d, d :: p.2)) (if upsP p.1 = [] then S ++ [p.2] else S) W (.val (.lst (tn (upsP p.1)))) (.val (.tup (tn p.1))) (.val (.tup (tn p.2))) (fun q hq => by
        rcases List.mem_append.mp hq with hq | hq
        · have := hp q (List.dropLast_subset H hq)
          exact ⟨this.1, by omega⟩
        · obtain ⟨d, hd, rfl⟩ := List.mem_map.mp hq
          exact ⟨hrow.exch (by have := (mem_ups.mp hd).1; omega), by simp; omega⟩) (by omega) (by
          rw [List.length_append, List.length_map, List.length_dropLast]; omega) hS' h
      have lc := lc_of (g := setV 6) (ft := rtn true) (fe := b_all_words_E1) (vs := [6]) (e := ⟨[.val (.tup (tn r0)), .own (.lst (H.dropLast.map pD)), .own (.lst (tl (if upsP p.1 = [] then S ++ [p.2] else S))), .val (.lst (tn (upsP p.1))), .val (.tup (tn p.1)), .val (.tup (tn p.2)), .und], []⟩) (fun x : Nat => D.int (x : Int)) (L := upsP p.1) (fun _ => true) (fun d => pD (exch p.1 d, d :: p.2)) rfl (by show _ ≤ 16000000; omega) fun d hd => by
        have hd := (mem_ups.mp hd).1
        have ex := exchanged_ok (r := p.1) (d := d) (by omega) (by omega)
        refine ⟨⟨[.val (.tup (tn r0)), .own (.lst (H.dropLast.map pD)), .own (.lst (tl (if upsP p.1 = [] then S ++ [p.2] else S))), .val (.lst (tn (upsP p.1))), .val (.tup (tn p.1)), .val (.tup (tn p.2)), .val (.int (d : Int))], []⟩, by simp [wipeS], rfl, fun _ => ?_, by simp [wipeS], rfl⟩
        have hwb : p.2.length + 1 ≤ 16000000 := by omega
        simp [b_all_words_E1, ex.call, pD, tn_cons, hwb]
      rw [List.filter_eq_self.mpr (fun _ _ => rfl), tn_map] at lc
      have hW : b_all_words_W3 ⟨[.val (.tup (tn r0)), .own (.lst (H.map pD)), .own (.lst (tl S)), s3, s4, s5, .und], []⟩ = .ok true ⟨[.val (.tup (tn r0)), .own (.lst (H.map pD)), .own (.lst (tl S)), s3, s4, s5, .und], []⟩ := by
        have ne := fNe_pD H
        rw [decide_eq_false hne] at ne
        generalize H.map pD = H1 at *
        simp [b_all_words_W3, ne]
      have hdl : H.dropLast.length = H.length - 1 := List.length_dropLast
      have fe : fExtend (.lst (H.dropLast.map pD)) [.lst ((upsP p.1).map fun d => pD (exch p.1 d, d :: p.2))] = some (.lst ((H.dropLast ++ (upsP p.1).map fun d => (exch p.1 d, d :: p.2)).map pD), .non) := by
        unfold fExtend
        dsimp only
        rw [if_pos (by rw [List.length_map, List.length_map, hdl]; show _ ≤ 16000000; omega), List.map_append, List.map_map]
        rfl
      obtain ⟨kk2, hk3⟩ := sWhile_step (c := b_all_words_W3) (body := b_all_words_L2) (e2 := ⟨[.val (.tup (tn r0)), .own (.lst ((H.dropLast ++ (upsP p.1).map fun d => (exch p.1 d, d :: p.2)).map pD)), .own (.lst (tl (if upsP p.1 = [] then S ++ [p.2] else S))), .val (.lst (tn (upsP p.1))), .val (.tup (tn p.1)), .val (.tup (tn p.2)), .und], []⟩) hW (by
        have hpd : pD p = .tup [.tup (tn p.1), .tup (tn p.2)] := rfl
        rw [hpd] at pp
        generalize (H.dropLast ++ (upsP p.1).map fun d => (exch p.1 d, d :: p.2)).map pD = HH at *
        generalize (upsP p.1).map (fun d => pD (exch p.1 d, d :: p.2)) = NN at *
        generalize H.map pD = H1 at *
        generalize H.dropLast.map pD = H2 at *
        by_cases c : upsP p.1 = []
        · have hb : S.length < 16000000 := by omega
          have e1 : tl (S ++ [p.2]) = tl S ++ [.tup (tn p.2)] := by rw [tl_append]; rfl
          rw [if_pos c] at *
          rw [c] at su lc
          rw [tn_nil] at su lc
          rw [e1] at lc ⊢
          rw [c, tn_nil]
          have hap : fAppend (.lst (tl S)) [.tup (tn p.2)] = some (.lst (tl S ++ [.tup (tn p.2)]), .non) := by
            unfold fAppend; dsimp only; rw [if_pos (by rw [tl_length]; exact hb)]
          simp [b_all_words_L2, pp, su.call, hap, lc, fe]
        · rw [if_neg c] at *
          simp [b_all_words_L2, pp, su.call, c, lc, fe]) ⟨kk, hk1⟩
      exact ⟨kk2, e', hk3, hk2⟩

theorem all_words_ok {n : Nat} {r : List Nat} (h1n : 1 ≤ n) (hn : n ≤ 7) (hr : Row n r) {k k2 v : Nat} {Z : List (List Nat × Nat)} {W : List (List Nat)} (h : nwF k [(r, 1)] = some (0, Z)) (hv : look Z (turnP n) = some v) (hv2 : v ≤ 5000) (hk2 : k2 ≤ 8000)
    (ha : awF k2 [(r, [])] [] = some W) (hW : W.length ≤ 1 ∨ ∀ l ∈ W, l ≠ []) : Val g_all_words [.tup (tn r)] (.tup (tl (sortT W))) := by
  obtain ⟨kk, e', hk1, t1, t3, t4, t5, rfl⟩ := aw_loop (r0 := r) h1n hn k2 [(r, [])] [] W .und .und .und (fun p hp => by
    rw [List.mem_singleton.mp hp]; exact ⟨hr, Nat.zero_le _⟩) hk2 (by simp; omega) (by simp; omega) ha
  have sw := sWhile_eq hk1 (by intro z; cases z)
  have e1 : ([(r, [])] : List (List Nat × List Nat)).map pD = [.tup [.tup (tn r), .tup []]] := rfl
  have e2 : tl [] = [] := rfl
  rw [e1, e2] at sw
  have nr := need_row_ok hr h1n hn
  have nw := number_of_words_ok h1n hn hr h hv
  have so := fSortedX_tl hW
  have c : ¬ (5000 : Int) < v := by omega
  refine Val.run ?_
  generalize tl (sortT W) = TS at *
  simp [b_all_words, nr.call, nw.call, c, sw, so]
theorem count_words_ok {n : Nat} {r : List Nat} (h1n : 1 ≤ n) (hn : n ≤ 7) (hr : Row n r) {k v : Nat} {Z : List (List Nat × Nat)} (h : nwF k [(r, 1)] = some (0, Z)) (hv : look Z (turnP n) = some v) : Val g_count_words [.tup (tn r)] (.int (v : Int)) := by
  have nr := need_row_ok hr h1n hn
  have nw := number_of_words_ok h1n hn hr h hv
  refine Val.run ?_
  simp [b_count_words, nr.call, nw.call]
/-! ### the law's shortest words -/
/-! ### errors of words -/
section
variable {n : Nat} {w g : List Nat} {a b d x y z v : D} {cls : Addr} {as : List D}
theorem both_cards (h : AnyV d) (hb : fromB 1 7 d = false) (x : D) : ValE g_need_both_v2 [d, x] (CA.at "BadCards") [] := by
  have a := need_cards_any h hb
  exact ValE.run (by simp [b_need_both_v2, a.call])
theorem both_word (h1 : 1 ≤ n) (hn : n ≤ 7) (h : Any2 d) (hb : wordD n 200 d = false) : ValE g_need_both_v2 [.int (n : Int), d] (CA.at "BadWord") [] := by
  have a := need_cards_okR n h1 hn
  have b := need_word_any h hb
  exact ValE.run (by simp [b_need_both_v2, a.call, b.call])
theorem both_okR (h1 : 1 ≤ n) (hn : n ≤ 7) (hw : Bel (n - 1) w) (hl : w.length ≤ 200) : Val g_need_both_v2 [.int (n : Int), .tup (tn w)] .non := by
  have a := need_cards_okR n h1 hn
  have b := need_word_okR hw hl
  refine Val.run ?_
  generalize tn w = W at *
  simp [b_need_both_v2, a.call, b.call]
theorem end_excB (h : ValE g_need_both_v2 [a, b] cls as) : ValE g_end_v2 [a, b] cls as := ValE.run (by simp [b_end_v2, h.call])
theorem alike_excB (h : ValE g_need_both_v2 [a, b] cls as) (x : D) : ValE g_are_alike_v2 [a, b, x] cls as := ValE.run (by simp [b_are_alike_v2, h.call])
theorem sorts_excB (h : ValE g_need_both_v2 [a, b] cls as) : ValE g_sorts_all_v2 [a, b] cls as := by
  have k := end_excB h
  exact ValE.run (by simp [b_sorts_all_v2, k.call])
theorem leastw_excB (h : ValE g_need_both_v2 [a, b] cls as) : ValE g_least_word_v4 [a, b] cls as := by
  have k := end_excB h
  exact ValE.run (by simp [b_least_word_v4, k.call])
theorem lacking_excB (h : ValE g_need_both_v2 [a, b] cls as) : ValE g_lacking_v3 [a, b] cls as := by
  have k := end_excB h
  exact ValE.run (by simp [b_lacking_v3, k.call])
theorem scat_excB (h : ValE g_need_both_v2 [a, b] cls as) (x : D) : ValE g_scattered_v2 [a, b, x] cls as := ValE.run (by simp [b_scattered_v2, h.call])
theorem alike_word2 (h : Val g_need_both_v2 [a, b] .non) (h2 : ValE g_need_word_v2_2 [a, x] cls as) : ValE g_are_alike_v2 [a, b, x] cls as := ValE.run (by simp [b_are_alike_v2, h.call, h2.call])
theorem scat_goal (h : Val g_need_both_v2 [a, b] .non) (h2 : ValE g_need_goal_v2 [a, x] cls as) : ValE g_scattered_v2 [a, b, x] cls as := ValE.run (by simp [b_scattered_v2, h.call, h2.call])
theorem count_row (h : Any2 d) (hb : needRowB d = false) : ValE g_count_words_v2 [d] (CA.at "BadRow") [] := by
  have a := need_row_any h hb
  exact ValE.run (by simp [b_count_words_v2, a.call])
theorem words_row (h : Any2 d) (hb : needRowB d = false) : ValE g_all_words_v2 [d] (CA.at "BadRow") [] := by
  have a := need_row_any h hb
  exact ValE.run (by simp [b_all_words_v2, a.call])
end
/-! ### the numbers of words of the rows in order -/
def nwV (n : Nat) : Option Nat := match nwF 30 [(List.range n, 1)] with
  | some (0, Z) => look Z (turnP n)
  | _ => none
theorem nwV_ok {n v : Nat} (h : nwV n = some v) : ∃ Z, nwF 30 [(List.range n, 1)] = some (0, Z) ∧ look Z (turnP n) = some v := by
  unfold nwV at h
  split at h
  · rename_i Z e
    exact ⟨Z, e, h⟩
  · cases h
theorem nwV_1 : nwV 1 = some 1 := by decide +kernel
theorem nwV_2 : nwV 2 = some 1 := by decide +kernel
theorem nwV_3 : nwV 3 = some 2 := by decide +kernel
theorem nwV_4 : nwV 4 = some 16 := by decide +kernel
theorem nwV_5 : nwV 5 = some 768 := by decide +kernel
def L6_0 : List (List Nat × Nat) := [([0, 1, 2, 3, 4, 5], 1)]
def L6_1 : List (List Nat × Nat) := [([1, 0, 2, 3, 4, 5], 1), ([0, 2, 1, 3, 4, 5], 1), ([0, 1, 3, 2, 4, 5], 1), ([0, 1, 2, 4, 3, 5], 1), ([0, 1, 2, 3, 5, 4], 1)]
def L6_2 : List (List Nat × Nat) := [([1, 2, 0, 3, 4, 5], 1), ([1, 0, 3, 2, 4, 5], 2), ([1, 0, 2, 4, 3, 5], 2), ([1, 0, 2, 3, 5, 4], 2), ([2, 0, 1, 3, 4, 5], 1), ([0, 2, 3, 1, 4, 5], 1), ([0, 2, 1, 4, 3, 5], 2), ([0, 2, 1, 3, 5, 4], 2), ([0, 3, 1, 2, 4, 5], 1), ([0, 1, 3, 4, 2, 5], 1), ([0, 1, 3, 2, 5, 4], 2), ([0, 1, 4, 2, 3, 5], 1), ([0, 1, 2, 4, 5, 3], 1), ([0, 1, 2, 5, 3, 4], 1)]
def L6_3 : List (List Nat × Nat) := [([2, 1, 0, 3, 4, 5], 2), ([1, 2, 3, 0, 4, 5], 1), ([1, 2, 0, 4, 3, 5], 3), ([1, 2, 0, 3, 5, 4], 3), ([1, 3, 0, 2, 4, 5], 2), ([1, 0, 3, 4, 2, 5], 3), ([1, 0, 3, 2, 5, 4], 6), ([1, 0, 4, 2, 3, 5], 3), ([1, 0, 2, 4, 5, 3], 3), ([1, 0, 2, 5, 3, 4], 3), ([2, 0, 3, 1, 4, 5], 2), ([2, 0, 1, 4, 3, 5], 3), ([2, 0, 1, 3, 5, 4], 3), ([0, 3, 2, 1, 4, 5], 2), ([0, 2, 3, 4, 1, 5], 1), ([0, 2, 3, 1, 5, 4], 3), ([0, 2, 4, 1, 3, 5], 2), ([0, 2, 1, 4, 5, 3], 3), ([0, 2, 1, 5, 3, 4], 3), ([3, 0, 1, 2, 4, 5], 1), ([0, 3, 1, 4, 2, 5], 2), ([0, 3, 1, 2, 5, 4], 3), ([0, 1, 4, 3, 2, 5], 2), ([0, 1, 3, 4, 5, 2], 1), ([0, 1, 3, 5, 2, 4], 2), ([0, 4, 1, 2, 3, 5], 1), ([0, 1, 4, 2, 5, 3], 2), ([0, 1, 2, 5, 4, 3], 2), ([0, 1, 5, 2, 3, 4], 1)]
def L6_4 : List (List Nat × Nat) := [([2, 1, 3, 0, 4, 5], 3), ([2, 1, 0, 4, 3, 5], 8), ([2, 1, 0, 3, 5, 4], 8), ([1, 3, 2, 0, 4, 5], 3), ([1, 2, 3, 4, 0, 5], 1), ([1, 2, 3, 0, 5, 4], 4), ([1, 2, 4, 0, 3, 5], 3), ([1, 2, 0, 4, 5, 3], 6), ([1, 2, 0, 5, 3, 4], 6), ([3, 1, 0, 2, 4, 5], 3), ([1, 3, 0, 4, 2, 5], 5), ([1, 3, 0, 2, 5, 4], 8), ([1, 0, 4, 3, 2, 5], 8), ([1, 0, 3, 4, 5, 2], 4), ([1, 0, 3, 5, 2, 4], 8), ([1, 4, 0, 2, 3, 5], 3), ([1, 0, 4, 2, 5, 3], 8), ([1, 0, 2, 5, 4, 3], 8), ([1, 0, 5, 2, 3, 4], 4), ([2, 3, 0, 1, 4, 5], 2), ([2, 0, 3, 4, 1, 5], 3), ([2, 0, 3, 1, 5, 4], 8), ([2, 0, 4, 1, 3, 5], 5), ([2, 0, 1, 4, 5, 3], 6), ([2, 0, 1, 5, 3, 4], 6), ([3, 0, 2, 1, 4, 5], 3), ([0, 3, 2, 4, 1, 5], 3), ([0, 3, 2, 1, 5, 4], 8), ([0, 2, 4, 3, 1, 5], 3), ([0, 2, 3, 4, 5, 1], 1), ([0, 2, 3, 5, 1, 4], 3), ([0, 4, 2, 1, 3, 5], 3), ([0, 2, 4, 1, 5, 3], 5), ([0, 2, 1, 5, 4, 3], 8), ([0, 2, 5, 1, 3, 4], 3), ([3, 0, 1, 4, 2, 5], 3), ([3, 0, 1, 2, 5, 4], 4), ([0, 3, 4, 1, 2, 5], 2), ([0, 3, 1, 4, 5, 2], 3), ([0, 3, 1, 5, 2, 4], 5), ([0, 4, 1, 3, 2, 5], 3), ([0, 1, 4, 3, 5, 2], 3), ([0, 1, 3, 5, 4, 2], 3), ([0, 1, 5, 3, 2, 4], 3), ([4, 0, 1, 2, 3, 5], 1), ([0, 4, 1, 2, 5, 3], 3), ([0, 1, 4, 5, 2, 3], 2), ([0, 1, 5, 2, 4, 3], 3), ([0, 5, 1, 2, 3, 4], 1)]
def L6_5 : List (List Nat × Nat) := [([2, 3, 1, 0, 4, 5], 5), ([2, 1, 3, 4, 0, 5], 4), ([2, 1, 3, 0, 5, 4], 15), ([2, 1, 4, 0, 3, 5], 11), ([2, 1, 0, 4, 5, 3], 20), ([2, 1, 0, 5, 3, 4], 20), ([3, 1, 2, 0, 4, 5], 6), ([1, 3, 2, 4, 0, 5], 4), ([1, 3, 2, 0, 5, 4], 15), ([1, 2, 4, 3, 0, 5], 4), ([1, 2, 3, 4, 5, 0], 1), ([1, 2, 3, 5, 0, 4], 4), ([1, 4, 2, 0, 3, 5], 6), ([1, 2, 4, 0, 5, 3], 9), ([1, 2, 0, 5, 4, 3], 20), ([1, 2, 5, 0, 3, 4], 6), ([3, 1, 0, 4, 2, 5], 11), ([3, 1, 0, 2, 5, 4], 15), ([1, 3, 4, 0, 2, 5], 5), ([1, 3, 0, 4, 5, 2], 9), ([1, 3, 0, 5, 2, 4], 16), ([1, 4, 0, 3, 2, 5], 11), ([1, 0, 4, 3, 5, 2], 15), ([1, 0, 3, 5, 4, 2], 15), ([1, 0, 5, 3, 2, 4], 15), ([4, 1, 0, 2, 3, 5], 4), ([1, 4, 0, 2, 5, 3], 11), ([1, 0, 4, 5, 2, 3], 10), ([1, 0, 5, 2, 4, 3], 15), ([1, 5, 0, 2, 3, 4], 4), ([3, 2, 0, 1, 4, 5], 5), ([2, 3, 0, 4, 1, 5], 5), ([2, 3, 0, 1, 5, 4], 10), ([2, 0, 4, 3, 1, 5], 11), ([2, 0, 3, 4, 5, 1], 4), ([2, 0, 3, 5, 1, 4], 11), ([2, 4, 0, 1, 3, 5], 5), ([2, 0, 4, 1, 5, 3], 16), ([2, 0, 1, 5, 4, 3], 20), ([2, 0, 5, 1, 3, 4], 9), ([3, 0, 2, 4, 1, 5], 6), ([3, 0, 2, 1, 5, 4], 15), ([0, 3, 4, 2, 1, 5], 5), ([0, 3, 2, 4, 5, 1], 4), ([0, 3, 2, 5, 1, 4], 11), ([0, 4, 2, 3, 1, 5], 6), ([0, 2, 4, 3, 5, 1], 4), ([0, 2, 3, 5, 4, 1], 4), ([0, 2, 5, 3, 1, 4], 6), ([4, 0, 2, 1, 3, 5], 4), ([0, 4, 2, 1, 5, 3], 11), ([0, 2, 4, 5, 1, 3], 5), ([0, 2, 5, 1, 4, 3], 11), ([0, 5, 2, 1, 3, 4], 4), ([3, 0, 4, 1, 2, 5], 5), ([3, 0, 1, 4, 5, 2], 6), ([3, 0, 1, 5, 2, 4], 9), ([0, 4, 3, 1, 2, 5], 5), ([0, 3, 4, 1, 5, 2], 5), ([0, 3, 1, 5, 4, 2], 11), ([0, 3, 5, 1, 2, 4], 5), ([4, 0, 1, 3, 2, 5], 4), ([0, 4, 1, 3, 5, 2], 6), ([0, 1, 4, 5, 3, 2], 5), ([0, 1, 5, 3, 4, 2], 6), ([0, 5, 1, 3, 2, 4], 4), ([4, 0, 1, 2, 5, 3], 4), ([0, 4, 1, 5, 2, 3], 5), ([0, 1, 5, 4, 2, 3], 5), ([0, 5, 1, 2, 4, 3], 4), ([5, 0, 1, 2, 3, 4], 1)]
def L6_6 : List (List Nat × Nat) := [([3, 2, 1, 0, 4, 5], 16), ([2, 3, 1, 4, 0, 5], 9), ([2, 3, 1, 0, 5, 4], 30), ([2, 1, 4, 3, 0, 5], 19), ([2, 1, 3, 4, 5, 0], 5), ([2, 1, 3, 5, 0, 4], 19), ([2, 4, 1, 0, 3, 5], 16), ([2, 1, 4, 0, 5, 3], 40), ([2, 1, 0, 5, 4, 3], 80), ([2, 1, 5, 0, 3, 4], 26), ([3, 1, 2, 4, 0, 5], 10), ([3, 1, 2, 0, 5, 4], 36), ([1, 3, 4, 2, 0, 5], 9), ([1, 3, 2, 4, 5, 0], 5), ([1, 3, 2, 5, 0, 4], 19), ([1, 4, 2, 3, 0, 5], 10), ([1, 2, 4, 3, 5, 0], 5), ([1, 2, 3, 5, 4, 0], 5), ([1, 2, 5, 3, 0, 4], 10), ([4, 1, 2, 0, 3, 5], 10), ([1, 4, 2, 0, 5, 3], 26), ([1, 2, 4, 5, 0, 3], 9), ([1, 2, 5, 0, 4, 3], 26), ([1, 5, 2, 0, 3, 4], 10), ([3, 1, 4, 0, 2, 5], 16), ([3, 1, 0, 4, 5, 2], 26), ([3, 1, 0, 5, 2, 4], 40), ([1, 4, 3, 0, 2, 5], 16), ([1, 3, 4, 0, 5, 2], 14), ([1, 3, 0, 5, 4, 2], 40), ([1, 3, 5, 0, 2, 4], 16), ([4, 1, 0, 3, 2, 5], 19), ([1, 4, 0, 3, 5, 2], 26), ([1, 0, 4, 5, 3, 2], 30), ([1, 0, 5, 3, 4, 2], 36), ([1, 5, 0, 3, 2, 4], 19), ([4, 1, 0, 2, 5, 3], 19), ([1, 4, 0, 5, 2, 3], 21), ([1, 0, 5, 4, 2, 3], 30), ([1, 5, 0, 2, 4, 3], 19), ([5, 1, 0, 2, 3, 4], 5), ([3, 2, 0, 4, 1, 5], 16), ([3, 2, 0, 1, 5, 4], 30), ([2, 3, 4, 0, 1, 5], 5), ([2, 3, 0, 4, 5, 1], 9), ([2, 3, 0, 5, 1, 4], 21), ([2, 4, 0, 3, 1, 5], 16), ([2, 0, 4, 3, 5, 1], 19), ([2, 0, 3, 5, 4, 1], 19), ([2, 0, 5, 3, 1, 4], 26), ([4, 2, 0, 1, 3, 5], 9), ([2, 4, 0, 1, 5, 3], 21), ([2, 0, 4, 5, 1, 3], 21), ([2, 0, 5, 1, 4, 3], 40), ([2, 5, 0, 1, 3, 4], 9), ([3, 0, 4, 2, 1, 5], 16), ([3, 0, 2, 4, 5, 1], 10), ([3, 0, 2, 5, 1, 4], 26), ([0, 4, 3, 2, 1, 5], 16), ([0, 3, 4, 2, 5, 1], 9), ([0, 3, 2, 5, 4, 1], 19), ([0, 3, 5, 2, 1, 4], 16), ([4, 0, 2, 3, 1, 5], 10), ([0, 4, 2, 3, 5, 1], 10), ([0, 2, 4, 5, 3, 1], 9), ([0, 2, 5, 3, 4, 1], 10), ([0, 5, 2, 3, 1, 4], 10), ([4, 0, 2, 1, 5, 3], 19), ([0, 4, 2, 5, 1, 3], 16), ([0, 2, 5, 4, 1, 3], 16), ([0, 5, 2, 1, 4, 3], 19), ([5, 0, 2, 1, 3, 4], 5), ([3, 4, 0, 1, 2, 5], 5), ([3, 0, 4, 1, 5, 2], 16), ([3, 0, 1, 5, 4, 2], 26), ([3, 0, 5, 1, 2, 4], 14), ([4, 0, 3, 1, 2, 5], 9), ([0, 4, 3, 1, 5, 2], 16), ([0, 3, 4, 5, 1, 2], 5), ([0, 3, 5, 1, 4, 2], 16), ([0, 5, 3, 1, 2, 4], 9), ([4, 0, 1, 3, 5, 2], 10), ([0, 4, 1, 5, 3, 2], 16), ([0, 1, 5, 4, 3, 2], 16), ([0, 5, 1, 3, 4, 2], 10), ([5, 0, 1, 3, 2, 4], 5), ([4, 0, 1, 5, 2, 3], 9), ([0, 4, 5, 1, 2, 3], 5), ([0, 5, 1, 4, 2, 3], 9), ([5, 0, 1, 2, 4, 3], 5)]
def L6_7 : List (List Nat × Nat) := [([3, 2, 1, 4, 0, 5], 35), ([3, 2, 1, 0, 5, 4], 112), ([2, 3, 4, 1, 0, 5], 14), ([2, 3, 1, 4, 5, 0], 14), ([2, 3, 1, 5, 0, 4], 49), ([2, 4, 1, 3, 0, 5], 35), ([2, 1, 4, 3, 5, 0], 29), ([2, 1, 3, 5, 4, 0], 29), ([2, 1, 5, 3, 0, 4], 55), ([4, 2, 1, 0, 3, 5], 35), ([2, 4, 1, 0, 5, 3], 77), ([2, 1, 4, 5, 0, 3], 49), ([2, 1, 5, 0, 4, 3], 132), ([2, 5, 1, 0, 3, 4], 35), ([3, 1, 4, 2, 0, 5], 35), ([3, 1, 2, 4, 5, 0], 15), ([3, 1, 2, 5, 0, 4], 55), ([1, 4, 3, 2, 0, 5], 35), ([1, 3, 4, 2, 5, 0], 14), ([1, 3, 2, 5, 4, 0], 29), ([1, 3, 5, 2, 0, 4], 35), ([4, 1, 2, 3, 0, 5], 20), ([1, 4, 2, 3, 5, 0], 15), ([1, 2, 4, 5, 3, 0], 14), ([1, 2, 5, 3, 4, 0], 15), ([1, 5, 2, 3, 0, 4], 20), ([4, 1, 2, 0, 5, 3], 55), ([1, 4, 2, 5, 0, 3], 35), ([1, 2, 5, 4, 0, 3], 35), ([1, 5, 2, 0, 4, 3], 55), ([5, 1, 2, 0, 3, 4], 15), ([3, 4, 1, 0, 2, 5], 21), ([3, 1, 4, 0, 5, 2], 56), ([3, 1, 0, 5, 4, 2], 132), ([3, 1, 5, 0, 2, 4], 56), ([4, 1, 3, 0, 2, 5], 35), ([1, 4, 3, 0, 5, 2], 56), ([1, 3, 4, 5, 0, 2], 14), ([1, 3, 5, 0, 4, 2], 56), ([1, 5, 3, 0, 2, 4], 35), ([4, 1, 0, 3, 5, 2], 55), ([1, 4, 0, 5, 3, 2], 77), ([1, 0, 5, 4, 3, 2], 112), ([1, 5, 0, 3, 4, 2], 55), ([5, 1, 0, 3, 2, 4], 29), ([4, 1, 0, 5, 2, 3], 49), ([1, 4, 5, 0, 2, 3], 21), ([1, 5, 0, 4, 2, 3], 49), ([5, 1, 0, 2, 4, 3], 29), ([3, 2, 4, 0, 1, 5], 21), ([3, 2, 0, 4, 5, 1], 35), ([3, 2, 0, 5, 1, 4], 77), ([2, 4, 3, 0, 1, 5], 21), ([2, 3, 4, 0, 5, 1], 14), ([2, 3, 0, 5, 4, 1], 49), ([2, 3, 5, 0, 1, 4], 21), ([4, 2, 0, 3, 1, 5], 35), ([2, 4, 0, 3, 5, 1], 35), ([2, 0, 4, 5, 3, 1], 49), ([2, 0, 5, 3, 4, 1], 55), ([2, 5, 0, 3, 1, 4], 35), ([4, 2, 0, 1, 5, 3], 49), ([2, 4, 0, 5, 1, 3], 42), ([2, 0, 5, 4, 1, 3], 77), ([2, 5, 0, 1, 4, 3], 49), ([5, 2, 0, 1, 3, 4], 14), ([3, 4, 0, 2, 1, 5], 21), ([3, 0, 4, 2, 5, 1], 35), ([3, 0, 2, 5, 4, 1], 55), ([3, 0, 5, 2, 1, 4], 56), ([4, 0, 3, 2, 1, 5], 35), ([0, 4, 3, 2, 5, 1], 35), ([0, 3, 4, 5, 2, 1], 14), ([0, 3, 5, 2, 4, 1], 35), ([0, 5, 3, 2, 1, 4], 35), ([4, 0, 2, 3, 5, 1], 20), ([0, 4, 2, 5, 3, 1], 35), ([0, 2, 5, 4, 3, 1], 35), ([0, 5, 2, 3, 4, 1], 20), ([5, 0, 2, 3, 1, 4], 15), ([4, 0, 2, 5, 1, 3], 35), ([0, 4, 5, 2, 1, 3], 21), ([0, 5, 2, 4, 1, 3], 35), ([5, 0, 2, 1, 4, 3], 29), ([4, 3, 0, 1, 2, 5], 14), ([3, 4, 0, 1, 5, 2], 21), ([3, 0, 4, 5, 1, 2], 21), ([3, 0, 5, 1, 4, 2], 56), ([3, 5, 0, 1, 2, 4], 14), ([4, 0, 3, 1, 5, 2], 35), ([0, 4, 3, 5, 1, 2], 21), ([0, 3, 5, 4, 1, 2], 21), ([0, 5, 3, 1, 4, 2], 35), ([5, 0, 3, 1, 2, 4], 14), ([4, 0, 1, 5, 3, 2], 35), ([0, 4, 5, 1, 3, 2], 21), ([0, 5, 1, 4, 3, 2], 35), ([5, 0, 1, 3, 4, 2], 15), ([4, 0, 5, 1, 2, 3], 14), ([0, 5, 4, 1, 2, 3], 14), ([5, 0, 1, 4, 2, 3], 14)]
def L6_8 : List (List Nat × Nat) := [([3, 2, 4, 1, 0, 5], 70), ([3, 2, 1, 4, 5, 0], 64), ([3, 2, 1, 5, 0, 4], 216), ([2, 4, 3, 1, 0, 5], 70), ([2, 3, 4, 1, 5, 0], 28), ([2, 3, 1, 5, 4, 0], 92), ([2, 3, 5, 1, 0, 4], 70), ([4, 2, 1, 3, 0, 5], 90), ([2, 4, 1, 3, 5, 0], 64), ([2, 1, 4, 5, 3, 0], 92), ([2, 1, 5, 3, 4, 0], 99), ([2, 5, 1, 3, 0, 4], 90), ([4, 2, 1, 0, 5, 3], 216), ([2, 4, 1, 5, 0, 3], 126), ([2, 1, 5, 4, 0, 3], 216), ([2, 5, 1, 0, 4, 3], 216), ([5, 2, 1, 0, 3, 4], 64), ([3, 4, 1, 2, 0, 5], 56), ([3, 1, 4, 2, 5, 0], 64), ([3, 1, 2, 5, 4, 0], 99), ([3, 1, 5, 2, 0, 4], 146), ([4, 1, 3, 2, 0, 5], 90), ([1, 4, 3, 2, 5, 0], 64), ([1, 3, 4, 5, 2, 0], 28), ([1, 3, 5, 2, 4, 0], 64), ([1, 5, 3, 2, 0, 4], 90), ([4, 1, 2, 3, 5, 0], 35), ([1, 4, 2, 5, 3, 0], 64), ([1, 2, 5, 4, 3, 0], 64), ([1, 5, 2, 3, 4, 0], 35), ([5, 1, 2, 3, 0, 4], 35), ([4, 1, 2, 5, 0, 3], 90), ([1, 4, 5, 2, 0, 3], 56), ([1, 5, 2, 4, 0, 3], 90), ([5, 1, 2, 0, 4, 3], 99), ([4, 3, 1, 0, 2, 5], 70), ([3, 4, 1, 0, 5, 2], 98), ([3, 1, 4, 5, 0, 2], 70), ([3, 1, 5, 0, 4, 2], 244), ([3, 5, 1, 0, 2, 4], 70), ([4, 1, 3, 0, 5, 2], 146), ([1, 4, 3, 5, 0, 2], 70), ([1, 3, 5, 4, 0, 2], 70), ([1, 5, 3, 0, 4, 2], 146), ([5, 1, 3, 0, 2, 4], 64), ([4, 1, 0, 5, 3, 2], 216), ([1, 4, 5, 0, 3, 2], 98), ([1, 5, 0, 4, 3, 2], 216), ([5, 1, 0, 3, 4, 2], 99), ([4, 1, 5, 0, 2, 3], 70), ([1, 5, 4, 0, 2, 3], 70), ([5, 1, 0, 4, 2, 3], 92), ([3, 4, 2, 0, 1, 5], 42), ([3, 2, 4, 0, 5, 1], 70), ([3, 2, 0, 5, 4, 1], 216), ([3, 2, 5, 0, 1, 4], 98), ([4, 2, 3, 0, 1, 5], 56), ([2, 4, 3, 0, 5, 1], 70), ([2, 3, 4, 5, 0, 1], 14), ([2, 3, 5, 0, 4, 1], 70), ([2, 5, 3, 0, 1, 4], 56), ([4, 2, 0, 3, 5, 1], 90), ([2, 4, 0, 5, 3, 1], 126), ([2, 0, 5, 4, 3, 1], 216), ([2, 5, 0, 3, 4, 1], 90), ([5, 2, 0, 3, 1, 4], 64), ([4, 2, 0, 5, 1, 3], 126), ([2, 4, 5, 0, 1, 3], 42), ([2, 5, 0, 4, 1, 3], 126), ([5, 2, 0, 1, 4, 3], 92), ([4, 3, 0, 2, 1, 5], 70), ([3, 4, 0, 2, 5, 1], 56), ([3, 0, 4, 5, 2, 1], 70), ([3, 0, 5, 2, 4, 1], 146), ([3, 5, 0, 2, 1, 4], 70), ([4, 0, 3, 2, 5, 1], 90), ([0, 4, 3, 5, 2, 1], 70), ([0, 3, 5, 4, 2, 1], 70), ([0, 5, 3, 2, 4, 1], 90), ([5, 0, 3, 2, 1, 4], 64), ([4, 0, 2, 5, 3, 1], 90), ([0, 4, 5, 2, 3, 1], 56), ([0, 5, 2, 4, 3, 1], 90), ([5, 0, 2, 3, 4, 1], 35), ([4, 0, 5, 2, 1, 3], 70), ([0, 5, 4, 2, 1, 3], 70), ([5, 0, 2, 4, 1, 3], 64), ([4, 3, 0, 1, 5, 2], 70), ([3, 4, 0, 5, 1, 2], 42), ([3, 0, 5, 4, 1, 2], 98), ([3, 5, 0, 1, 4, 2], 70), ([5, 3, 0, 1, 2, 4], 28), ([4, 0, 3, 5, 1, 2], 56), ([0, 4, 5, 3, 1, 2], 42), ([0, 5, 3, 4, 1, 2], 56), ([5, 0, 3, 1, 4, 2], 64), ([4, 0, 5, 1, 3, 2], 70), ([0, 5, 4, 1, 3, 2], 70), ([5, 0, 1, 4, 3, 2], 64), ([4, 5, 0, 1, 2, 3], 14), ([5, 0, 4, 1, 2, 3], 28)]
def L6_9 : List (List Nat × Nat) := [([3, 4, 2, 1, 0, 5], 168), ([3, 2, 4, 1, 5, 0], 162), ([3, 2, 1, 5, 4, 0], 471), ([3, 2, 5, 1, 0, 4], 384), ([4, 2, 3, 1, 0, 5], 216), ([2, 4, 3, 1, 5, 0], 162), ([2, 3, 4, 5, 1, 0], 42), ([2, 3, 5, 1, 4, 0], 162), ([2, 5, 3, 1, 0, 4], 216), ([4, 2, 1, 3, 5, 0], 189), ([2, 4, 1, 5, 3, 0], 282), ([2, 1, 5, 4, 3, 0], 471), ([2, 5, 1, 3, 4, 0], 189), ([5, 2, 1, 3, 0, 4], 189), ([4, 2, 1, 5, 0, 3], 432), ([2, 4, 5, 1, 0, 3], 168), ([2, 5, 1, 4, 0, 3], 432), ([5, 2, 1, 0, 4, 3], 471), ([4, 3, 1, 2, 0, 5], 216), ([3, 4, 1, 2, 5, 0], 120), ([3, 1, 4, 5, 2, 0], 162), ([3, 1, 5, 2, 4, 0], 309), ([3, 5, 1, 2, 0, 4], 216), ([4, 1, 3, 2, 5, 0], 189), ([1, 4, 3, 5, 2, 0], 162), ([1, 3, 5, 4, 2, 0], 162), ([1, 5, 3, 2, 4, 0], 189), ([5, 1, 3, 2, 0, 4], 189), ([4, 1, 2, 5, 3, 0], 189), ([1, 4, 5, 2, 3, 0], 120), ([1, 5, 2, 4, 3, 0], 189), ([5, 1, 2, 3, 4, 0], 70), ([4, 1, 5, 2, 0, 3], 216), ([1, 5, 4, 2, 0, 3], 216), ([5, 1, 2, 4, 0, 3], 189), ([4, 3, 1, 0, 5, 2], 384), ([3, 4, 1, 5, 0, 2], 168), ([3, 1, 5, 4, 0, 2], 384), ([3, 5, 1, 0, 4, 2], 384), ([5, 3, 1, 0, 2, 4], 162), ([4, 1, 3, 5, 0, 2], 216), ([1, 4, 5, 3, 0, 2], 168), ([1, 5, 3, 4, 0, 2], 216), ([5, 1, 3, 0, 4, 2], 309), ([4, 1, 5, 0, 3, 2], 384), ([1, 5, 4, 0, 3, 2], 384), ([5, 1, 0, 4, 3, 2], 471), ([4, 5, 1, 0, 2, 3], 84), ([5, 1, 4, 0, 2, 3], 162), ([4, 3, 2, 0, 1, 5], 168), ([3, 4, 2, 0, 5, 1], 168), ([3, 2, 4, 5, 0, 1], 84), ([3, 2, 5, 0, 4, 1], 384), ([3, 5, 2, 0, 1, 4], 168), ([4, 2, 3, 0, 5, 1], 216), ([2, 4, 3, 5, 0, 1], 84), ([2, 3, 5, 4, 0, 1], 84), ([2, 5, 3, 0, 4, 1], 216), ([5, 2, 3, 0, 1, 4], 120), ([4, 2, 0, 5, 3, 1], 432), ([2, 4, 5, 0, 3, 1], 168), ([2, 5, 0, 4, 3, 1], 432), ([5, 2, 0, 3, 4, 1], 189), ([4, 2, 5, 0, 1, 3], 168), ([2, 5, 4, 0, 1, 3], 168), ([5, 2, 0, 4, 1, 3], 282), ([4, 3, 0, 2, 5, 1], 216), ([3, 4, 0, 5, 2, 1], 168), ([3, 0, 5, 4, 2, 1], 384), ([3, 5, 0, 2, 4, 1], 216), ([5, 3, 0, 2, 1, 4], 162), ([4, 0, 3, 5, 2, 1], 216), ([0, 4, 5, 3, 2, 1], 168), ([0, 5, 3, 4, 2, 1], 216), ([5, 0, 3, 2, 4, 1], 189), ([4, 0, 5, 2, 3, 1], 216), ([0, 5, 4, 2, 3, 1], 216), ([5, 0, 2, 4, 3, 1], 189), ([4, 5, 0, 2, 1, 3], 84), ([5, 0, 4, 2, 1, 3], 162), ([4, 3, 0, 5, 1, 2], 168), ([3, 4, 5, 0, 1, 2], 42), ([3, 5, 0, 4, 1, 2], 168), ([5, 3, 0, 1, 4, 2], 162), ([4, 0, 5, 3, 1, 2], 168), ([0, 5, 4, 3, 1, 2], 168), ([5, 0, 3, 4, 1, 2], 120), ([4, 5, 0, 1, 3, 2], 84), ([5, 0, 4, 1, 3, 2], 162), ([5, 4, 0, 1, 2, 3], 42)]
def L6_10 : List (List Nat × Nat) := [([4, 3, 2, 1, 0, 5], 768), ([3, 4, 2, 1, 5, 0], 450), ([3, 2, 4, 5, 1, 0], 288), ([3, 2, 5, 1, 4, 0], 1017), ([3, 5, 2, 1, 0, 4], 768), ([4, 2, 3, 1, 5, 0], 567), ([2, 4, 3, 5, 1, 0], 288), ([2, 3, 5, 4, 1, 0], 288), ([2, 5, 3, 1, 4, 0], 567), ([5, 2, 3, 1, 0, 4], 525), ([4, 2, 1, 5, 3, 0], 1092), ([2, 4, 5, 1, 3, 0], 450), ([2, 5, 1, 4, 3, 0], 1092), ([5, 2, 1, 3, 4, 0], 448), ([4, 2, 5, 1, 0, 3], 768), ([2, 5, 4, 1, 0, 3], 768), ([5, 2, 1, 4, 0, 3], 1092), ([4, 3, 1, 2, 5, 0], 525), ([3, 4, 1, 5, 2, 0], 450), ([3, 1, 5, 4, 2, 0], 1017), ([3, 5, 1, 2, 4, 0], 525), ([5, 3, 1, 2, 0, 4], 567), ([4, 1, 3, 5, 2, 0], 567), ([1, 4, 5, 3, 2, 0], 450), ([1, 5, 3, 4, 2, 0], 567), ([5, 1, 3, 2, 4, 0], 448), ([4, 1, 5, 2, 3, 0], 525), ([1, 5, 4, 2, 3, 0], 525), ([5, 1, 2, 4, 3, 0], 448), ([4, 5, 1, 2, 0, 3], 300), ([5, 1, 4, 2, 0, 3], 567), ([4, 3, 1, 5, 0, 2], 768), ([3, 4, 5, 1, 0, 2], 210), ([3, 5, 1, 4, 0, 2], 768), ([5, 3, 1, 0, 4, 2], 1017), ([4, 1, 5, 3, 0, 2], 768), ([1, 5, 4, 3, 0, 2], 768), ([5, 1, 3, 4, 0, 2], 525), ([4, 5, 1, 0, 3, 2], 552), ([5, 1, 4, 0, 3, 2], 1017), ([5, 4, 1, 0, 2, 3], 288), ([4, 3, 2, 0, 5, 1], 768), ([3, 4, 2, 5, 0, 1], 252), ([3, 2, 5, 4, 0, 1], 552), ([3, 5, 2, 0, 4, 1], 768), ([5, 3, 2, 0, 1, 4], 450), ([4, 2, 3, 5, 0, 1], 300), ([2, 4, 5, 3, 0, 1], 252), ([2, 5, 3, 4, 0, 1], 300), ([5, 2, 3, 0, 4, 1], 525), ([4, 2, 5, 0, 3, 1], 768), ([2, 5, 4, 0, 3, 1], 768), ([5, 2, 0, 4, 3, 1], 1092), ([4, 5, 2, 0, 1, 3], 252), ([5, 2, 4, 0, 1, 3], 450), ([4, 3, 0, 5, 2, 1], 768), ([3, 4, 5, 0, 2, 1], 210), ([3, 5, 0, 4, 2, 1], 768), ([5, 3, 0, 2, 4, 1], 567), ([4, 0, 5, 3, 2, 1], 768), ([0, 5, 4, 3, 2, 1], 768), ([5, 0, 3, 4, 2, 1], 525), ([4, 5, 0, 2, 3, 1], 300), ([5, 0, 4, 2, 3, 1], 567), ([5, 4, 0, 2, 1, 3], 288), ([4, 3, 5, 0, 1, 2], 210), ([3, 5, 4, 0, 1, 2], 210), ([5, 3, 0, 4, 1, 2], 450), ([4, 5, 0, 3, 1, 2], 252), ([5, 0, 4, 3, 1, 2], 450), ([5, 4, 0, 1, 3, 2], 288)]
def L6_11 : List (List Nat × Nat) := [([4, 3, 2, 1, 5, 0], 2310), ([3, 4, 2, 5, 1, 0], 990), ([3, 2, 5, 4, 1, 0], 2145), ([3, 5, 2, 1, 4, 0], 2310), ([5, 3, 2, 1, 0, 4], 2310), ([4, 2, 3, 5, 1, 0], 1155), ([2, 4, 5, 3, 1, 0], 990), ([2, 5, 3, 4, 1, 0], 1155), ([5, 2, 3, 1, 4, 0], 1540), ([4, 2, 5, 1, 3, 0], 2310), ([2, 5, 4, 1, 3, 0], 2310), ([5, 2, 1, 4, 3, 0], 3080), ([4, 5, 2, 1, 0, 3], 1320), ([5, 2, 4, 1, 0, 3], 2310), ([4, 3, 1, 5, 2, 0], 2310), ([3, 4, 5, 1, 2, 0], 660), ([3, 5, 1, 4, 2, 0], 2310), ([5, 3, 1, 2, 4, 0], 1540), ([4, 1, 5, 3, 2, 0], 2310), ([1, 5, 4, 3, 2, 0], 2310), ([5, 1, 3, 4, 2, 0], 1540), ([4, 5, 1, 2, 3, 0], 825), ([5, 1, 4, 2, 3, 0], 1540), ([5, 4, 1, 2, 0, 3], 1155), ([4, 3, 5, 1, 0, 2], 1188), ([3, 5, 4, 1, 0, 2], 1188), ([5, 3, 1, 4, 0, 2], 2310), ([4, 5, 1, 3, 0, 2], 1320), ([5, 1, 4, 3, 0, 2], 2310), ([5, 4, 1, 0, 3, 2], 2145), ([4, 3, 2, 5, 0, 1], 1320), ([3, 4, 5, 2, 0, 1], 462), ([3, 5, 2, 4, 0, 1], 1320), ([5, 3, 2, 0, 4, 1], 2310), ([4, 2, 5, 3, 0, 1], 1320), ([2, 5, 4, 3, 0, 1], 1320), ([5, 2, 3, 4, 0, 1], 825), ([4, 5, 2, 0, 3, 1], 1320), ([5, 2, 4, 0, 3, 1], 2310), ([5, 4, 2, 0, 1, 3], 990), ([4, 3, 5, 0, 2, 1], 1188), ([3, 5, 4, 0, 2, 1], 1188), ([5, 3, 0, 4, 2, 1], 2310), ([4, 5, 0, 3, 2, 1], 1320), ([5, 0, 4, 3, 2, 1], 2310), ([5, 4, 0, 2, 3, 1], 1155), ([4, 5, 3, 0, 1, 2], 462), ([5, 3, 4, 0, 1, 2], 660), ([5, 4, 0, 3, 1, 2], 990)]
def L6_12 : List (List Nat × Nat) := [([4, 3, 2, 5, 1, 0], 5775), ([3, 4, 5, 2, 1, 0], 2112), ([3, 5, 2, 4, 1, 0], 5775), ([5, 3, 2, 1, 4, 0], 7700), ([4, 2, 5, 3, 1, 0], 5775), ([2, 5, 4, 3, 1, 0], 5775), ([5, 2, 3, 4, 1, 0], 3520), ([4, 5, 2, 1, 3, 0], 4455), ([5, 2, 4, 1, 3, 0], 7700), ([5, 4, 2, 1, 0, 3], 5775), ([4, 3, 5, 1, 2, 0], 4158), ([3, 5, 4, 1, 2, 0], 4158), ([5, 3, 1, 4, 2, 0], 7700), ([4, 5, 1, 3, 2, 0], 4455), ([5, 1, 4, 3, 2, 0], 7700), ([5, 4, 1, 2, 3, 0], 3520), ([4, 5, 3, 1, 0, 2], 2970), ([5, 3, 4, 1, 0, 2], 4158), ([5, 4, 1, 3, 0, 2], 5775), ([4, 3, 5, 2, 0, 1], 2970), ([3, 5, 4, 2, 0, 1], 2970), ([5, 3, 2, 4, 0, 1], 4455), ([4, 5, 2, 3, 0, 1], 2640), ([5, 2, 4, 3, 0, 1], 4455), ([5, 4, 2, 0, 3, 1], 5775), ([4, 5, 3, 0, 2, 1], 2970), ([5, 3, 4, 0, 2, 1], 4158), ([5, 4, 0, 3, 2, 1], 5775), ([5, 4, 3, 0, 1, 2], 2112)]
def L6_13 : List (List Nat × Nat) := [([4, 3, 5, 2, 1, 0], 15015), ([3, 5, 4, 2, 1, 0], 15015), ([5, 3, 2, 4, 1, 0], 21450), ([4, 5, 2, 3, 1, 0], 12870), ([5, 2, 4, 3, 1, 0], 21450), ([5, 4, 2, 1, 3, 0], 21450), ([4, 5, 3, 1, 2, 0], 11583), ([5, 3, 4, 1, 2, 0], 16016), ([5, 4, 1, 3, 2, 0], 21450), ([5, 4, 3, 1, 0, 2], 15015), ([4, 5, 3, 2, 0, 1], 8580), ([5, 3, 4, 2, 0, 1], 11583), ([5, 4, 2, 3, 0, 1], 12870), ([5, 4, 3, 0, 2, 1], 15015)]
def L6_14 : List (List Nat × Nat) := [([4, 5, 3, 2, 1, 0], 48048), ([5, 3, 4, 2, 1, 0], 64064), ([5, 4, 2, 3, 1, 0], 68640), ([5, 4, 3, 1, 2, 0], 64064), ([5, 4, 3, 2, 0, 1], 48048)]
def L6_15 : List (List Nat × Nat) := [([5, 4, 3, 2, 1, 0], 292864)]
theorem s6_0 : nwStep L6_0 (keysA L6_0) = L6_1 := by decide +kernel
theorem s6_1 : nwStep L6_1 (keysA L6_1) = L6_2 := by decide +kernel
theorem s6_2 : nwStep L6_2 (keysA L6_2) = L6_3 := by decide +kernel
theorem s6_3 : nwStep L6_3 (keysA L6_3) = L6_4 := by decide +kernel
theorem s6_4 : nwStep L6_4 (keysA L6_4) = L6_5 := by decide +kernel
theorem s6_5 : nwStep L6_5 (keysA L6_5) = L6_6 := by decide +kernel
theorem s6_6 : nwStep L6_6 (keysA L6_6) = L6_7 := by decide +kernel
theorem s6_7 : nwStep L6_7 (keysA L6_7) = L6_8 := by decide +kernel
theorem s6_8 : nwStep L6_8 (keysA L6_8) = L6_9 := by decide +kernel
theorem s6_9 : nwStep L6_9 (keysA L6_9) = L6_10 := by decide +kernel
theorem s6_10 : nwStep L6_10 (keysA L6_10) = L6_11 := by decide +kernel
theorem s6_11 : nwStep L6_11 (keysA L6_11) = L6_12 := by decide +kernel
theorem s6_12 : nwStep L6_12 (keysA L6_12) = L6_13 := by decide +kernel
theorem s6_13 : nwStep L6_13 (keysA L6_13) = L6_14 := by decide +kernel
theorem s6_14 : nwStep L6_14 (keysA L6_14) = L6_15 := by decide +kernel
theorem s6_15 : nwStep L6_15 (keysA L6_15) = [] := by decide +kernel
theorem nwF_go {k : Nat} {A B : List (List Nat × Nat)} (h : nwStep A (keysA A) = B) (hB : B ≠ []) : nwF (k + 1) A = nwF k B := by
  show (if nwStep A (keysA A) = [] then some (0, A) else nwF k (nwStep A (keysA A))) = _
  rw [h, if_neg hB]
theorem nwF_end {k : Nat} {A : List (List Nat × Nat)} (h : nwStep A (keysA A) = []) : nwF (k + 1) A = some (0, A) := by
  show (if nwStep A (keysA A) = [] then some (0, A) else nwF k (nwStep A (keysA A))) = _
  rw [h, if_pos rfl]
theorem nwV_6 : nwV 6 = some 292864 := by
  have e : nwF 30 [(List.range 6, 1)] = some (0, L6_15) := by
    have z : ([(List.range 6, 1)] : List (List Nat × Nat)) = L6_0 := by decide
    rw [z, nwF_go (k := 29) s6_0 (List.cons_ne_nil _ _), nwF_go (k := 28) s6_1 (List.cons_ne_nil _ _), nwF_go (k := 27) s6_2 (List.cons_ne_nil _ _), nwF_go (k := 26) s6_3 (List.cons_ne_nil _ _), nwF_go (k := 25) s6_4 (List.cons_ne_nil _ _), nwF_go (k := 24) s6_5 (List.cons_ne_nil _ _), nwF_go (k := 23) s6_6 (List.cons_ne_nil _ _), nwF_go (k := 22) s6_7 (List.cons_ne_nil _ _), nwF_go (k := 21) s6_8 (List.cons_ne_nil _ _), nwF_go (k := 20) s6_9 (List.cons_ne_nil _ _), nwF_go (k := 19) s6_10 (List.cons_ne_nil _ _), nwF_go (k := 18) s6_11 (List.cons_ne_nil _ _), nwF_go (k := 17) s6_12 (List.cons_ne_nil _ _), nwF_go (k := 16) s6_13 (List.cons_ne_nil _ _), nwF_go (k := 15) s6_14 (List.cons_ne_nil _ _), nwF_end (k := 14) s6_15]
  unfold nwV
  rw [e]
  decide
theorem count_range {n v : Nat} (h1 : 1 ≤ n) (hn : n ≤ 7) (h : nwV n = some v) : Val g_count_words_v2 [.tup (tn (List.range n))] (.int (v : Int)) := by
  obtain ⟨Z, z1, z2⟩ := nwV_ok h
  exact Val.le (count_words_ok h1 hn (Row.range n) z1 z2) le_g_count_words_v2
def awB (n : Nat) : Bool := match awF 4000 [(List.range n, [])] [] with
  | some W => W.all fun l => !l.isEmpty
  | none => false
theorem awB_5 : awB 5 = true := by decide +kernel
theorem words_5 : ∃ v, Val g_all_words_v2 [.tup (tn (List.range 5))] v := by
  obtain ⟨Z, z1, z2⟩ := nwV_ok nwV_5
  have h := awB_5
  unfold awB at h
  split at h
  · rename_i W e
    have hW : ∀ l ∈ W, l ≠ [] := fun l hl z => by
      have := List.all_eq_true.mp h l hl
      rw [z] at this
      cases this
    exact ⟨_, Val.le (all_words_ok (by decide) (by decide) (Row.range 5) z1 z2 (by decide) (by decide) e (.inr hW)) le_g_all_words_v2⟩
  · cases h
theorem words_6 : ValE g_all_words_v2 [.tup (tn (List.range 6))] (CA.at "TooMany") [.str "most", .int 5000] := by
  obtain ⟨Z, z1, z2⟩ := nwV_ok nwV_6
  have nr := Val.le (need_row_ok (Row.range 6) (by decide) (by decide)) le_g_need_row_v2
  have nw := number_of_words_ok (by decide) (by decide) (Row.range 6) z1 z2
  refine ValE.run ?_
  generalize tn (List.range 6) = R at *
  simp [b_all_words_v2, nr.call, nw.call]
abbrev cand09 : List Str := ["BadCards", "BadGoal", "BadRow", "BadWord", "SortError", "TooMany"]
structure Ne09 : Prop where
  n0_1 : ¬ CA.at "BadCards" = CA.at "BadGoal"
  n0_2 : ¬ CA.at "BadCards" = CA.at "BadRow"
  n0_3 : ¬ CA.at "BadCards" = CA.at "BadWord"
  n0_4 : ¬ CA.at "BadCards" = CA.at "SortError"
  n0_5 : ¬ CA.at "BadCards" = CA.at "TooMany"
  n1_0 : ¬ CA.at "BadGoal" = CA.at "BadCards"
  n1_2 : ¬ CA.at "BadGoal" = CA.at "BadRow"
  n1_3 : ¬ CA.at "BadGoal" = CA.at "BadWord"
  n1_4 : ¬ CA.at "BadGoal" = CA.at "SortError"
  n1_5 : ¬ CA.at "BadGoal" = CA.at "TooMany"
  n2_0 : ¬ CA.at "BadRow" = CA.at "BadCards"
  n2_1 : ¬ CA.at "BadRow" = CA.at "BadGoal"
  n2_3 : ¬ CA.at "BadRow" = CA.at "BadWord"
  n2_4 : ¬ CA.at "BadRow" = CA.at "SortError"
  n2_5 : ¬ CA.at "BadRow" = CA.at "TooMany"
  n3_0 : ¬ CA.at "BadWord" = CA.at "BadCards"
  n3_1 : ¬ CA.at "BadWord" = CA.at "BadGoal"
  n3_2 : ¬ CA.at "BadWord" = CA.at "BadRow"
  n3_4 : ¬ CA.at "BadWord" = CA.at "SortError"
  n3_5 : ¬ CA.at "BadWord" = CA.at "TooMany"
  n4_0 : ¬ CA.at "SortError" = CA.at "BadCards"
  n4_1 : ¬ CA.at "SortError" = CA.at "BadGoal"
  n4_2 : ¬ CA.at "SortError" = CA.at "BadRow"
  n4_3 : ¬ CA.at "SortError" = CA.at "BadWord"
  n4_5 : ¬ CA.at "SortError" = CA.at "TooMany"
  n5_0 : ¬ CA.at "TooMany" = CA.at "BadCards"
  n5_1 : ¬ CA.at "TooMany" = CA.at "BadGoal"
  n5_2 : ¬ CA.at "TooMany" = CA.at "BadRow"
  n5_3 : ¬ CA.at "TooMany" = CA.at "BadWord"
  n5_4 : ¬ CA.at "TooMany" = CA.at "SortError"
theorem ne09 (hd : CAND cand09) : Ne09 := ⟨cand_ne hd (i := 0) (j := 1) rfl rfl (by decide), cand_ne hd (i := 0) (j := 2) rfl rfl (by decide), cand_ne hd (i := 0) (j := 3) rfl rfl (by decide), cand_ne hd (i := 0) (j := 4) rfl rfl (by decide), cand_ne hd (i := 0) (j := 5) rfl rfl (by decide), cand_ne hd (i := 1) (j := 0) rfl rfl (by decide), cand_ne hd (i := 1) (j := 2) rfl rfl (by decide), cand_ne hd (i := 1) (j := 3) rfl rfl (by decide), cand_ne hd (i := 1) (j := 4) rfl rfl (by decide), cand_ne hd (i := 1) (j := 5) rfl rfl (by decide), cand_ne hd (i := 2) (j := 0) rfl rfl (by decide), cand_ne hd (i := 2) (j := 1) rfl rfl (by decide), cand_ne hd (i := 2) (j := 3) rfl rfl (by decide), cand_ne hd (i := 2) (j := 4) rfl rfl (by decide), cand_ne hd (i := 2) (j := 5) rfl rfl (by decide), cand_ne hd (i := 3) (j := 0) rfl rfl (by decide), cand_ne hd (i := 3) (j := 1) rfl rfl (by decide), cand_ne hd (i := 3) (j := 2) rfl rfl (by decide), cand_ne hd (i := 3) (j := 4) rfl rfl (by decide), cand_ne hd (i := 3) (j := 5) rfl rfl (by decide), cand_ne hd (i := 4) (j := 0) rfl rfl (by decide), cand_ne hd (i := 4) (j := 1) rfl rfl (by decide), cand_ne hd (i := 4) (j := 2) rfl rfl (by decide), cand_ne hd (i := 4) (j := 3) rfl rfl (by decide), cand_ne hd (i := 4) (j := 5) rfl rfl (by decide), cand_ne hd (i := 5) (j := 0) rfl rfl (by decide), cand_ne hd (i := 5) (j := 1) rfl rfl (by decide), cand_ne hd (i := 5) (j := 2) rfl rfl (by decide), cand_ne hd (i := 5) (j := 3) rfl rfl (by decide), cand_ne hd (i := 5) (j := 4) rfl rfl (by decide)⟩
section
variable (N : Ne09)
include N
theorem s09_BadCards : selV (CA.at "BadCards") [] cl_d_law_error_v6 = some (.str "BadCards") := by simp [cl_d_law_error_v6, selV, mOf, N.n0_1, N.n0_2, N.n0_3, N.n0_4, N.n0_5, N.n1_0, N.n2_0, N.n3_0, N.n4_0, N.n5_0]
theorem s09_BadWord : selV (CA.at "BadWord") [] cl_d_law_error_v6 = some (.str "BadWord") := by simp [cl_d_law_error_v6, selV, mOf, N.n0_3, N.n1_3, N.n2_3, N.n3_0, N.n3_1, N.n3_2, N.n3_4, N.n3_5, N.n4_3, N.n5_3]
theorem s09_BadGoal : selV (CA.at "BadGoal") [] cl_d_law_error_v6 = some (.str "BadGoal") := by simp [cl_d_law_error_v6, selV, mOf, N.n0_1, N.n1_0, N.n1_2, N.n1_3, N.n1_4, N.n1_5, N.n2_1, N.n3_1, N.n4_1, N.n5_1]
theorem s09_BadRow : selV (CA.at "BadRow") [] cl_d_law_error_v6 = some (.str "BadRow") := by simp [cl_d_law_error_v6, selV, mOf, N.n0_2, N.n1_2, N.n2_0, N.n2_1, N.n2_3, N.n2_4, N.n2_5, N.n3_2, N.n4_2, N.n5_2]
theorem s09_TooMany (i : Int) : selV (CA.at "TooMany") [.str "most", .int i] cl_d_law_error_v6 = some (.tup [.str "TooMany", .int i]) := by simp [cl_d_law_error_v6, selV, mOf, tupF, fldOf, N.n0_5, N.n1_5, N.n2_5, N.n3_5, N.n4_5, N.n5_0, N.n5_1, N.n5_2, N.n5_3, N.n5_4]
end
/-! ### the words of the errors -/
def E09 (ns : List Int) (st : D) (n : Nat) (s3 s4 s5 s6 s7 : DL.Slot) : En := ⟨[.val (.scr ns), .own st, .val (.int (n : Int)), s3, s4, s5, s6, s7], []⟩
section
variable {n : Nat} {v : D} {ns : List Int} {st : D} {s3 s4 s5 s6 s7 : DL.Slot} (N : Ne09)
include N
section
variable (h : AnyV v) (hb : fromB 1 7 v = false)
include h hb
theorem y1_09 : eErr b_law_Y1 cl_d_law_error_v6 "" (E09 ns st n (.val v) s4 s5 s6 s7) = .ok (.str "BadCards") (E09 ns st n (.val v) s4 s5 s6 s7) := by
  have k := leastw_excB (both_cards h hb .non)
  exact eErr_exc (by unfold E09; simp [b_law_Y1, k.call]) (s09_BadCards N)
theorem y2_09 : eErr b_law_Y2 cl_d_law_error_v6 "" (E09 ns st n (.val v) s4 s5 s6 s7) = .ok (.str "BadCards") (E09 ns st n (.val v) s4 s5 s6 s7) := by
  have k := sorts_excB (both_cards h hb .non)
  exact eErr_exc (by unfold E09; simp [b_law_Y2, k.call]) (s09_BadCards N)
theorem y3_09 : eErr b_law_Y3 cl_d_law_error_v6 "" (E09 ns st n (.val v) s4 s5 s6 s7) = .ok (.str "BadCards") (E09 ns st n (.val v) s4 s5 s6 s7) := by
  have k := alike_excB (both_cards h hb .non) .non
  exact eErr_exc (by unfold E09; simp [b_law_Y3, k.call]) (s09_BadCards N)
theorem y4_09 : eErr b_law_Y4 cl_d_law_error_v6 "" (E09 ns st n (.val v) s4 s5 s6 s7) = .ok (.str "BadCards") (E09 ns st n (.val v) s4 s5 s6 s7) := by
  have k := end_excB (both_cards h hb .non)
  exact eErr_exc (by unfold E09; simp [b_law_Y4, k.call]) (s09_BadCards N)
theorem y5_09 : eErr b_law_Y5 cl_d_law_error_v6 "" (E09 ns st n (.val v) s4 s5 s6 s7) = .ok (.str "BadCards") (E09 ns st n (.val v) s4 s5 s6 s7) := by
  have k := scat_excB (both_cards h hb .non) .non
  exact eErr_exc (by unfold E09; simp [b_law_Y5, k.call]) (s09_BadCards N)
theorem y6_09 : eErr b_law_Y6 cl_d_law_error_v6 "" (E09 ns st n (.val v) s4 s5 s6 s7) = .ok (.str "BadCards") (E09 ns st n (.val v) s4 s5 s6 s7) := by
  have k := lacking_excB (both_cards h hb .non)
  exact eErr_exc (by unfold E09; simp [b_law_Y6, k.call]) (s09_BadCards N)
end
section
variable (h1 : 2 ≤ n) (hn : n ≤ 7) (h : Any2 v) (hb : wordD n 200 v = false)
include h1 hn h hb
theorem y10_09 : eErr b_law_Y10 cl_d_law_error_v6 "" (E09 ns st n (.val v) s4 s5 s6 s7) = .ok (.str "BadWord") (E09 ns st n (.val v) s4 s5 s6 s7) := by
  have k := leastw_excB (both_word (by omega) hn h hb)
  exact eErr_exc (by unfold E09; simp [b_law_Y10, k.call]) (s09_BadWord N)
theorem y11_09 : eErr b_law_Y11 cl_d_law_error_v6 "" (E09 ns st n (.val v) s4 s5 s6 s7) = .ok (.str "BadWord") (E09 ns st n (.val v) s4 s5 s6 s7) := by
  have k := sorts_excB (both_word (by omega) hn h hb)
  exact eErr_exc (by unfold E09; simp [b_law_Y11, k.call]) (s09_BadWord N)
theorem y12_09 : eErr b_law_Y12 cl_d_law_error_v6 "" (E09 ns st n (.val v) s4 s5 s6 s7) = .ok (.str "BadWord") (E09 ns st n (.val v) s4 s5 s6 s7) := by
  have k := alike_excB (both_word (by omega) hn h hb) .non
  exact eErr_exc (by unfold E09; simp [b_law_Y12, k.call]) (s09_BadWord N)
theorem y13_09 : eErr b_law_Y13 cl_d_law_error_v6 "" (E09 ns st n (.val v) s4 s5 s6 s7) = .ok (.str "BadWord") (E09 ns st n (.val v) s4 s5 s6 s7) := by
  have k := end_excB (both_word (by omega) hn h hb)
  exact eErr_exc (by unfold E09; simp [b_law_Y13, k.call]) (s09_BadWord N)
theorem y14_09 : eErr b_law_Y14 cl_d_law_error_v6 "" (E09 ns st n (.val v) s4 s5 s6 s7) = .ok (.str "BadWord") (E09 ns st n (.val v) s4 s5 s6 s7) := by
  have b := both_okR (n := n) (w := [0]) (by omega) hn (fun x hx => by rw [List.mem_singleton.mp hx]; omega) (by simp)
  have k := alike_word2 b (need_word_any h hb)
  have e : tn [0] = [.int 0] := rfl
  rw [e] at k
  exact eErr_exc (by unfold E09; simp [b_law_Y14, k.call, big]) (s09_BadWord N)
theorem y15_09 : eErr b_law_Y15 cl_d_law_error_v6 "" (E09 ns st n (.val v) s4 s5 s6 s7) = .ok (.str "BadWord") (E09 ns st n (.val v) s4 s5 s6 s7) := by
  have k := scat_excB (both_word (by omega) hn h hb) .non
  exact eErr_exc (by unfold E09; simp [b_law_Y15, k.call]) (s09_BadWord N)
theorem y16_09 : eErr b_law_Y16 cl_d_law_error_v6 "" (E09 ns st n (.val v) s4 s5 s6 s7) = .ok (.str "BadWord") (E09 ns st n (.val v) s4 s5 s6 s7) := by
  have k := lacking_excB (both_word (by omega) hn h hb)
  exact eErr_exc (by unfold E09; simp [b_law_Y16, k.call]) (s09_BadWord N)
end
theorem y19_09 (h2 : 2 ≤ n) (hn : n ≤ 7) {L : List D} (hd : Dr ns st) (h1 : 1 ≤ L.length) (hl : L.length ≤ 1000) (hL : ∀ v ∈ L, Any2 v ∧ rowD n v = false) : ∃ st', Dr ns st' ∧ eErr b_law_Y19 cl_d_law_error_v6 "" (E09 ns st n s3 s4 (.val (.lst L)) s6 s7) = .ok (.str "BadGoal") (E09 ns st' n s3 s4 (.val (.lst L)) s6 s7) := by
  obtain ⟨k, hk, st1, d1, v1⟩ := pick_ok L hd h1 (by omega)
  obtain ⟨a, b⟩ := hL _ (List.getElem_mem hk)
  have bo := both_okR (n := n) (w := [0]) (by omega) hn (fun x hx => by rw [List.mem_singleton.mp hx]; omega) (by simp)
  have kk := scat_goal bo (need_goal_any a (by omega) b)
  have e : tn [0] = [.int 0] := rfl
  rw [e] at kk
  refine ⟨st1, d1, eErr_exc (e' := E09 ns st1 n s3 s4 (.val (.lst L)) s6 s7) ?_ (s09_BadGoal N)⟩
  unfold E09
  simp [b_law_Y19, v1.call, kk.call, big]
theorem y20_09 (h : Any2 v) (hb : needRowB v = false) : eErr b_law_Y20 cl_d_law_error_v6 "" (E09 ns st n (.val v) s4 s5 s6 s7) = .ok (.str "BadRow") (E09 ns st n (.val v) s4 s5 s6 s7) := by
  have k := words_row h hb
  exact eErr_exc (by unfold E09; simp [b_law_Y20, k.call]) (s09_BadRow N)
theorem y21_09 (h : Any2 v) (hb : needRowB v = false) : eErr b_law_Y21 cl_d_law_error_v6 "" (E09 ns st n (.val v) s4 s5 s6 s7) = .ok (.str "BadRow") (E09 ns st n (.val v) s4 s5 s6 s7) := by
  have k := count_row h hb
  exact eErr_exc (by unfold E09; simp [b_law_Y21, k.call]) (s09_BadRow N)
theorem y22_09 : eErr b_law_Y22 cl_d_law_error_v6 "" (E09 ns st n s3 s4 s5 s6 s7) = .ok (.str "") (E09 ns st n s3 s4 s5 s6 s7) := by
  obtain ⟨v, k⟩ := words_5
  have e : tn (List.range 5) = [.int 0, .int 1, .int 2, .int 3, .int 4] := rfl
  rw [e] at k
  exact eErr_ok (d := v) (by unfold E09; simp [b_law_Y22, k.call, big])
theorem y23_09 : eErr b_law_Y23 cl_d_law_error_v6 "" (E09 ns st n s3 s4 s5 s6 s7) = .ok (.tup [.str "TooMany", .int 5000]) (E09 ns st n s3 s4 s5 s6 s7) := by
  have k := words_6
  have e : tn (List.range 6) = [.int 0, .int 1, .int 2, .int 3, .int 4, .int 5] := rfl
  rw [e] at k
  exact eErr_exc (by unfold E09; simp [b_law_Y23, k.call, big]) (s09_TooMany N 5000)
end
section CLSL
variable [CLs]
abbrev rows09 : List D := [.non, .tup [], .lst [.int 0, .int 1], .tup [.int 1, .int 2], .tup [.int 0, .int 0], .tup [.int 0, .bl true], .str "01", .int 3, .dct [], .tup [.int 0, .int 1, .int 2, .int 3, .int 4, .int 5, .int 6, .int 7]]
theorem rows09_ok : ∀ v ∈ rows09, Any2 v ∧ needRowB v = false := by
  have h : (rows09.all fun v => any2B v && !needRowB v) = true := by decide
  intro v hv
  have z := List.all_eq_true.mp h v hv
  rw [Bool.and_eq_true, Bool.not_eq_true'] at z
  exact ⟨any2_of z.1, z.2⟩
abbrev words09 (n : Nat) : List D := [.non, .lst [.int 0], .tup [.int ((n : Int) - 1)], .tup [.int (-1)], .tup [.bl true], .tup [.str "0"], .tup (tn (List.replicate 201 0)), .int 3, .str "0", .dct []]
theorem words09_ok (n : Nat) : ∀ v ∈ words09 n, Any2 v ∧ wordD n 200 v = false := by
  intro v hv
  simp only [words09, List.mem_cons, List.not_mem_nil, or_false] at hv
  rcases hv with rfl | rfl | rfl | rfl | rfl | rfl | rfl | rfl | rfl | rfl
  · exact ⟨any2_of rfl, rfl⟩
  · exact ⟨any2_of rfl, rfl⟩
  · refine ⟨any2_of rfl, ?_⟩
    show (decide (1 ≤ 200) && ([D.int ((n : Int) - 1)].all (fromB 0 ((n : Int) - 2)))) = false
    simp only [List.all_cons, List.all_nil, fromB, Bool.and_true, Bool.and_eq_false_iff]
    right; exact decide_eq_false (by omega)
  · refine ⟨any2_of rfl, ?_⟩
    show (decide (1 ≤ 200) && ([D.int (-1)].all (fromB 0 ((n : Int) - 2)))) = false
    simp only [List.all_cons, List.all_nil, fromB, Bool.and_true, Bool.and_eq_false_iff]
    right; exact decide_eq_false (by omega)
  · exact ⟨any2_of rfl, rfl⟩
  · exact ⟨any2_of rfl, rfl⟩
  · refine ⟨Any2.tup (by rw [tn_length, List.length_replicate]; omega) fun x hx => ?_, ?_⟩
    · obtain ⟨a, _, rfl⟩ := List.mem_map.mp hx
      exact .int _
    · simp only [wordD, tn_length, List.length_replicate, show decide (201 ≤ 200) = false from rfl, Bool.false_and]
  · exact ⟨any2_of rfl, rfl⟩
  · exact ⟨any2_of rfl, rfl⟩
  · exact ⟨any2_of rfl, rfl⟩
abbrev ones09 (n : Nat) : List D := (rgI 1 (n - 1) 1).map D.int
abbrev goals09 (n : Nat) : List D := [.non, .tup [], .tup (tn (List.range (n + 1))), .tup (tn (List.range (n - 1))), .lst (tn (List.range n)), .tup (tn (List.replicate n 0)), .tup (.bl true :: ones09 n), .str "01", .int 3, .dct []]
theorem ones_len (n : Nat) : (ones09 n).length = n - 1 := by simp [ones09, rgI]
theorem goals09_ok {n : Nat} (h2 : 2 ≤ n) (hn : n ≤ 7) : ∀ v ∈ goals09 n, Any2 v ∧ rowD n v = false := by
  intro v hv
  simp only [goals09, List.mem_cons, List.not_mem_nil, or_false] at hv
  have ofn : ∀ l : List Nat, l.length ≤ 1000 → Any2 (.tup (tn l)) := fun l hl => Any2.tup (by rw [tn_length]; exact hl) fun x hx => by
    obtain ⟨a, _, rfl⟩ := List.mem_map.mp hx
    exact .int _
  have ln : ∀ l : List Nat, l.length ≠ n → rowD n (.tup (tn l)) = false := fun l hl => by
    simp only [rowD, tn_length, decide_eq_false hl, Bool.false_and]
  rcases hv with rfl | rfl | rfl | rfl | rfl | rfl | rfl | rfl | rfl | rfl
  · exact ⟨any2_of rfl, rfl⟩
  · exact ⟨any2_of rfl, ln [] (by show 0 ≠ n; omega)⟩
  · exact ⟨ofn _ (by rw [List.length_range]; omega), ln _ (by rw [List.length_range]; omega)⟩
  · exact ⟨ofn _ (by rw [List.length_range]; omega), ln _ (by rw [List.length_range]; omega)⟩
  · exact ⟨any2_of rfl, rfl⟩
  · refine ⟨ofn _ (by rw [List.length_replicate]; omega), ?_⟩
    rcases (by omega : n = 2 ∨ n = 3 ∨ n = 4 ∨ n = 5 ∨ n = 6 ∨ n = 7) with rfl | rfl | rfl | rfl | rfl | rfl <;> decide
  · refine ⟨Any2.tup (by rw [List.length_cons, ones_len]; omega) fun x hx => ?_, ?_⟩
    · rcases List.mem_cons.mp hx with rfl | hx
      · exact .bl _
      · obtain ⟨a, _, rfl⟩ := List.mem_map.mp hx
        exact .int _
    · simp only [rowD, List.all_cons, fromB, Bool.false_and, Bool.and_false]
  · exact ⟨any2_of rfl, rfl⟩
  · exact ⟨any2_of rfl, rfl⟩
  · exact ⟨any2_of rfl, rfl⟩
section
variable {n : Nat} {ns : List Int} {st : D} (N : Ne09)
abbrev clo09 (k : Nat) : D := .clo k (CLs.lam k) CLs.cl
include N
theorem calls1_09 {v : D} (h : AnyV v) (hb : fromB 1 7 v = false) (s4 s5 s7 : DL.Slot) : lcRun (setV 6) b_law_T7 b_law_E8 [6] ([3, 2, 1, 0, 5, 4].map clo09) (E09 ns st n (.val v) s4 s5 .und s7) = .ok (.lst []) (E09 ns st n (.val v) s4 s5 .und s7) := by
  have ne := ne_word "BadCards"
  have lc := lc_of (g := setV 6) (ft := b_law_T7) (fe := b_law_E8) (vs := [6]) (e := E09 ns st n (.val v) s4 s5 .und s7) (fun k : Nat => clo09 k) (L := [3, 2, 1, 0, 5, 4]) (fun _ => false) (fun _ => .non) rfl (by simp [big]) fun k hk => by
    refine ⟨E09 ns st n (.val v) s4 s5 (.val (clo09 k)) s7, rfl, ?_, fun z => (by cases z), rfl, rfl⟩
    have key : ∀ g0 : Ef D, ([b_law_Y1, b_law_Y2, b_law_Y3, b_law_Y4, b_law_Y5, b_law_Y6] : List (Ef D))[k]? = some g0 → eErr g0 cl_d_law_error_v6 "" (E09 ns st n (.val v) s4 s5 (.val (clo09 k)) s7) = .ok (.str "BadCards") (E09 ns st n (.val v) s4 s5 (.val (clo09 k)) s7) → b_law_T7 (E09 ns st n (.val v) s4 s5 (.val (clo09 k)) s7) = .ok false (E09 ns st n (.val v) s4 s5 (.val (clo09 k)) s7) := fun g0 hg0 he => by
      have at_ := errV_at (iv := 6) (k := k) (gs := [b_law_Y1, b_law_Y2, b_law_Y3, b_law_Y4, b_law_Y5, b_law_Y6]) (cl := cl_d_law_error_v6) (z := "") (e := E09 ns st n (.val v) s4 s5 (.val (clo09 k)) s7) rfl hg0
      rw [he] at at_
      unfold b_law_T7
      simp only [eB_eq, eOp2_eq, bnd_ap, at_, rtn_ap, ne, lift_some, asB_bl]
    simp only [List.mem_cons, List.not_mem_nil, or_false] at hk
    rcases hk with rfl | rfl | rfl | rfl | rfl | rfl
    · exact key _ rfl (y4_09 N h hb)
    · exact key _ rfl (y3_09 N h hb)
    · exact key _ rfl (y2_09 N h hb)
    · exact key _ rfl (y1_09 N h hb)
    · exact key _ rfl (y6_09 N h hb)
    · exact key _ rfl (y5_09 N h hb)
  exact lc
theorem l9_09 {v : D} (h : AnyV v) (hb : fromB 1 7 v = false) (s4 s5 s7 : DL.Slot) : b_law_L9 (E09 ns st n (.val v) s4 s5 .und s7) = .ok .nx (E09 ns st n (.val v) (.val (.lst ([3, 2, 1, 0].map clo09))) s5 .und s7) := by
  have c := calls1_09 (ns := ns) (st := st) (n := n) N h hb (.val (.lst ([3, 2, 1, 0].map clo09))) s5 s7
  have ne := ne_nilD
  have ad : fAdd (.lst ([3, 2, 1, 0].map clo09)) (.lst ([5, 4].map clo09)) = some (.lst ([3, 2, 1, 0, 5, 4].map clo09)) := by
    unfold fAdd
    dsimp only
    rw [if_pos (by simp [big])]
    rfl
  simp only [List.map_cons, List.map_nil] at c ad ⊢
  unfold E09 at *
  simp [b_law_L9, ad, c, ne, big]
theorem calls2_09 {v : D} (h1 : 2 ≤ n) (hn : n ≤ 7) (h : Any2 v) (hb : wordD n 200 v = false) (s4 s5 s7 : DL.Slot) : lcRun (setV 6) b_law_T17 b_law_E18 [6] ([9, 8, 7, 6, 12, 11, 10].map clo09) (E09 ns st n (.val v) s4 s5 .und s7) = .ok (.lst []) (E09 ns st n (.val v) s4 s5 .und s7) := by
  have ne := ne_word "BadWord"
  have lc := lc_of (g := setV 6) (ft := b_law_T17) (fe := b_law_E18) (vs := [6]) (e := E09 ns st n (.val v) s4 s5 .und s7) (fun k : Nat => clo09 k) (L := [9, 8, 7, 6, 12, 11, 10]) (fun _ => false) (fun _ => .non) rfl (by simp [big]) fun k hk => by
    refine ⟨E09 ns st n (.val v) s4 s5 (.val (clo09 k)) s7, rfl, ?_, fun z => (by cases z), rfl, rfl⟩
    have key : ∀ g0 : Ef D, ([b_law_Y1, b_law_Y2, b_law_Y3, b_law_Y4, b_law_Y5, b_law_Y6, b_law_Y10, b_law_Y11, b_law_Y12, b_law_Y13, b_law_Y14, b_law_Y15, b_law_Y16] : List (Ef D))[k]? = some g0 → eErr g0 cl_d_law_error_v6 "" (E09 ns st n (.val v) s4 s5 (.val (clo09 k)) s7) = .ok (.str "BadWord") (E09 ns st n (.val v) s4 s5 (.val (clo09 k)) s7) → b_law_T17 (E09 ns st n (.val v) s4 s5 (.val (clo09 k)) s7) = .ok false (E09 ns st n (.val v) s4 s5 (.val (clo09 k)) s7) := fun g0 hg0 he => by
      have at_ := errV_at (iv := 6) (k := k) (gs := [b_law_Y1, b_law_Y2, b_law_Y3, b_law_Y4, b_law_Y5, b_law_Y6, b_law_Y10, b_law_Y11, b_law_Y12, b_law_Y13, b_law_Y14, b_law_Y15, b_law_Y16]) (cl := cl_d_law_error_v6) (z := "") (e := E09 ns st n (.val v) s4 s5 (.val (clo09 k)) s7) rfl hg0
      rw [he] at at_
      unfold b_law_T17
      simp only [eB_eq, eOp2_eq, bnd_ap, at_, rtn_ap, ne, lift_some, asB_bl]
    simp only [List.mem_cons, List.not_mem_nil, or_false] at hk
    rcases hk with rfl | rfl | rfl | rfl | rfl | rfl | rfl
    · exact key _ rfl (y13_09 N h1 hn h hb)
    · exact key _ rfl (y12_09 N h1 hn h hb)
    · exact key _ rfl (y11_09 N h1 hn h hb)
    · exact key _ rfl (y10_09 N h1 hn h hb)
    · exact key _ rfl (y16_09 N h1 hn h hb)
    · exact key _ rfl (y15_09 N h1 hn h hb)
    · exact key _ rfl (y14_09 N h1 hn h hb)
  exact lc
end
theorem law_true (hd : CAND cand09) (ns : List Int) (hl : ns.length ≤ 63) : Val g_law [.scr ns] (.bl true) := by
  have N := ne09 hd
  obtain ⟨t0, st1, ht0, d1, v1⟩ := taken_nat 5 (Dr.first ns 7109 (by decide) (by decide)) (by decide) (by decide)
  rw [show ((5 : Nat) : Int) = 5 from rfl] at v1
  obtain ⟨n, hn0⟩ : ∃ n, n = 2 + t0 := ⟨_, rfl⟩
  have cn : (2 : Int) + (t0 : Int) = (n : Int) := by omega
  have h2 : 2 ≤ n := by omega
  have h6 : n ≤ 6 := by omega
  have h7 : n ≤ 7 := by omega
  obtain ⟨k2, hk2, st2, d2, v2⟩ := pick_ok (words09 n) d1 (by simp) (by simp)
  obtain ⟨a2, b2⟩ := words09_ok n _ (List.getElem_mem hk2)
  obtain ⟨x2, hx2⟩ : ∃ x, x = (words09 n)[k2] := ⟨_, rfl⟩
  rw [← hx2] at v2 a2 b2
  have w2 := two_words "BadRow"
  have nw := ne_words "BadRow"
  have e1 : (0 : Int) - 1 = -1 := rfl
  -- the numbers of words, the end
  have r12 : ∀ st s3 s4 s5, ∃ e, b_law_R12 (E09 ns st n s3 s4 s5 .und .und) = .ok (.rt (.bl true)) e := fun st s3 s4 s5 => by
    have lc := lc_of (g := setV 7) (ft := rtn true) (fe := b_law_E24) (vs := [7]) (e := E09 ns st n s3 s4 s5 .und .und) (fun p : Nat × Nat => D.int (p.1 : Int)) (L := [(1, 1), (2, 1), (3, 2), (4, 16), (5, 768), (6, 292864)]) (fun _ => true) (fun p => .int (p.2 : Int)) rfl (by simp [big]) fun p hp => by
      have c : Val g_count_words_v2 [.tup (tn (List.range p.1))] (.int (p.2 : Int)) ∧ p.1 ≤ 6 := by
        simp only [List.mem_cons, List.not_mem_nil, or_false] at hp
        rcases hp with rfl | rfl | rfl | rfl | rfl | rfl
        · exact ⟨count_range (by decide) (by decide) nwV_1, by decide⟩
        · exact ⟨count_range (by decide) (by decide) nwV_2, by decide⟩
        · exact ⟨count_range (by decide) (by decide) nwV_3, by decide⟩
        · exact ⟨count_range (by decide) (by decide) nwV_4, by decide⟩
        · exact ⟨count_range (by decide) (by decide) nwV_5, by decide⟩
        · exact ⟨count_range (by decide) (by decide) nwV_6, by decide⟩
      obtain ⟨c, hp6⟩ := c
      obtain ⟨a, b⟩ := p
      dsimp only at c hp6 ⊢
      have sm := small_nat (n := a) (by omega)
      have ri : (rgI 0 a 1).map D.int = tn (List.range a) := range_tup a
      have hb : a ≤ 16000000 := by omega
      have hb2 : (a : Int) ≤ 16000000 := by omega
      refine ⟨E09 ns st n s3 s4 s5 .und (.val (.int (a : Int))), rfl, rfl, fun _ => ?_, rfl, rfl⟩
      unfold E09
      generalize tn (List.range a) = R at *
      simp [b_law_E24, sm, ri, hb, hb2, c.call]
    rw [List.filter_eq_self.mpr (fun _ _ => rfl)] at lc
    simp only [List.map_cons, List.map_nil] at lc
    have en := Val.le (end_ok (n := 1) (w := []) (by decide) (by decide) (fun x hx => by cases hx) (by simp)) le_g_end_v2
    have ee : tn (endP 1 []) = [.int 0] := by rw [show endP 1 [] = [0] by decide +kernel]; rfl
    rw [ee] at en
    have en : Val g_end_v2 [.int 1, .tup []] (.tup [.int 0]) := en
    have rg : rng 1 6 = [.int 1, .int 2, .int 3, .int 4, .int 5, .int 6] := by rfl
    have f1 : fEq (.lst [.int 1, .int 1, .int 2, .int 16, .int 768, .int 292864]) (.lst [.int 1, .int 1, .int 2, .int 16, .int 768, .int 292864]) = some (.bl true) := by rfl
    have f2 : fEq (.tup [.int 0]) (.tup [.int 0]) = some (.bl true) := by rfl
    refine ⟨E09 ns st n s3 s4 s5 .und .und, ?_⟩
    have s1 : smallI 1 = true := by decide
    have s7 : smallI 7 = true := by decide
    have lc : lcRun (setV 7) (rtn true) b_law_E24 [7] [.int 1, .int 2, .int 3, .int 4, .int 5, .int 6] (E09 ns st n s3 s4 s5 .und .und) = .ok (.lst [.int 1, .int 1, .int 2, .int 16, .int 768, .int 292864]) (E09 ns st n s3 s4 s5 .und .und) := lc
    unfold E09 at *
    simp [b_law_R12, s1, s7, rg, lc, f1, f2, en.call, big]
  have r11 : ∀ st s3 s4 s5, ∃ e, b_law_R11 (E09 ns st n s3 s4 s5 .und .und) = .ok (.rt (.bl true)) e := fun st s3 s4 s5 => by
    obtain ⟨e, r⟩ := r12 st s3 s4 s5
    have y22 := y22_09 (ns := ns) (st := st) (n := n) (s3 := s3) (s4 := s4) (s5 := s5) (s6 := .und) (s7 := .und) N
    have y23 := y23_09 (ns := ns) (st := st) (n := n) (s3 := s3) (s4 := s4) (s5 := s5) (s6 := .und) (s7 := .und) N
    have ne : fNe (.lst [.tup [.str "TooMany", .int 5000], .str ""]) (.lst [.tup [.str "TooMany", .int 5000], .str ""]) = some (.bl false) := fNe_self rfl
    refine ⟨e, ?_⟩
    simp only [b_law_R11, sSeq_eq, sIf_eq, eB_eq, eOp2_eq, eLst_eq, eTup_eq, aCons_eq, bnd_ap, y22, y23, rtn_ap, List.length_cons, List.length_nil]
    rw [if_pos (by decide), if_pos (by decide)]
    simp [ne, r, big]
  -- no rows
  have r9 : ∀ st, Dr ns st → ∀ s3 s4 s5, ∃ e, b_law_R9 (E09 ns st n s3 s4 s5 .und .und) = .ok (.rt (.bl true)) e := fun st ds s3 s4 s5 => by
    obtain ⟨k, hk, st', d', v'⟩ := pick_ok rows09 ds (by simp) (by simp)
    obtain ⟨a, b⟩ := rows09_ok _ (List.getElem_mem hk)
    obtain ⟨x, hx⟩ : ∃ x, x = rows09[k] := ⟨_, rfl⟩
    rw [← hx] at v' a b
    obtain ⟨e, r⟩ := r11 st' (.val x) s4 s5
    have y20 := y20_09 (ns := ns) (st := st') (n := n) (s4 := s4) (s5 := s5) (s6 := .und) (s7 := .und) N a b
    have y21 := y21_09 (ns := ns) (st := st') (n := n) (s4 := s4) (s5 := s5) (s6 := .und) (s7 := .und) N a b
    refine ⟨e, ?_⟩
    have r10 : b_law_R10 (E09 ns st' n (.val x) s4 s5 .und .und) = .ok (.rt (.bl true)) e := by
      simp only [b_law_R10, sSeq_eq, sIf_eq, eB_eq, eOp2_eq, eLst_eq, aCons_eq, bnd_ap, y20, y21, rtn_ap, List.length_cons, List.length_nil]
      rw [if_pos (by decide), if_pos (by decide)]
      simp [w2, nw, r]
    unfold E09 at *
    simp only [rows09] at v'
    simp [b_law_R9, v'.call, r10, big]
  -- no goals
  have sm : smallI ((n : Int) + 1) = true := by have := small_nat (n := n + 1) (by omega); rw [Int.natCast_succ] at this; exact this
  have sm1 : smallI ((n : Int) - 1) = true := by have := small_nat (n := n - 1) (by omega); rw [show ((n - 1 : Nat) : Int) = (n : Int) - 1 by omega] at this; exact this
  have sm2 := small_nat (n := n) (by omega)
  have s1 : smallI 1 = true := by decide
  have ri1 : (rgI 0 (n + 1) 1).map D.int = tn (List.range (n + 1)) := range_tup (n + 1)
  have ri0 : (rgI 0 (n - 1) 1).map D.int = tn (List.range (n - 1)) := range_tup (n - 1)
  have ri2 : (rgI 0 n 1).map D.int = tn (List.range n) := range_tup n
  have tz : ((n : Int) + 1).toNat = n + 1 := by omega
  have tz1 : ((n : Int) - 1).toNat = n - 1 := by omega
  have hb1 : n + 1 ≤ 16000000 := by omega
  have hb0 : n - 1 ≤ 16000000 := by omega
  have hb2 : (n : Int) ≤ 16000000 := by omega
  have hb3 : n ≤ 16000000 := by omega
  have hb4 : (n : Int) + 1 ≤ 16000000 := by omega
  have hb5 : (n : Int) - 1 ≤ 16000000 := by omega
  have mn := fMulT_rep 0 n (by omega)
  rw [show ((0 : Nat) : Int) = 0 from rfl] at mn
  have adT : fAdd (.tup [.bl true]) (.tup (ones09 n)) = some (.tup (.bl true :: ones09 n)) := by
    unfold fAdd
    dsimp only
    rw [if_pos (by rw [ones_len]; show 1 + _ ≤ 16000000; omega)]
    rfl
  have r7 : ∀ st, Dr ns st → ∀ s3 s4 s5, ∃ e, b_law_R7 (E09 ns st n s3 s4 s5 .und .und) = .ok (.rt (.bl true)) e := fun st ds s3 s4 s5 => by
    obtain ⟨st', d', y⟩ := y19_09 (ns := ns) (n := n) (s3 := s3) (s4 := s4) (s6 := .und) (s7 := .und) N h2 h7 (L := goals09 n) ds (by simp) (by simp) (goals09_ok h2 h7)
    obtain ⟨e, r⟩ := r9 st' d' s3 s4 (.val (.lst (goals09 n)))
    have ne := ne_word "BadGoal"
    refine ⟨e, ?_⟩
    have r8 : b_law_R8 (E09 ns st n s3 s4 (.val (.lst (goals09 n))) .und .und) = .ok (.rt (.bl true)) e := by
      simp only [b_law_R8, sSeq_eq, sIf_eq, eB_eq, eOp2_eq, bnd_ap, y, rtn_ap, ne, lift_some, asB_bl, Bool.false_eq_true, if_false, r]
    unfold E09 at *
    simp only [goals09] at r8
    generalize tn (List.range (n + 1)) = T1 at *
    generalize tn (List.range (n - 1)) = T0 at *
    generalize tn (List.range n) = T2 at *
    generalize tn (List.replicate n 0) = T3 at *
    have ho : (rgI 1 (n - 1) 1).map D.int = ones09 n := rfl
    generalize ones09 n = T4 at *
    simp [b_law_R7, sm, sm1, sm2, s1, ri1, ri0, ri2, ho, tz, tz1, hb0, hb1, hb2, hb3, hb4, hb5, mn, adT, r8, big]
  -- no words
  have m201 := fMulT_rep 0 201 (by omega)
  rw [show ((0 : Nat) : Int) = 0 from rfl, show ((201 : Nat) : Int) = 201 from rfl] at m201
  have r3 : ∀ s3 s4, ∃ e, b_law_R3 (E09 ns st1 n s3 s4 .und .und .und) = .ok (.rt (.bl true)) e := fun s3 s4 => by
    obtain ⟨e, r⟩ := r7 st2 d2 (.val x2) (.val (.lst ([9, 8, 7, 6, 12, 11, 10].map clo09))) .und
    have c := calls2_09 (ns := ns) (st := st2) N h2 h7 a2 b2 (.val (.lst ([9, 8, 7, 6, 12, 11, 10].map clo09))) .und .und
    have ne := ne_nilD
    have ad : fAdd (.lst ([9, 8, 7, 6].map clo09)) (.lst ([12, 11, 10].map clo09)) = some (.lst ([9, 8, 7, 6, 12, 11, 10].map clo09)) := by
      unfold fAdd
      dsimp only
      rw [if_pos (by simp [big])]
      rfl
    simp only [List.map_cons, List.map_nil] at c ad r
    refine ⟨e, ?_⟩
    unfold E09 at *
    simp only [words09] at v2
    generalize tn (List.replicate 201 0) = T2 at *
    simp [b_law_R3, b_law_R4, b_law_R5, b_law_R6, m201, v2.call, ad, c, ne, r, big, e1]
  have r2 : ∃ e, b_law_R2 (E09 ns st1 n .und .und .und .und .und) = .ok (.rt (.bl true)) e := by
    obtain ⟨e', lp, s3', s4', rfl⟩ := loopF_inv (g := setV 3) (body := b_law_L9) (fun i e => ∃ s3 s4, e = E09 ns st1 n s3 s4 .und .und .und) [.non, .int 0, .int 8, .int (-1), .bl true, .str "3", .tup [.int 3]] 0 (E09 ns st1 n .und .und .und .und .und) ⟨_, _, rfl⟩ fun i v e hv hp => by
      obtain ⟨s3, s4, rfl⟩ := hp
      have hm := List.mem_of_getElem? hv
      simp only [List.mem_cons, List.not_mem_nil, or_false] at hm
      have ok : AnyV v ∧ fromB 1 7 v = false := by
        rcases hm with rfl | rfl | rfl | rfl | rfl | rfl | rfl
        · exact ⟨.non, rfl⟩
        · exact ⟨.int _, rfl⟩
        · exact ⟨.int _, rfl⟩
        · exact ⟨.int _, rfl⟩
        · exact ⟨.bl _, rfl⟩
        · exact ⟨.str _, rfl⟩
        · exact ⟨.tup _, rfl⟩
      exact ⟨_, _, rfl, .inl (l9_09 N ok.1 ok.2 _ _ _), _, _, rfl⟩
    obtain ⟨e, r⟩ := r3 s3' s4'
    refine ⟨e, ?_⟩
    unfold E09 at *
    simp [b_law_R2, lp, r, big, e1]
  obtain ⟨e, r⟩ := r2
  refine Val.run ⟨e, .inl ?_⟩
  unfold E09 at *
  simp [b_law, b_law_R1, v1.call, cn, r, big]
end CLSL
def topS (i : Nat) : Stmt := PySem.Challenge.pw_sturdysort_k09_words_refused.main.body.getD i (.Pass ⟨0, 0, 0, 0⟩)
/-- what the text has laid -/
structure Txt [CA] [TBs] (P : Program) (w : World) (K : PySem.W.Frag) (mg : Str → Option Value) (base : Heap) : Prop where
  x__law_taken : ∃ f fd, FunD K "_law_taken" "_law_taken" (defArgs (topS 40)) (defBody (topS 40)) (defScope (topS 40)) [] [] f fd ∧ mg "_law_taken" = some (.ref f) ∧ Binds K fd ["_law_row", "_law_many"] []
  x__law_pick : ∃ f fd, FunD K "_law_pick" "_law_pick" (defArgs (topS 41)) (defBody (topS 41)) (defScope (topS 41)) [] [] f fd ∧ mg "_law_pick" = some (.ref f) ∧ Binds K fd ["_law_row", "_law_things"] []
  x_d_law_error_v6 : ∃ f fd, FunD K "_law_error" "_law_error" (defArgs (topS 42)) (defBody (topS 42)) (defScope (topS 42)) [] [] f fd ∧ mg "_law_error" = some (.ref f) ∧ Binds K fd ["_law_call"] []
  x_is_integer : ∃ f fd, FunD K "is_integer" "is_integer" (defArgs (topS 10)) (defBody (topS 10)) (defScope (topS 10)) [] [] f fd ∧ mg "is_integer" = some (.ref f) ∧ Binds K fd ["value"] []
  x_is_from : ∃ f fd, FunD K "is_from" "is_from" (defArgs (topS 11)) (defBody (topS 11)) (defScope (topS 11)) [] [] f fd ∧ mg "is_from" = some (.ref f) ∧ Binds K fd ["value", "low", "high"] []
  x_need_cards_v2 : ∃ f fd, FunD K "need_cards" "need_cards" (defArgs (topS 12)) (defBody (topS 12)) (defScope (topS 12)) [] [] f fd ∧ mg "need_cards" = some (.ref f) ∧ Binds K fd ["n"] []
  x_need_word_v2 : ∃ f fd, FunD K "need_word" "need_word" (defArgs (topS 15)) (defBody (topS 15)) (defScope (topS 15)) [.int 200] [] f fd ∧ mg "need_word" = some (.ref f) ∧ True ∧ ∃ ds, Vals [V.int 200] ds ∧ Binds K fd ["n", "value", "most"] ds
  x_need_both_v2 : ∃ f fd, FunD K "need_both" "need_both" (defArgs (topS 24)) (defBody (topS 24)) (defScope (topS 24)) [] [] f fd ∧ mg "need_both" = some (.ref f) ∧ Binds K fd ["n", "word"] []
  x_exchanged : ∃ f fd, FunD K "exchanged" "exchanged" (defArgs (topS 17)) (defBody (topS 17)) (defScope (topS 17)) [] [] f fd ∧ mg "exchanged" = some (.ref f) ∧ Binds K fd ["row", "deed"] []
  x_done : ∃ f fd, FunD K "done" "done" (defArgs (topS 18)) (defBody (topS 18)) (defScope (topS 18)) [] [] f fd ∧ mg "done" = some (.ref f) ∧ Binds K fd ["row", "deed"] []
  x_run_left : ∃ f fd, FunD K "run_left" "run_left" (defArgs (topS 19)) (defBody (topS 19)) (defScope (topS 19)) [] [] f fd ∧ mg "run_left" = some (.ref f) ∧ Binds K fd ["row", "word", "lot"] []
  x_turned_row : ∃ f fd, FunD K "turned_row" "turned_row" (defArgs (topS 16)) (defBody (topS 16)) (defScope (topS 16)) [] [] f fd ∧ mg "turned_row" = some (.ref f) ∧ Binds K fd ["n"] []
  x_end_of : ∃ f fd, FunD K "end_of" "end_of" (defArgs (topS 26)) (defBody (topS 26)) (defScope (topS 26)) [] [] f fd ∧ mg "end_of" = some (.ref f) ∧ Binds K fd ["n", "word"] []
  x_end_v2 : ∃ f fd, FunD K "end" "end" (defArgs (topS 27)) (defBody (topS 27)) (defScope (topS 27)) [] [] f fd ∧ mg "end" = some (.ref f) ∧ Binds K fd ["n", "word"] []
  x_are_alike_v2 : ∃ f fd, FunD K "are_alike" "are_alike" (defArgs (topS 28)) (defBody (topS 28)) (defScope (topS 28)) [] [] f fd ∧ mg "are_alike" = some (.ref f) ∧ Binds K fd ["n", "one", "other"] []
  x_sorts_all_v2 : ∃ f fd, FunD K "sorts_all" "sorts_all" (defArgs (topS 29)) (defBody (topS 29)) (defScope (topS 29)) [] [] f fd ∧ mg "sorts_all" = some (.ref f) ∧ Binds K fd ["n", "word"] []
  x_pairs_out : ∃ f fd, FunD K "pairs_out" "pairs_out" (defArgs (topS 20)) (defBody (topS 20)) (defScope (topS 20)) [] [] f fd ∧ mg "pairs_out" = some (.ref f) ∧ Binds K fd ["row"] []
  x_least_way_v2 : ∃ f fd, FunD K "least_way" "least_way" (defArgs (topS 21)) (defBody (topS 21)) (defScope (topS 21)) [] [] f fd ∧ mg "least_way" = some (.ref f) ∧ Binds K fd ["row", "other"] []
  x_least_word_v4 : ∃ f fd, FunD K "least_word" "least_word" (defArgs (topS 30)) (defBody (topS 30)) (defScope (topS 30)) [] [] f fd ∧ mg "least_word" = some (.ref f) ∧ Binds K fd ["n", "word"] []
  x_lacking_v3 : ∃ f fd, FunD K "lacking" "lacking" (defArgs (topS 31)) (defBody (topS 31)) (defScope (topS 31)) [] [] f fd ∧ mg "lacking" = some (.ref f) ∧ Binds K fd ["n", "word"] []
  x_is_row_of : ∃ f fd, FunD K "is_row_of" "is_row_of" (defArgs (topS 13)) (defBody (topS 13)) (defScope (topS 13)) [] [] f fd ∧ mg "is_row_of" = some (.ref f) ∧ Binds K fd ["n", "value"] []
  x_need_goal_v2 : ∃ f fd, FunD K "need_goal" "need_goal" (defArgs (topS 25)) (defBody (topS 25)) (defScope (topS 25)) [] [] f fd ∧ mg "need_goal" = some (.ref f) ∧ Binds K fd ["n", "value"] []
  x_reach_from : ∃ f fd, FunD K "reach_from" "reach_from" (defArgs (topS 36)) (defBody (topS 36)) (defScope (topS 36)) [] [] f fd ∧ mg "reach_from" = some (.ref f) ∧ Binds K fd ["word", "goal"] []
  x_first_scattered : ∃ f fd, FunD K "first_scattered" "first_scattered" (defArgs (topS 37)) (defBody (topS 37)) (defScope (topS 37)) [] [] f fd ∧ mg "first_scattered" = some (.ref f) ∧ Binds K fd ["n", "word", "goal", "fails"] []
  x_scattered_v2 : ∃ f fd, FunD K "scattered" "scattered" (defArgs (topS 38)) (defBody (topS 38)) (defScope (topS 38)) [] [] f fd ∧ mg "scattered" = some (.ref f) ∧ Binds K fd ["n", "word", "goal"] []
  x_need_row_v2 : ∃ f fd, FunD K "need_row" "need_row" (defArgs (topS 14)) (defBody (topS 14)) (defScope (topS 14)) [] [] f fd ∧ mg "need_row" = some (.ref f) ∧ Binds K fd ["value"] []
  x_steps_up : ∃ f fd, FunD K "steps_up" "steps_up" (defArgs (topS 32)) (defBody (topS 32)) (defScope (topS 32)) [] [] f fd ∧ mg "steps_up" = some (.ref f) ∧ Binds K fd ["row"] []
  x_number_of_words : ∃ f fd, FunD K "number_of_words" "number_of_words" (defArgs (topS 33)) (defBody (topS 33)) (defScope (topS 33)) [] [] f fd ∧ mg "number_of_words" = some (.ref f) ∧ Binds K fd ["row"] []
  x_count_words_v2 : ∃ f fd, FunD K "count_words" "count_words" (defArgs (topS 34)) (defBody (topS 34)) (defScope (topS 34)) [] [] f fd ∧ mg "count_words" = some (.ref f) ∧ Binds K fd ["row"] []
  x_all_words_v2 : ∃ f fd, FunD K "all_words" "all_words" (defArgs (topS 35)) (defBody (topS 35)) (defScope (topS 35)) [] [] f fd ∧ mg "all_words" = some (.ref f) ∧ Binds K fd ["row"] []
  x_law : ∃ f fd, FunD K "law" "law" (defArgs (topS 43)) (defBody (topS 43)) (defScope (topS 43)) [] [] f fd ∧ mg "law" = some (.ref f) ∧ Binds K fd ["_law_script"] [] ∧ TabF mg base fd ((("law" : Str) ++ ".<locals>.") ++ "<lambda>")
  n_ValueError : mg "ValueError" = none
  n_all : mg "all" = none
  n_bool : mg "bool" = none
  n_dict : mg "dict" = none
  n_enumerate : mg "enumerate" = none
  n_int : mg "int" = none
  n_isinstance : mg "isinstance" = none
  n_len : mg "len" = none
  n_list : mg "list" = none
  n_range : mg "range" = none
  n_reversed : mg "reversed" = none
  n_set : mg "set" = none
  n_sorted : mg "sorted" = none
  n_tuple : mg "tuple" = none
  w_BadCards : OwnX K mg "BadCards" (CA.at "BadCards")
  w_BadGoal : OwnX K mg "BadGoal" (CA.at "BadGoal")
  w_BadRow : OwnX K mg "BadRow" (CA.at "BadRow")
  w_BadWord : OwnX K mg "BadWord" (CA.at "BadWord")
  w_SortError : OwnX K mg "SortError" (CA.at "SortError")
  wa_TooMany : OwnXA P w K mg base "TooMany" (CA.at "TooMany") "most"
  ic_TooMany : ExcV K (CA.at "TooMany")
  e_BadCards_BadCards : PySem.W.exmOne K (.ref (CA.at "BadCards")) (.ref (CA.at "BadCards")) = some true
  e_BadCards_BadGoal : PySem.W.exmOne K (.ref (CA.at "BadCards")) (.ref (CA.at "BadGoal")) = some false
  e_BadCards_BadRow : PySem.W.exmOne K (.ref (CA.at "BadCards")) (.ref (CA.at "BadRow")) = some false
  e_BadCards_BadWord : PySem.W.exmOne K (.ref (CA.at "BadCards")) (.ref (CA.at "BadWord")) = some false
  e_BadCards_SortError : PySem.W.exmOne K (.ref (CA.at "BadCards")) (.ref (CA.at "SortError")) = some true
  e_BadCards_TooMany : PySem.W.exmOne K (.ref (CA.at "BadCards")) (.ref (CA.at "TooMany")) = some false
  e_BadGoal_BadCards : PySem.W.exmOne K (.ref (CA.at "BadGoal")) (.ref (CA.at "BadCards")) = some false
  e_BadGoal_BadGoal : PySem.W.exmOne K (.ref (CA.at "BadGoal")) (.ref (CA.at "BadGoal")) = some true
  e_BadGoal_BadRow : PySem.W.exmOne K (.ref (CA.at "BadGoal")) (.ref (CA.at "BadRow")) = some false
  e_BadGoal_BadWord : PySem.W.exmOne K (.ref (CA.at "BadGoal")) (.ref (CA.at "BadWord")) = some false
  e_BadGoal_SortError : PySem.W.exmOne K (.ref (CA.at "BadGoal")) (.ref (CA.at "SortError")) = some true
  e_BadGoal_TooMany : PySem.W.exmOne K (.ref (CA.at "BadGoal")) (.ref (CA.at "TooMany")) = some false
  e_BadRow_BadCards : PySem.W.exmOne K (.ref (CA.at "BadRow")) (.ref (CA.at "BadCards")) = some false
  e_BadRow_BadGoal : PySem.W.exmOne K (.ref (CA.at "BadRow")) (.ref (CA.at "BadGoal")) = some false
  e_BadRow_BadRow : PySem.W.exmOne K (.ref (CA.at "BadRow")) (.ref (CA.at "BadRow")) = some true
  e_BadRow_BadWord : PySem.W.exmOne K (.ref (CA.at "BadRow")) (.ref (CA.at "BadWord")) = some false
  e_BadRow_SortError : PySem.W.exmOne K (.ref (CA.at "BadRow")) (.ref (CA.at "SortError")) = some true
  e_BadRow_TooMany : PySem.W.exmOne K (.ref (CA.at "BadRow")) (.ref (CA.at "TooMany")) = some false
  e_BadWord_BadCards : PySem.W.exmOne K (.ref (CA.at "BadWord")) (.ref (CA.at "BadCards")) = some false
  e_BadWord_BadGoal : PySem.W.exmOne K (.ref (CA.at "BadWord")) (.ref (CA.at "BadGoal")) = some false
  e_BadWord_BadRow : PySem.W.exmOne K (.ref (CA.at "BadWord")) (.ref (CA.at "BadRow")) = some false
  e_BadWord_BadWord : PySem.W.exmOne K (.ref (CA.at "BadWord")) (.ref (CA.at "BadWord")) = some true
  e_BadWord_SortError : PySem.W.exmOne K (.ref (CA.at "BadWord")) (.ref (CA.at "SortError")) = some true
  e_BadWord_TooMany : PySem.W.exmOne K (.ref (CA.at "BadWord")) (.ref (CA.at "TooMany")) = some false
  e_TooMany_BadCards : PySem.W.exmOne K (.ref (CA.at "TooMany")) (.ref (CA.at "BadCards")) = some false
  e_TooMany_BadGoal : PySem.W.exmOne K (.ref (CA.at "TooMany")) (.ref (CA.at "BadGoal")) = some false
  e_TooMany_BadRow : PySem.W.exmOne K (.ref (CA.at "TooMany")) (.ref (CA.at "BadRow")) = some false
  e_TooMany_BadWord : PySem.W.exmOne K (.ref (CA.at "TooMany")) (.ref (CA.at "BadWord")) = some false
  e_TooMany_SortError : PySem.W.exmOne K (.ref (CA.at "TooMany")) (.ref (CA.at "SortError")) = some true
  e_TooMany_TooMany : PySem.W.exmOne K (.ref (CA.at "TooMany")) (.ref (CA.at "TooMany")) = some true
  v_MOST_CARDS : ∃ t, mg "MOST_CARDS" = some (.int 7 t)
  v_MOST_WORDS : ∃ t, mg "MOST_WORDS" = some (.int 5000 t)
theorem hu1_of {A : Around} {k : Nat} (hr : Room k A) : A.units + 1 < cLine := by have := hr.un; omega
theorem hu2_of {A : Around} {k : Nat} (hr : Room k A) : A.units + 2 < cLine := by have := hr.un; omega
theorem hu64_of {A : Around} {k : Nat} (hr : Room k A) : A.units + 64 < cLine := by have := hr.un; omega
theorem hu65_of {A : Around} {k : Nat} (hr : Room k A) : A.units + 65 < cLine := by have := hr.un; omega
section
variable {P : Program} {w : World} {K : PySem.W.Frag} {mg : Str → Option Value} {base : Heap}
/-! ### _law_taken -/
theorem sc__law_taken : FnScope ["_law_row", "_law_many", "_law_cell", "_law_found"] ["_law_row", "_law_many"] (defScope (topS 40)) := C8.fnScope_by (by decide +kernel)
theorem k__law_taken {f : Addr} {fd : FuncData} {dvs : List V} (F : FunD K "_law_taken" "_law_taken" (defArgs (topS 40)) (defBody (topS 40)) (defScope (topS 40)) dvs [] f fd) (T : Txt P w K mg base) : ∀ (X : Cx) (E : XK) (cdv : Value) (A : Around) (outer : List PySem.Env) (s : Shared) (H : Hp), X = cxOf (L2.CX P w) P w K mg base ["_law_row", "_law_many", "_law_cell", "_law_found"] "_law_taken" (defScope (topS 40)) f cdv A outer s H E → DC X (sk E) → Room 0 X.A → DSs X (sk E) (defBody (topS 40)) b__law_taken := by
  intro X E cdv A outer s H hX C hr
  subst hX
  have hu1 := hu1_of hr
  have hu2 := hu2_of hr
  have hu64 := hu64_of hr
  have hu65 := hu65_of hr
  exact (dss_cons (ds_if (dt_cmp (or_gt (by exact hu64)) (de_ixS (by exact hu1) 0 de_int) de_int (by first | exact nobehind _ (by decide) (by decide) | rfl))
    (dss_cons (ds_set C 3 (de_bin or_mod (de_callTy (cr_int) T.n_int bt_int (da_cons (de_ixS (by exact hu1) 0 de_int) da_nil)) (de_var 1)))
    (dss_cons (ds_asg (de_bin or_div (de_ixS (by exact hu1) 0 de_int) (de_var 1)) (dg_sub se_list 0 de_int))
    (dss_one (ds_ret (de_var 3)))))
    dss_nil)
    (dss_cons (ds_asg (de_bin or_add (de_ixS (by exact hu1) 0 de_int) de_int) (dg_sub se_list 0 de_int))
    (dss_cons (ds_if (dt_cmp (or_gt (by exact hu64)) (de_ixS (by exact hu1) 0 de_int) (de_callB (cr_len) T.n_len bt_len (da_cons (de_ixS (by exact hu1) 0 de_int) da_nil)) (by first | exact nobehind _ (by decide) (by decide) | rfl))
    (dss_cons (ds_asg (de_bin or_mod (de_callTy (cr_int) T.n_int bt_int (da_cons (de_bin or_add (de_bin or_mul (de_ixS (by exact hu1) 0 de_int) de_int) de_int) da_nil)) de_int) (dg_sub se_list 0 de_int))
    (dss_one (ds_ret (de_bin or_mod (de_callTy (cr_int) T.n_int bt_int (da_cons (de_bin or_div (de_ixS (by exact hu1) 0 de_int) de_int) da_nil)) (de_var 1)))))
    dss_nil)
    (dss_cons (ds_set C 2 (de_ix hu1 (de_ixS (by exact hu1) 0 de_int) (de_bin or_sub (de_ixS (by exact hu1) 0 de_int) de_int)))
    (dss_cons (ds_asg (de_bin or_mod (de_callTy (cr_int) T.n_int bt_int (da_cons (de_bin or_add (de_bin or_add (de_bin or_mul (de_ixS (by exact hu1) 0 de_int) de_int) (de_var 2)) de_int) da_nil)) de_int) (dg_sub se_list 0 de_int))
    (dss_cons (ds_if (dt_cmp (or_ge (by exact hu64)) (de_var 2) (de_bin or_pow de_int de_int) (by first | exact nobehind _ (by decide) (by decide) | rfl))
    (dss_one (ds_asg (de_bin or_div (de_var 2) (de_var 1)) (dg_sub se_list 0 de_int)))
    dss_nil)
    (dss_one (ds_ret (de_bin or_mod (de_callTy (cr_int) T.n_int bt_int (da_cons (de_var 2) da_nil)) (de_var 1))))))))))
theorem c__law_taken (T : Txt P w K mg base) : Cal P w K mg base 1 "_law_taken" 2 g__law_taken := by
  obtain ⟨f, fd, F, hm, hb⟩ := T.x__law_taken
  exact cal_of F hm hb sc__law_taken rfl (k__law_taken F T)
/-! ### _law_pick -/
theorem sc__law_pick : FnScope ["_law_row", "_law_things"] ["_law_row", "_law_things"] (defScope (topS 41)) := C8.fnScope_by (by decide +kernel)
theorem k__law_pick {f : Addr} {fd : FuncData} {dvs : List V} (F : FunD K "_law_pick" "_law_pick" (defArgs (topS 41)) (defBody (topS 41)) (defScope (topS 41)) dvs [] f fd) (T : Txt P w K mg base) : ∀ (X : Cx) (E : XK) (cdv : Value) (A : Around) (outer : List PySem.Env) (s : Shared) (H : Hp), X = cxOf (L2.CX P w) P w K mg base ["_law_row", "_law_things"] "_law_pick" (defScope (topS 41)) f cdv A outer s H E → DC X (sk E) → Room 1 X.A → DSs X (sk E) (defBody (topS 41)) b__law_pick := by
  intro X E cdv A outer s H hX C hr
  subst hX
  have hu1 := hu1_of hr
  have hu2 := hu2_of hr
  have hu64 := hu64_of hr
  have hu65 := hu65_of hr
  exact (dss_one (ds_ret (de_ix hu1 (de_var 1) (de_callR C (c__law_taken T) hr (by decide) 0 (da_cons (de_callB (cr_len) T.n_len bt_len (da_cons (de_var 1) da_nil)) da_nil)))))
theorem c__law_pick (T : Txt P w K mg base) : Cal P w K mg base 2 "_law_pick" 2 g__law_pick := by
  obtain ⟨f, fd, F, hm, hb⟩ := T.x__law_pick
  exact cal_of F hm hb sc__law_pick rfl (k__law_pick F T)
/-! ### _law_error -/
theorem sc_d_law_error_v6 : FnScope ["_law_call", "e"] ["_law_call"] (defScope (topS 42)) := C8.fnScope_by (by decide +kernel)
theorem er_d_law_error_v6 (T : Txt P w K mg base) : ErrFn K mg "_law_error" cl_d_law_error_v6 "" := by
  obtain ⟨f, fd, F, hm, hb⟩ := T.x_d_law_error_v6
  refine ⟨topS 42, f, fd, "_law_call", ["_law_call", "e"], F, hm, hb, sc_d_law_error_v6, rfl, .inl rfl, by decide, by decide, by decide, _, _, _, _, _, _, _, _, _, rfl, fun Z hK hmg hN hsc => ?_⟩
  subst hK hmg
  exact ⟨_, (.cons (nm := none) (oi := none) trivial ⟨gl_of hsc (by decide +kernel), by decide, .inl T.w_BadCards.mg⟩ (mOf_ok (by intro p hp; simp only [List.mem_cons, List.not_mem_nil, or_false] at hp; rcases hp with rfl | rfl | rfl | rfl | rfl <;> first | exact T.e_BadCards_BadCards | exact T.e_BadGoal_BadCards | exact T.e_BadRow_BadCards | exact T.e_BadWord_BadCards | exact T.e_TooMany_BadCards)) (fun a oe cls d pn hz hf => sv_const)
    (.cons (nm := none) (oi := none) trivial ⟨gl_of hsc (by decide +kernel), by decide, .inl T.w_BadWord.mg⟩ (mOf_ok (by intro p hp; simp only [List.mem_cons, List.not_mem_nil, or_false] at hp; rcases hp with rfl | rfl | rfl | rfl | rfl <;> first | exact T.e_BadWord_BadWord | exact T.e_BadCards_BadWord | exact T.e_BadGoal_BadWord | exact T.e_BadRow_BadWord | exact T.e_TooMany_BadWord)) (fun a oe cls d pn hz hf => sv_const)
    (.cons (nm := none) (oi := none) trivial ⟨gl_of hsc (by decide +kernel), by decide, .inl T.w_BadGoal.mg⟩ (mOf_ok (by intro p hp; simp only [List.mem_cons, List.not_mem_nil, or_false] at hp; rcases hp with rfl | rfl | rfl | rfl | rfl <;> first | exact T.e_BadGoal_BadGoal | exact T.e_BadCards_BadGoal | exact T.e_BadRow_BadGoal | exact T.e_BadWord_BadGoal | exact T.e_TooMany_BadGoal)) (fun a oe cls d pn hz hf => sv_const)
    (.cons (nm := none) (oi := none) trivial ⟨gl_of hsc (by decide +kernel), by decide, .inl T.w_BadRow.mg⟩ (mOf_ok (by intro p hp; simp only [List.mem_cons, List.not_mem_nil, or_false] at hp; rcases hp with rfl | rfl | rfl | rfl | rfl <;> first | exact T.e_BadRow_BadRow | exact T.e_BadCards_BadRow | exact T.e_BadGoal_BadRow | exact T.e_BadWord_BadRow | exact T.e_TooMany_BadRow)) (fun a oe cls d pn hz hf => sv_const)
    (.cons (nm := some "e") (oi := some 1) (nm_of hN hsc rfl (by decide +kernel)) ⟨gl_of hsc (by decide +kernel), by decide, .inl T.wa_TooMany.gl⟩ (mOf_ok (by intro p hp; simp only [List.mem_cons, List.not_mem_nil, or_false] at hp; rcases hp with rfl | rfl | rfl | rfl | rfl <;> first | exact T.e_TooMany_TooMany | exact T.e_BadCards_TooMany | exact T.e_BadGoal_TooMany | exact T.e_BadRow_TooMany | exact T.e_BadWord_TooMany)) (fun a oe cls d pn hz hf => sv_tup hz hf (mOf_xf (by intro p hp hb; simp only [List.mem_cons, List.not_mem_nil, or_false] at hp; rcases hp with rfl | rfl | rfl | rfl | rfl <;> first | exact ⟨T.wa_TooMany.xf, T.wa_TooMany.nof⟩ | cases hb)) (mOf_all (by intro p hp hb; simp only [List.mem_cons, List.not_mem_nil, or_false] at hp; rcases hp with rfl | rfl | rfl | rfl | rfl <;> first | exact T.ic_TooMany | cases hb)) (by rw [hN]; rfl) (vis_of hsc (by decide +kernel)) (gl_of hsc (by decide +kernel)) T.n_isinstance (gl_of hsc (by decide +kernel)) T.n_ValueError (by decide) (by decide))
    (.cons (nm := none) (oi := none) trivial ⟨gl_of hsc (by decide +kernel), by decide, .inl T.w_SortError.mg⟩ (mOf_ok (by intro p hp; simp only [List.mem_cons, List.not_mem_nil, or_false] at hp; rcases hp with rfl | rfl | rfl | rfl | rfl <;> first | exact T.e_BadCards_SortError | exact T.e_BadGoal_SortError | exact T.e_BadRow_SortError | exact T.e_BadWord_SortError | exact T.e_TooMany_SortError)) (fun a oe cls d pn hz hf => sv_const)
    .nil))))))⟩
/-! ### is_integer -/
theorem sc_is_integer : FnScope ["value"] ["value"] (defScope (topS 10)) := C8.fnScope_by (by decide +kernel)
theorem k_is_integer {f : Addr} {fd : FuncData} {dvs : List V} (F : FunD K "is_integer" "is_integer" (defArgs (topS 10)) (defBody (topS 10)) (defScope (topS 10)) dvs [] f fd) (T : Txt P w K mg base) : ∀ (X : Cx) (E : XK) (cdv : Value) (A : Around) (outer : List PySem.Env) (s : Shared) (H : Hp), X = cxOf (L2.CX P w) P w K mg base ["value"] "is_integer" (defScope (topS 10)) f cdv A outer s H E → DC X (sk E) → Room 0 X.A → DSs X (sk E) (defBody (topS 10)) b_is_integer := by
  intro X E cdv A outer s H hX C hr
  subst hX
  have hu1 := hu1_of hr
  have hu2 := hu2_of hr
  have hu64 := hu64_of hr
  have hu65 := hu65_of hr
  exact (dss_one (ds_ret (de_and (de_callB cr_isi T.n_isinstance bt_isinstance (da_cons (de_var 0) (da_cons (de_type T.n_int bt_int) da_nil))) (de_one (de_not (de_callB cr_isi T.n_isinstance bt_isinstance (da_cons (de_var 0) (da_cons (de_type T.n_bool bt_bool) da_nil))))))))
theorem c_is_integer (T : Txt P w K mg base) : Cal P w K mg base 1 "is_integer" 1 g_is_integer := by
  obtain ⟨f, fd, F, hm, hb⟩ := T.x_is_integer
  exact cal_of F hm hb sc_is_integer rfl (k_is_integer F T)
/-! ### is_from -/
theorem sc_is_from : FnScope ["value", "low", "high"] ["value", "low", "high"] (defScope (topS 11)) := C8.fnScope_by (by decide +kernel)
theorem k_is_from {f : Addr} {fd : FuncData} {dvs : List V} (F : FunD K "is_from" "is_from" (defArgs (topS 11)) (defBody (topS 11)) (defScope (topS 11)) dvs [] f fd) (T : Txt P w K mg base) : ∀ (X : Cx) (E : XK) (cdv : Value) (A : Around) (outer : List PySem.Env) (s : Shared) (H : Hp), X = cxOf (L2.CX P w) P w K mg base ["value", "low", "high"] "is_from" (defScope (topS 11)) f cdv A outer s H E → DC X (sk E) → Room 1 X.A → DSs X (sk E) (defBody (topS 11)) b_is_from := by
  intro X E cdv A outer s H hX C hr
  subst hX
  have hu1 := hu1_of hr
  have hu2 := hu2_of hr
  have hu64 := hu64_of hr
  have hu65 := hu65_of hr
  exact (dss_one (ds_ret (de_and (de_call C (c_is_integer T) hr (by decide) (da_cons (de_var 0) da_nil)) (de_one (de_chain (or_le (by exact hu64)) (or_le (by exact hu64)) (de_var 1) (de_var 0) (de_var 2))))))
theorem c_is_from (T : Txt P w K mg base) : Cal P w K mg base 2 "is_from" 3 g_is_from := by
  obtain ⟨f, fd, F, hm, hb⟩ := T.x_is_from
  exact cal_of F hm hb sc_is_from rfl (k_is_from F T)
/-! ### need_cards -/
theorem sc_need_cards_v2 : FnScope ["n"] ["n"] (defScope (topS 12)) := C8.fnScope_by (by decide +kernel)
theorem k_need_cards_v2 {f : Addr} {fd : FuncData} {dvs : List V} (F : FunD K "need_cards" "need_cards" (defArgs (topS 12)) (defBody (topS 12)) (defScope (topS 12)) dvs [] f fd) (T : Txt P w K mg base) : ∀ (X : Cx) (E : XK) (cdv : Value) (A : Around) (outer : List PySem.Env) (s : Shared) (H : Hp), X = cxOf (L2.CX P w) P w K mg base ["n"] "need_cards" (defScope (topS 12)) f cdv A outer s H E → DC X (sk E) → Room 2 X.A → DSs X (sk E) (defBody (topS 12)) b_need_cards_v2 := by
  intro X E cdv A outer s H hX C hr
  subst hX
  have hu1 := hu1_of hr
  have hu2 := hu2_of hr
  have hu64 := hu64_of hr
  have hu65 := hu65_of hr
  exact (dss_one (ds_if (dt_not (dt_truth (de_call C (c_is_from T) hr (by decide) (da_cons (de_var 0) (da_cons de_int (da_cons (de_globInt T.v_MOST_CARDS.choose_spec) da_nil))))))
    (dss_one (ds_raise C T.w_BadCards))
    dss_nil))
theorem c_need_cards_v2 (T : Txt P w K mg base) : Cal P w K mg base 3 "need_cards" 1 g_need_cards_v2 := by
  obtain ⟨f, fd, F, hm, hb⟩ := T.x_need_cards_v2
  exact cal_of F hm hb sc_need_cards_v2 rfl (k_need_cards_v2 F T)
/-! ### need_word -/
theorem sc_need_word_v2 : FnScope ["n", "value", "most", "deed"] ["n", "value", "most"] (defScope (topS 15)) := C8.fnScope_by (by decide +kernel)
theorem k_need_word_v2 {f : Addr} {fd : FuncData} {dvs : List V} (F : FunD K "need_word" "need_word" (defArgs (topS 15)) (defBody (topS 15)) (defScope (topS 15)) dvs [] f fd) (T : Txt P w K mg base) : ∀ (X : Cx) (E : XK) (cdv : Value) (A : Around) (outer : List PySem.Env) (s : Shared) (H : Hp), X = cxOf (L2.CX P w) P w K mg base ["n", "value", "most", "deed"] "need_word" (defScope (topS 15)) f cdv A outer s H E → DC X (sk E) → Room 2 X.A → DSs X (sk E) (defBody (topS 15)) b_need_word_v2 := by
  intro X E cdv A outer s H hX C hr
  subst hX
  have hu1 := hu1_of hr
  have hu2 := hu2_of hr
  have hu64 := hu64_of hr
  have hu65 := hu65_of hr
  exact (dss_one (ds_if (dt_w (dw_or (dt_not (dt_truth (de_callB cr_isi T.n_isinstance bt_isinstance (da_cons (de_var 1) (da_cons (de_type T.n_tuple bt_tuple) da_nil))))) (dw_or (dt_cmp (or_gt (by exact hu64)) (de_callB (cr_len) T.n_len bt_len (da_cons (de_var 1) da_nil)) (de_var 2) (by first | exact nobehind _ (by decide) (by decide) | rfl)) (dw_or1 (dt_not (dt_truth (de_callB (cr_allD C.calm) T.n_all bt_all (da_cons (DN.de (dn_lc C [("deed", 3)] (di_any (de_var 1)) (blkOk_by rfl) (fun Y1 s1 H1 Ca1 cl1 fp1 hY1 C1 => by subst hY1; exact (dg_name C1 3)) (fun Y1 s1 H1 Ca1 cl1 fp1 hY1 C1 => by subst hY1; exact dts_nil) (fun Y1 s1 H1 Ca1 cl1 fp1 hY1 C1 => by subst hY1; exact (de_call C1 (c_is_from T) hr (by decide) (da_cons (de_var 3) (da_cons de_int (da_cons (de_bin or_sub (de_var 0) de_int) da_nil))))))) da_nil))))))))
    (dss_one (ds_raise C T.w_BadWord))
    dss_nil))
theorem c_need_word_v2_2 (T : Txt P w K mg base) : Cal P w K mg base 3 "need_word" 2 g_need_word_v2_2 := by
  obtain ⟨f, fd, F, hm, hb, ds, hv, hd⟩ := T.x_need_word_v2
  exact cal_ofD (dd := [.int 200]) F hm hv hd (fun _ => .cons (.int 200) (.nil)) sc_need_word_v2 rfl (k_need_word_v2 F T)
/-! ### need_both -/
theorem sc_need_both_v2 : FnScope ["n", "word"] ["n", "word"] (defScope (topS 24)) := C8.fnScope_by (by decide +kernel)
theorem k_need_both_v2 {f : Addr} {fd : FuncData} {dvs : List V} (F : FunD K "need_both" "need_both" (defArgs (topS 24)) (defBody (topS 24)) (defScope (topS 24)) dvs [] f fd) (T : Txt P w K mg base) : ∀ (X : Cx) (E : XK) (cdv : Value) (A : Around) (outer : List PySem.Env) (s : Shared) (H : Hp), X = cxOf (L2.CX P w) P w K mg base ["n", "word"] "need_both" (defScope (topS 24)) f cdv A outer s H E → DC X (sk E) → Room 3 X.A → DSs X (sk E) (defBody (topS 24)) b_need_both_v2 := by
  intro X E cdv A outer s H hX C hr
  subst hX
  have hu1 := hu1_of hr
  have hu2 := hu2_of hr
  have hu64 := hu64_of hr
  have hu65 := hu65_of hr
  exact (dss_cons (ds_expr (de_call C (c_need_cards_v2 T) hr (by decide) (da_cons (de_var 0) da_nil)))
    (dss_one (ds_expr (de_call C (c_need_word_v2_2 T) hr (by decide) (da_cons (de_var 0) (da_cons (de_var 1) da_nil))))))
theorem c_need_both_v2 (T : Txt P w K mg base) : Cal P w K mg base 4 "need_both" 2 g_need_both_v2 := by
  obtain ⟨f, fd, F, hm, hb⟩ := T.x_need_both_v2
  exact cal_of F hm hb sc_need_both_v2 rfl (k_need_both_v2 F T)
/-! ### exchanged -/
theorem sc_exchanged : FnScope ["row", "deed"] ["row", "deed"] (defScope (topS 17)) := C8.fnScope_by (by decide +kernel)
theorem k_exchanged {f : Addr} {fd : FuncData} {dvs : List V} (F : FunD K "exchanged" "exchanged" (defArgs (topS 17)) (defBody (topS 17)) (defScope (topS 17)) dvs [] f fd) (T : Txt P w K mg base) : ∀ (X : Cx) (E : XK) (cdv : Value) (A : Around) (outer : List PySem.Env) (s : Shared) (H : Hp), X = cxOf (L2.CX P w) P w K mg base ["row", "deed"] "exchanged" (defScope (topS 17)) f cdv A outer s H E → DC X (sk E) → Room 0 X.A → DSs X (sk E) (defBody (topS 17)) b_exchanged := by
  intro X E cdv A outer s H hX C hr
  subst hX
  have hu1 := hu1_of hr
  have hu2 := hu2_of hr
  have hu64 := hu64_of hr
  have hu65 := hu65_of hr
  exact (dss_one (ds_ret (de_bin or_add (de_bin or_add (de_sl (de_var 0) do_none (do_some (de_var 1))) (de_tup (da_cons (de_ix hu1 (de_var 0) (de_bin or_add (de_var 1) de_int)) (da_cons (de_ix hu1 (de_var 0) (de_var 1)) da_nil)))) (de_sl (de_var 0) (do_some (de_bin or_add (de_var 1) de_int)) do_none))))
theorem c_exchanged (T : Txt P w K mg base) : Cal P w K mg base 1 "exchanged" 2 g_exchanged := by
  obtain ⟨f, fd, F, hm, hb⟩ := T.x_exchanged
  exact cal_of F hm hb sc_exchanged rfl (k_exchanged F T)
/-! ### done -/
theorem sc_done : FnScope ["row", "deed"] ["row", "deed"] (defScope (topS 18)) := C8.fnScope_by (by decide +kernel)
theorem k_done {f : Addr} {fd : FuncData} {dvs : List V} (F : FunD K "done" "done" (defArgs (topS 18)) (defBody (topS 18)) (defScope (topS 18)) dvs [] f fd) (T : Txt P w K mg base) : ∀ (X : Cx) (E : XK) (cdv : Value) (A : Around) (outer : List PySem.Env) (s : Shared) (H : Hp), X = cxOf (L2.CX P w) P w K mg base ["row", "deed"] "done" (defScope (topS 18)) f cdv A outer s H E → DC X (sk E) → Room 1 X.A → DSs X (sk E) (defBody (topS 18)) b_done := by
  intro X E cdv A outer s H hX C hr
  subst hX
  have hu1 := hu1_of hr
  have hu2 := hu2_of hr
  have hu64 := hu64_of hr
  have hu65 := hu65_of hr
  exact (dss_one (ds_ret (de_if (dt_cmp (or_gt (by exact hu64)) (de_ix hu1 (de_var 0) (de_var 1)) (de_ix hu1 (de_var 0) (de_bin or_add (de_var 1) de_int)) (by first | exact nobehind _ (by decide) (by decide) | rfl)) (de_call C (c_exchanged T) hr (by decide) (da_cons (de_var 0) (da_cons (de_var 1) da_nil))) (de_var 0))))
theorem c_done (T : Txt P w K mg base) : Cal P w K mg base 2 "done" 2 g_done := by
  obtain ⟨f, fd, F, hm, hb⟩ := T.x_done
  exact cal_of F hm hb sc_done rfl (k_done F T)
/-! ### run_left -/
theorem sc_run_left : FnScope ["row", "word", "lot", "fails", "place", "deed"] ["row", "word", "lot"] (defScope (topS 19)) := C8.fnScope_by (by decide +kernel)
theorem k_run_left {f : Addr} {fd : FuncData} {dvs : List V} (F : FunD K "run_left" "run_left" (defArgs (topS 19)) (defBody (topS 19)) (defScope (topS 19)) dvs [] f fd) (T : Txt P w K mg base) : ∀ (X : Cx) (E : XK) (cdv : Value) (A : Around) (outer : List PySem.Env) (s : Shared) (H : Hp), X = cxOf (L2.CX P w) P w K mg base ["row", "word", "lot", "fails", "place", "deed"] "run_left" (defScope (topS 19)) f cdv A outer s H E → DC X (sk E) → Room 2 X.A → DSs X (sk E) (defBody (topS 19)) b_run_left := by
  intro X E cdv A outer s H hX C hr
  subst hX
  have hu1 := hu1_of hr
  have hu2 := hu2_of hr
  have hu64 := hu64_of hr
  have hu65 := hu65_of hr
  exact (dss_cons (ds_set C 3 (de_callTy (cr_set C.calm) T.n_set bt_set (da_cons (de_var 2) da_nil)))
    (dss_cons (ds_for C (di_enum (de_var 1) T.n_enumerate) (dg_tup C (dgs_cons (dg_name C 4) (dgs_cons (dg_name C 5) dgs_nil)))
    (dss_one (ds_if (dt_cmp (or_nin (by exact hu65)) (de_var 4) (de_var 3) (by first | exact nobehind _ (by decide) (by decide) | rfl))
    (dss_one (ds_set C 0 (de_call C (c_done T) hr (by decide) (da_cons (de_var 0) (da_cons (de_var 5) da_nil)))))
    dss_nil)))
    (dss_one (ds_ret (de_var 0)))))
theorem c_run_left (T : Txt P w K mg base) : Cal P w K mg base 3 "run_left" 3 g_run_left := by
  obtain ⟨f, fd, F, hm, hb⟩ := T.x_run_left
  exact cal_of F hm hb sc_run_left rfl (k_run_left F T)
/-! ### turned_row -/
theorem sc_turned_row : FnScope ["n"] ["n"] (defScope (topS 16)) := C8.fnScope_by (by decide +kernel)
theorem k_turned_row {f : Addr} {fd : FuncData} {dvs : List V} (F : FunD K "turned_row" "turned_row" (defArgs (topS 16)) (defBody (topS 16)) (defScope (topS 16)) dvs [] f fd) (T : Txt P w K mg base) : ∀ (X : Cx) (E : XK) (cdv : Value) (A : Around) (outer : List PySem.Env) (s : Shared) (H : Hp), X = cxOf (L2.CX P w) P w K mg base ["n"] "turned_row" (defScope (topS 16)) f cdv A outer s H E → DC X (sk E) → Room 0 X.A → DSs X (sk E) (defBody (topS 16)) b_turned_row := by
  intro X E cdv A outer s H hX C hr
  subst hX
  have hu1 := hu1_of hr
  have hu2 := hu2_of hr
  have hu64 := hu64_of hr
  have hu65 := hu65_of hr
  exact (dss_one (ds_ret (de_tupR C (dr_D (de_bin or_sub (de_var 0) de_int) (de_un ur_neg de_int) minus1 minus1q T.n_range) T.n_tuple)))
theorem c_turned_row (T : Txt P w K mg base) : Cal P w K mg base 1 "turned_row" 1 g_turned_row := by
  obtain ⟨f, fd, F, hm, hb⟩ := T.x_turned_row
  exact cal_of F hm hb sc_turned_row rfl (k_turned_row F T)
/-! ### end_of -/
theorem sc_end_of : FnScope ["n", "word"] ["n", "word"] (defScope (topS 26)) := C8.fnScope_by (by decide +kernel)
theorem k_end_of {f : Addr} {fd : FuncData} {dvs : List V} (F : FunD K "end_of" "end_of" (defArgs (topS 26)) (defBody (topS 26)) (defScope (topS 26)) dvs [] f fd) (T : Txt P w K mg base) : ∀ (X : Cx) (E : XK) (cdv : Value) (A : Around) (outer : List PySem.Env) (s : Shared) (H : Hp), X = cxOf (L2.CX P w) P w K mg base ["n", "word"] "end_of" (defScope (topS 26)) f cdv A outer s H E → DC X (sk E) → Room 3 X.A → DSs X (sk E) (defBody (topS 26)) b_end_of := by
  intro X E cdv A outer s H hX C hr
  subst hX
  have hu1 := hu1_of hr
  have hu2 := hu2_of hr
  have hu64 := hu64_of hr
  have hu65 := hu65_of hr
  exact (dss_one (ds_ret (de_call C (c_run_left T) hr (by decide) (da_cons (de_call C (c_turned_row T) hr (by decide) (da_cons (de_var 0) da_nil)) (da_cons (de_var 1) (da_cons (de_tup da_nil) da_nil))))))
theorem c_end_of (T : Txt P w K mg base) : Cal P w K mg base 4 "end_of" 2 g_end_of := by
  obtain ⟨f, fd, F, hm, hb⟩ := T.x_end_of
  exact cal_of F hm hb sc_end_of rfl (k_end_of F T)
/-! ### end -/
theorem sc_end_v2 : FnScope ["n", "word"] ["n", "word"] (defScope (topS 27)) := C8.fnScope_by (by decide +kernel)
theorem k_end_v2 {f : Addr} {fd : FuncData} {dvs : List V} (F : FunD K "end" "end" (defArgs (topS 27)) (defBody (topS 27)) (defScope (topS 27)) dvs [] f fd) (T : Txt P w K mg base) : ∀ (X : Cx) (E : XK) (cdv : Value) (A : Around) (outer : List PySem.Env) (s : Shared) (H : Hp), X = cxOf (L2.CX P w) P w K mg base ["n", "word"] "end" (defScope (topS 27)) f cdv A outer s H E → DC X (sk E) → Room 4 X.A → DSs X (sk E) (defBody (topS 27)) b_end_v2 := by
  intro X E cdv A outer s H hX C hr
  subst hX
  have hu1 := hu1_of hr
  have hu2 := hu2_of hr
  have hu64 := hu64_of hr
  have hu65 := hu65_of hr
  exact (dss_cons (ds_expr (de_call C (c_need_both_v2 T) hr (by decide) (da_cons (de_var 0) (da_cons (de_var 1) da_nil))))
    (dss_one (ds_ret (de_call C (c_end_of T) hr (by decide) (da_cons (de_var 0) (da_cons (de_var 1) da_nil))))))
theorem c_end_v2 (T : Txt P w K mg base) : Cal P w K mg base 5 "end" 2 g_end_v2 := by
  obtain ⟨f, fd, F, hm, hb⟩ := T.x_end_v2
  exact cal_of F hm hb sc_end_v2 rfl (k_end_v2 F T)
/-! ### are_alike -/
theorem sc_are_alike_v2 : FnScope ["n", "one", "other"] ["n", "one", "other"] (defScope (topS 28)) := C8.fnScope_by (by decide +kernel)
theorem k_are_alike_v2 {f : Addr} {fd : FuncData} {dvs : List V} (F : FunD K "are_alike" "are_alike" (defArgs (topS 28)) (defBody (topS 28)) (defScope (topS 28)) dvs [] f fd) (T : Txt P w K mg base) : ∀ (X : Cx) (E : XK) (cdv : Value) (A : Around) (outer : List PySem.Env) (s : Shared) (H : Hp), X = cxOf (L2.CX P w) P w K mg base ["n", "one", "other"] "are_alike" (defScope (topS 28)) f cdv A outer s H E → DC X (sk E) → Room 4 X.A → DSs X (sk E) (defBody (topS 28)) b_are_alike_v2 := by
  intro X E cdv A outer s H hX C hr
  subst hX
  have hu1 := hu1_of hr
  have hu2 := hu2_of hr
  have hu64 := hu64_of hr
  have hu65 := hu65_of hr
  exact (dss_cons (ds_expr (de_call C (c_need_both_v2 T) hr (by decide) (da_cons (de_var 0) (da_cons (de_var 1) da_nil))))
    (dss_cons (ds_expr (de_call C (c_need_word_v2_2 T) hr (by decide) (da_cons (de_var 0) (da_cons (de_var 2) da_nil))))
    (dss_one (ds_ret (de_cmp (or_eq (by exact hu64)) (de_call C (c_end_of T) hr (by decide) (da_cons (de_var 0) (da_cons (de_var 1) da_nil))) (de_call C (c_end_of T) hr (by decide) (da_cons (de_var 0) (da_cons (de_var 2) da_nil))) (by first | exact nobehind _ (by decide) (by decide) | rfl))))))
theorem c_are_alike_v2 (T : Txt P w K mg base) : Cal P w K mg base 5 "are_alike" 3 g_are_alike_v2 := by
  obtain ⟨f, fd, F, hm, hb⟩ := T.x_are_alike_v2
  exact cal_of F hm hb sc_are_alike_v2 rfl (k_are_alike_v2 F T)
/-! ### sorts_all -/
theorem sc_sorts_all_v2 : FnScope ["n", "word"] ["n", "word"] (defScope (topS 29)) := C8.fnScope_by (by decide +kernel)
theorem k_sorts_all_v2 {f : Addr} {fd : FuncData} {dvs : List V} (F : FunD K "sorts_all" "sorts_all" (defArgs (topS 29)) (defBody (topS 29)) (defScope (topS 29)) dvs [] f fd) (T : Txt P w K mg base) : ∀ (X : Cx) (E : XK) (cdv : Value) (A : Around) (outer : List PySem.Env) (s : Shared) (H : Hp), X = cxOf (L2.CX P w) P w K mg base ["n", "word"] "sorts_all" (defScope (topS 29)) f cdv A outer s H E → DC X (sk E) → Room 5 X.A → DSs X (sk E) (defBody (topS 29)) b_sorts_all_v2 := by
  intro X E cdv A outer s H hX C hr
  subst hX
  have hu1 := hu1_of hr
  have hu2 := hu2_of hr
  have hu64 := hu64_of hr
  have hu65 := hu65_of hr
  exact (dss_one (ds_ret (de_cmp (or_eq (by exact hu64)) (de_call C (c_end_v2 T) hr (by decide) (da_cons (de_var 0) (da_cons (de_var 1) da_nil))) (de_tupR C (dr_1 (de_var 0) T.n_range) T.n_tuple) (by first | exact nobehind _ (by decide) (by decide) | rfl))))
theorem c_sorts_all_v2 (T : Txt P w K mg base) : Cal P w K mg base 6 "sorts_all" 2 g_sorts_all_v2 := by
  obtain ⟨f, fd, F, hm, hb⟩ := T.x_sorts_all_v2
  exact cal_of F hm hb sc_sorts_all_v2 rfl (k_sorts_all_v2 F T)
/-! ### pairs_out -/
theorem sc_pairs_out : FnScope ["row", "found", "at", "card", "other"] ["row"] (defScope (topS 20)) := C8.fnScope_by (by decide +kernel)
theorem k_pairs_out {f : Addr} {fd : FuncData} {dvs : List V} (F : FunD K "pairs_out" "pairs_out" (defArgs (topS 20)) (defBody (topS 20)) (defScope (topS 20)) dvs [] f fd) (T : Txt P w K mg base) : ∀ (X : Cx) (E : XK) (cdv : Value) (A : Around) (outer : List PySem.Env) (s : Shared) (H : Hp), X = cxOf (L2.CX P w) P w K mg base ["row", "found", "at", "card", "other"] "pairs_out" (defScope (topS 20)) f cdv A outer s H E → DC X (sk E) → Room 0 X.A → DSs X (sk E) (defBody (topS 20)) b_pairs_out := by
  intro X E cdv A outer s H hX C hr
  subst hX
  have hu1 := hu1_of hr
  have hu2 := hu2_of hr
  have hu64 := hu64_of hr
  have hu65 := hu65_of hr
  exact (dss_cons (ds_setN C 1 (dn_lst da_nil))
    (dss_cons (ds_for C (di_enum (de_var 0) T.n_enumerate) (dg_tup C (dgs_cons (dg_name C 2) (dgs_cons (dg_name C 3) dgs_nil)))
    (dss_one (ds_expr (de_mut (k := 1) mu_extend PySem.F.plainAttrs_list PySem.F.slot_list_extend PySem.F.type_list_extend 1 (da_cons (DN.de (dn_lc C [("other", 4)] (di_any (de_sl (de_var 0) (do_some (de_bin or_add (de_var 2) de_int)) do_none)) (blkOk_by rfl) (fun Y1 s1 H1 Ca1 cl1 fp1 hY1 C1 => by subst hY1; exact (dg_name C1 4)) (fun Y1 s1 H1 Ca1 cl1 fp1 hY1 C1 => by subst hY1; exact (dts_one (dt_cmp (or_lt (by exact hu64)) (de_var 4) (de_var 3) (by first | exact nobehind _ (by decide) (by decide) | rfl)))) (fun Y1 s1 H1 Ca1 cl1 fp1 hY1 C1 => by subst hY1; exact (de_tup (da_cons (de_var 3) (da_cons (de_var 4) da_nil)))))) da_nil)))))
    (dss_one (ds_ret (de_callB (cr_sortedX hu64) T.n_sorted bt_sorted (da_cons (de_var 1) da_nil))))))
theorem c_pairs_out (T : Txt P w K mg base) : Cal P w K mg base 1 "pairs_out" 1 g_pairs_out := by
  obtain ⟨f, fd, F, hm, hb⟩ := T.x_pairs_out
  exact cal_of F hm hb sc_pairs_out rfl (k_pairs_out F T)
/-! ### least_way -/
theorem sc_least_way_v2 : FnScope ["row", "other", "kept", "found", "deed"] ["row", "other"] (defScope (topS 21)) := C8.fnScope_by (by decide +kernel)
theorem k_least_way_v2 {f : Addr} {fd : FuncData} {dvs : List V} (F : FunD K "least_way" "least_way" (defArgs (topS 21)) (defBody (topS 21)) (defScope (topS 21)) dvs [] f fd) (T : Txt P w K mg base) : ∀ (X : Cx) (E : XK) (cdv : Value) (A : Around) (outer : List PySem.Env) (s : Shared) (H : Hp), X = cxOf (L2.CX P w) P w K mg base ["row", "other", "kept", "found", "deed"] "least_way" (defScope (topS 21)) f cdv A outer s H E → DC X (sk E) → Room 1 X.A → DSs X (sk E) (defBody (topS 21)) b_least_way_v2 := by
  intro X E cdv A outer s H hX C hr
  subst hX
  have hu1 := hu1_of hr
  have hu2 := hu2_of hr
  have hu64 := hu64_of hr
  have hu65 := hu65_of hr
  exact (dss_cons (ds_set C 2 (de_callTy (cr_setT C.calm hu64) T.n_set bt_set (da_cons (de_call C (c_pairs_out T) hr (by decide) (da_cons (de_var 1) da_nil)) da_nil)))
    (dss_cons (ds_par C 3 4 (DN.x (dn_lst da_nil)) (DE.x de_int))
    (dss_cons (ds_while C (dt_cmp (or_lt (by exact hu64)) (de_var 4) (de_bin or_sub (de_callB (cr_len) T.n_len bt_len (da_cons (de_var 0) da_nil)) de_int) (by first | exact nobehind _ (by decide) (by decide) | rfl))
    (dss_one (ds_if (dt_w (dw_and (dt_cmp (or_gt (by exact hu64)) (de_ix hu1 (de_var 0) (de_var 4)) (de_ix hu1 (de_var 0) (de_bin or_add (de_var 4) de_int)) (by first | exact nobehind _ (by decide) (by decide) | rfl)) (dw_and1 (dt_cmp (or_ninT (by exact hu65)) (de_tup (da_cons (de_ix hu1 (de_var 0) (de_var 4)) (da_cons (de_ix hu1 (de_var 0) (de_bin or_add (de_var 4) de_int)) da_nil))) (de_var 2) (by first | exact nobehind _ (by decide) (by decide) | rfl)))))
    (dss_cons (ds_set C 0 (de_call C (c_exchanged T) hr (by decide) (da_cons (de_var 0) (da_cons (de_var 4) da_nil))))
    (dss_cons (ds_expr (de_mut (k := 1) mu_append PySem.F.plainAttrs_list PySem.F.slot_list_append PySem.F.type_list_append 3 (da_cons (de_var 4) da_nil)))
    (dss_one (ds_set C 4 de_int))))
    (dss_one (ds_augI C ip_add 4 de_int)))))
    (dss_one (ds_ret (de_callTy (cr_tuple) T.n_tuple bt_tuple (da_cons (de_var 3) da_nil)))))))
theorem c_least_way_v2 (T : Txt P w K mg base) : Cal P w K mg base 2 "least_way" 2 g_least_way_v2 := by
  obtain ⟨f, fd, F, hm, hb⟩ := T.x_least_way_v2
  exact cal_of F hm hb sc_least_way_v2 rfl (k_least_way_v2 F T)
/-! ### least_word -/
theorem sc_least_word_v4 : FnScope ["n", "word", "found"] ["n", "word"] (defScope (topS 30)) := C8.fnScope_by (by decide +kernel)
theorem k_least_word_v4 {f : Addr} {fd : FuncData} {dvs : List V} (F : FunD K "least_word" "least_word" (defArgs (topS 30)) (defBody (topS 30)) (defScope (topS 30)) dvs [] f fd) (T : Txt P w K mg base) : ∀ (X : Cx) (E : XK) (cdv : Value) (A : Around) (outer : List PySem.Env) (s : Shared) (H : Hp), X = cxOf (L2.CX P w) P w K mg base ["n", "word", "found"] "least_word" (defScope (topS 30)) f cdv A outer s H E → DC X (sk E) → Room 5 X.A → DSs X (sk E) (defBody (topS 30)) b_least_word_v4 := by
  intro X E cdv A outer s H hX C hr
  subst hX
  have hu1 := hu1_of hr
  have hu2 := hu2_of hr
  have hu64 := hu64_of hr
  have hu65 := hu65_of hr
  exact (dss_cons (ds_set C 2 (de_call C (c_end_v2 T) hr (by decide) (da_cons (de_var 0) (da_cons (de_var 1) da_nil))))
    (dss_one (ds_ret (de_call C (c_least_way_v2 T) hr (by decide) (da_cons (de_call C (c_turned_row T) hr (by decide) (da_cons (de_var 0) da_nil)) (da_cons (de_var 2) da_nil))))))
theorem c_least_word_v4 (T : Txt P w K mg base) : Cal P w K mg base 6 "least_word" 2 g_least_word_v4 := by
  obtain ⟨f, fd, F, hm, hb⟩ := T.x_least_word_v4
  exact cal_of F hm hb sc_least_word_v4 rfl (k_least_word_v4 F T)
/-! ### lacking -/
theorem sc_lacking_v3 : FnScope ["n", "word"] ["n", "word"] (defScope (topS 31)) := C8.fnScope_by (by decide +kernel)
theorem k_lacking_v3 {f : Addr} {fd : FuncData} {dvs : List V} (F : FunD K "lacking" "lacking" (defArgs (topS 31)) (defBody (topS 31)) (defScope (topS 31)) dvs [] f fd) (T : Txt P w K mg base) : ∀ (X : Cx) (E : XK) (cdv : Value) (A : Around) (outer : List PySem.Env) (s : Shared) (H : Hp), X = cxOf (L2.CX P w) P w K mg base ["n", "word"] "lacking" (defScope (topS 31)) f cdv A outer s H E → DC X (sk E) → Room 5 X.A → DSs X (sk E) (defBody (topS 31)) b_lacking_v3 := by
  intro X E cdv A outer s H hX C hr
  subst hX
  have hu1 := hu1_of hr
  have hu2 := hu2_of hr
  have hu64 := hu64_of hr
  have hu65 := hu65_of hr
  exact (dss_one (ds_ret (de_call C (c_least_way_v2 T) hr (by decide) (da_cons (de_call C (c_end_v2 T) hr (by decide) (da_cons (de_var 0) (da_cons (de_var 1) da_nil))) (da_cons (de_tupR C (dr_1 (de_var 0) T.n_range) T.n_tuple) da_nil)))))
theorem c_lacking_v3 (T : Txt P w K mg base) : Cal P w K mg base 6 "lacking" 2 g_lacking_v3 := by
  obtain ⟨f, fd, F, hm, hb⟩ := T.x_lacking_v3
  exact cal_of F hm hb sc_lacking_v3 rfl (k_lacking_v3 F T)
/-! ### is_row_of -/
theorem sc_is_row_of : FnScope ["n", "value", "card"] ["n", "value"] (defScope (topS 13)) := C8.fnScope_by (by decide +kernel)
theorem k_is_row_of {f : Addr} {fd : FuncData} {dvs : List V} (F : FunD K "is_row_of" "is_row_of" (defArgs (topS 13)) (defBody (topS 13)) (defScope (topS 13)) dvs [] f fd) (T : Txt P w K mg base) : ∀ (X : Cx) (E : XK) (cdv : Value) (A : Around) (outer : List PySem.Env) (s : Shared) (H : Hp), X = cxOf (L2.CX P w) P w K mg base ["n", "value", "card"] "is_row_of" (defScope (topS 13)) f cdv A outer s H E → DC X (sk E) → Room 2 X.A → DSs X (sk E) (defBody (topS 13)) b_is_row_of := by
  intro X E cdv A outer s H hX C hr
  subst hX
  have hu1 := hu1_of hr
  have hu2 := hu2_of hr
  have hu64 := hu64_of hr
  have hu65 := hu65_of hr
  exact (dss_cons (ds_if (dt_w (dw_or (dt_not (dt_truth (de_callB cr_isi T.n_isinstance bt_isinstance (da_cons (de_var 1) (da_cons (de_type T.n_tuple bt_tuple) da_nil))))) (dw_or (dt_cmp (or_ne (by exact hu64)) (de_callB (cr_len) T.n_len bt_len (da_cons (de_var 1) da_nil)) (de_var 0) (by first | exact nobehind _ (by decide) (by decide) | rfl)) (dw_or1 (dt_not (dt_truth (de_callB (cr_allD C.calm) T.n_all bt_all (da_cons (DN.de (dn_lc C [("card", 2)] (di_any (de_var 1)) (blkOk_by rfl) (fun Y1 s1 H1 Ca1 cl1 fp1 hY1 C1 => by subst hY1; exact (dg_name C1 2)) (fun Y1 s1 H1 Ca1 cl1 fp1 hY1 C1 => by subst hY1; exact dts_nil) (fun Y1 s1 H1 Ca1 cl1 fp1 hY1 C1 => by subst hY1; exact (de_call C1 (c_is_from T) hr (by decide) (da_cons (de_var 2) (da_cons de_int (da_cons (de_bin or_sub (de_var 0) de_int) da_nil))))))) da_nil))))))))
    (dss_one (ds_ret de_bl))
    dss_nil)
    (dss_one (ds_ret (de_cmp (or_eq (by exact hu64)) (de_callB (cr_len) T.n_len bt_len (da_cons (de_callTy (cr_set C.calm) T.n_set bt_set (da_cons (de_var 1) da_nil)) da_nil)) (de_var 0) (by first | exact nobehind _ (by decide) (by decide) | rfl)))))
theorem c_is_row_of (T : Txt P w K mg base) : Cal P w K mg base 3 "is_row_of" 2 g_is_row_of := by
  obtain ⟨f, fd, F, hm, hb⟩ := T.x_is_row_of
  exact cal_of F hm hb sc_is_row_of rfl (k_is_row_of F T)
/-! ### need_goal -/
theorem sc_need_goal_v2 : FnScope ["n", "value"] ["n", "value"] (defScope (topS 25)) := C8.fnScope_by (by decide +kernel)
theorem k_need_goal_v2 {f : Addr} {fd : FuncData} {dvs : List V} (F : FunD K "need_goal" "need_goal" (defArgs (topS 25)) (defBody (topS 25)) (defScope (topS 25)) dvs [] f fd) (T : Txt P w K mg base) : ∀ (X : Cx) (E : XK) (cdv : Value) (A : Around) (outer : List PySem.Env) (s : Shared) (H : Hp), X = cxOf (L2.CX P w) P w K mg base ["n", "value"] "need_goal" (defScope (topS 25)) f cdv A outer s H E → DC X (sk E) → Room 3 X.A → DSs X (sk E) (defBody (topS 25)) b_need_goal_v2 := by
  intro X E cdv A outer s H hX C hr
  subst hX
  have hu1 := hu1_of hr
  have hu2 := hu2_of hr
  have hu64 := hu64_of hr
  have hu65 := hu65_of hr
  exact (dss_one (ds_if (dt_not (dt_truth (de_call C (c_is_row_of T) hr (by decide) (da_cons (de_var 0) (da_cons (de_var 1) da_nil)))))
    (dss_one (ds_raise C T.w_BadGoal))
    dss_nil))
theorem c_need_goal_v2 (T : Txt P w K mg base) : Cal P w K mg base 4 "need_goal" 2 g_need_goal_v2 := by
  obtain ⟨f, fd, F, hm, hb⟩ := T.x_need_goal_v2
  exact cal_of F hm hb sc_need_goal_v2 rfl (k_need_goal_v2 F T)
/-! ### reach_from -/
theorem sc_reach_from : FnScope ["word", "goal", "found", "deed", "here", "row"] ["word", "goal"] (defScope (topS 36)) := C8.fnScope_by (by decide +kernel)
theorem k_reach_from {f : Addr} {fd : FuncData} {dvs : List V} (F : FunD K "reach_from" "reach_from" (defArgs (topS 36)) (defBody (topS 36)) (defScope (topS 36)) dvs [] f fd) (T : Txt P w K mg base) : ∀ (X : Cx) (E : XK) (cdv : Value) (A : Around) (outer : List PySem.Env) (s : Shared) (H : Hp), X = cxOf (L2.CX P w) P w K mg base ["word", "goal", "found", "deed", "here", "row"] "reach_from" (defScope (topS 36)) f cdv A outer s H E → DC X (sk E) → Room 1 X.A → DSs X (sk E) (defBody (topS 36)) b_reach_from := by
  intro X E cdv A outer s H hX C hr
  subst hX
  have hu1 := hu1_of hr
  have hu2 := hu2_of hr
  have hu64 := hu64_of hr
  have hu65 := hu65_of hr
  exact (dss_cons (ds_setN C 2 (dn_lst (da_cons (DN.de (dn_dct1 hu1 (de_var 1) de_bl)) da_nil)))
    (dss_cons (ds_for C (di_rev (de_var 0) T.n_reversed) (dg_name C 3)
    (dss_cons (ds_setN C 4 (dn_dict hu2 (de_ixS (by exact hu1) 2 (de_un ur_neg de_int)) T.n_dict))
    (dss_cons (ds_forK C (de_ixS (by exact hu1) 2 (de_un ur_neg de_int)) (dg_name C 5)
    (dss_one (ds_if (dt_cmp (or_lt (by exact hu64)) (de_ix hu1 (de_var 5) (de_var 3)) (de_ix hu1 (de_var 5) (de_bin or_add (de_var 3) de_int)) (by first | exact nobehind _ (by decide) (by decide) | rfl))
    (dss_one (ds_asg de_bl (dg_sub (se_any hu1) 4 (de_call C (c_exchanged T) hr (by decide) (da_cons (de_var 5) (da_cons (de_var 3) da_nil))))))
    dss_nil)))
    (dss_one (ds_expr (de_mut (k := 1) mu_append PySem.F.plainAttrs_list PySem.F.slot_list_append PySem.F.type_list_append 2 (da_cons (de_var 4) da_nil)))))))
    (dss_one (ds_ret (de_revL (de_var 2))))))
theorem c_reach_from (T : Txt P w K mg base) : Cal P w K mg base 2 "reach_from" 2 g_reach_from := by
  obtain ⟨f, fd, F, hm, hb⟩ := T.x_reach_from
  exact cal_of F hm hb sc_reach_from rfl (k_reach_from F T)
/-! ### first_scattered -/
theorem sc_first_scattered : FnScope ["n", "word", "goal", "fails", "left", "spots", "reach", "row", "found", "at", "deed", "place"] ["n", "word", "goal", "fails"] (defScope (topS 37)) := C8.fnScope_by (by decide +kernel)
theorem k_first_scattered {f : Addr} {fd : FuncData} {dvs : List V} (F : FunD K "first_scattered" "first_scattered" (defArgs (topS 37)) (defBody (topS 37)) (defScope (topS 37)) dvs [] f fd) (T : Txt P w K mg base) : ∀ (X : Cx) (E : XK) (cdv : Value) (A : Around) (outer : List PySem.Env) (s : Shared) (H : Hp), X = cxOf (L2.CX P w) P w K mg base ["n", "word", "goal", "fails", "left", "spots", "reach", "row", "found", "at", "deed", "place"] "first_scattered" (defScope (topS 37)) f cdv A outer s H E → DC X (sk E) → Room 2 X.A → DSs X (sk E) (defBody (topS 37)) b_first_scattered := by
  intro X E cdv A outer s H hX C hr
  subst hX
  have hu1 := hu1_of hr
  have hu2 := hu2_of hr
  have hu64 := hu64_of hr
  have hu65 := hu65_of hr
  exact (dss_cons (by first | exact (ds_setLc C 4 [("place", 11), ("deed", 10)] (di_enum (de_var 1) T.n_enumerate) (blkOk_by rfl) (fun Y1 s1 H1 Ca1 cl1 fp1 hY1 C1 => by subst hY1; exact (dg_tup C1 (dgs_cons (dg_name C1 11) (dgs_cons (dg_name C1 10) dgs_nil)))) (fun Y1 s1 H1 Ca1 cl1 fp1 hY1 C1 => by subst hY1; exact (dts_one (dt_cmp (or_nin (by exact hu65)) (de_var 11) (de_var 3) (by first | exact nobehind _ (by decide) (by decide) | rfl)))) (fun Y1 s1 H1 Ca1 cl1 fp1 hY1 C1 => by subst hY1; exact (de_var 10))) | exact (ds_setN C 4 (dn_lc C [("place", 11), ("deed", 10)] (di_enum (de_var 1) T.n_enumerate) (blkOk_by rfl) (fun Y1 s1 H1 Ca1 cl1 fp1 hY1 C1 => by subst hY1; exact (dg_tup C1 (dgs_cons (dg_name C1 11) (dgs_cons (dg_name C1 10) dgs_nil)))) (fun Y1 s1 H1 Ca1 cl1 fp1 hY1 C1 => by subst hY1; exact (dts_one (dt_cmp (or_nin (by exact hu65)) (de_var 11) (de_var 3) (by first | exact nobehind _ (by decide) (by decide) | rfl)))) (fun Y1 s1 H1 Ca1 cl1 fp1 hY1 C1 => by subst hY1; exact (de_var 10)))))
    (dss_cons (by first | exact (ds_setLc C 5 [("place", 11)] (di_range1 (de_callB (cr_len) T.n_len bt_len (da_cons (de_var 1) da_nil)) T.n_range) (blkOk_by rfl) (fun Y2 s2 H2 Ca2 cl2 fp2 hY2 C2 => by subst hY2; exact (dg_name C2 11)) (fun Y2 s2 H2 Ca2 cl2 fp2 hY2 C2 => by subst hY2; exact (dts_one (dt_cmp (or_nin (by exact hu65)) (de_var 11) (de_var 3) (by first | exact nobehind _ (by decide) (by decide) | rfl)))) (fun Y2 s2 H2 Ca2 cl2 fp2 hY2 C2 => by subst hY2; exact (de_var 11))) | exact (ds_setN C 5 (dn_lc C [("place", 11)] (di_range1 (de_callB (cr_len) T.n_len bt_len (da_cons (de_var 1) da_nil)) T.n_range) (blkOk_by rfl) (fun Y2 s2 H2 Ca2 cl2 fp2 hY2 C2 => by subst hY2; exact (dg_name C2 11)) (fun Y2 s2 H2 Ca2 cl2 fp2 hY2 C2 => by subst hY2; exact (dts_one (dt_cmp (or_nin (by exact hu65)) (de_var 11) (de_var 3) (by first | exact nobehind _ (by decide) (by decide) | rfl)))) (fun Y2 s2 H2 Ca2 cl2 fp2 hY2 C2 => by subst hY2; exact (de_var 11)))))
    (dss_cons (ds_par3 C 6 7 8 (DE.x (de_call C (c_reach_from T) hr (by decide) (da_cons (de_var 4) (da_cons (de_var 2) da_nil)))) (DE.x (de_call C (c_turned_row T) hr (by decide) (da_cons (de_var 0) da_nil))) (DN.x (dn_lst da_nil)))
    (dss_cons (ds_if (dt_cmp (or_nin (by exact hu65)) (de_var 7) (de_ix hu1 (de_var 6) de_int) (by first | exact nobehind _ (by decide) (by decide) | rfl))
    (dss_one (ds_ret de_non))
    dss_nil)
    (dss_cons (ds_for C (di_enum (de_var 4) T.n_enumerate) (dg_tup C (dgs_cons (dg_name C 9) (dgs_cons (dg_name C 10) dgs_nil)))
    (dss_one (ds_if (dt_w (dw_and (dt_cmp (or_ne (by exact hu64)) (de_var 7) (de_var 2) (by first | exact nobehind _ (by decide) (by decide) | rfl)) (dw_and (dt_cmp (or_gt (by exact hu64)) (de_ix hu1 (de_var 7) (de_var 10)) (de_ix hu1 (de_var 7) (de_bin or_add (de_var 10) de_int)) (by first | exact nobehind _ (by decide) (by decide) | rfl)) (dw_and1 (dt_cmp (or_in (by exact hu65)) (de_call C (c_exchanged T) hr (by decide) (da_cons (de_var 7) (da_cons (de_var 10) da_nil))) (de_ix hu1 (de_var 6) (de_bin or_add (de_var 9) de_int)) (by first | exact nobehind _ (by decide) (by decide) | rfl))))))
    (dss_cons (ds_set C 7 (de_call C (c_exchanged T) hr (by decide) (da_cons (de_var 7) (da_cons (de_var 10) da_nil))))
    (dss_one (ds_expr (de_mut (k := 1) mu_append PySem.F.plainAttrs_list PySem.F.slot_list_append PySem.F.type_list_append 8 (da_cons (de_ix hu1 (de_var 5) (de_var 9)) da_nil)))))
    dss_nil)))
    (dss_one (ds_ret (de_callTy (cr_tuple) T.n_tuple bt_tuple (da_cons (de_var 8) da_nil)))))))))
theorem c_first_scattered (T : Txt P w K mg base) : Cal P w K mg base 3 "first_scattered" 4 g_first_scattered := by
  obtain ⟨f, fd, F, hm, hb⟩ := T.x_first_scattered
  exact cal_of F hm hb sc_first_scattered rfl (k_first_scattered F T)
/-! ### scattered -/
theorem sc_scattered_v2 : FnScope ["n", "word", "goal"] ["n", "word", "goal"] (defScope (topS 38)) := C8.fnScope_by (by decide +kernel)
theorem k_scattered_v2 {f : Addr} {fd : FuncData} {dvs : List V} (F : FunD K "scattered" "scattered" (defArgs (topS 38)) (defBody (topS 38)) (defScope (topS 38)) dvs [] f fd) (T : Txt P w K mg base) : ∀ (X : Cx) (E : XK) (cdv : Value) (A : Around) (outer : List PySem.Env) (s : Shared) (H : Hp), X = cxOf (L2.CX P w) P w K mg base ["n", "word", "goal"] "scattered" (defScope (topS 38)) f cdv A outer s H E → DC X (sk E) → Room 4 X.A → DSs X (sk E) (defBody (topS 38)) b_scattered_v2 := by
  intro X E cdv A outer s H hX C hr
  subst hX
  have hu1 := hu1_of hr
  have hu2 := hu2_of hr
  have hu64 := hu64_of hr
  have hu65 := hu65_of hr
  exact (dss_cons (ds_expr (de_call C (c_need_both_v2 T) hr (by decide) (da_cons (de_var 0) (da_cons (de_var 1) da_nil))))
    (dss_cons (ds_expr (de_call C (c_need_goal_v2 T) hr (by decide) (da_cons (de_var 0) (da_cons (de_var 2) da_nil))))
    (dss_one (ds_ret (de_call C (c_first_scattered T) hr (by decide) (da_cons (de_var 0) (da_cons (de_var 1) (da_cons (de_var 2) (da_cons (de_tup da_nil) da_nil)))))))))
theorem c_scattered_v2 (T : Txt P w K mg base) : Cal P w K mg base 5 "scattered" 3 g_scattered_v2 := by
  obtain ⟨f, fd, F, hm, hb⟩ := T.x_scattered_v2
  exact cal_of F hm hb sc_scattered_v2 rfl (k_scattered_v2 F T)
/-! ### need_row -/
theorem sc_need_row_v2 : FnScope ["value"] ["value"] (defScope (topS 14)) := C8.fnScope_by (by decide +kernel)
theorem k_need_row_v2 {f : Addr} {fd : FuncData} {dvs : List V} (F : FunD K "need_row" "need_row" (defArgs (topS 14)) (defBody (topS 14)) (defScope (topS 14)) dvs [] f fd) (T : Txt P w K mg base) : ∀ (X : Cx) (E : XK) (cdv : Value) (A : Around) (outer : List PySem.Env) (s : Shared) (H : Hp), X = cxOf (L2.CX P w) P w K mg base ["value"] "need_row" (defScope (topS 14)) f cdv A outer s H E → DC X (sk E) → Room 3 X.A → DSs X (sk E) (defBody (topS 14)) b_need_row_v2 := by
  intro X E cdv A outer s H hX C hr
  subst hX
  have hu1 := hu1_of hr
  have hu2 := hu2_of hr
  have hu64 := hu64_of hr
  have hu65 := hu65_of hr
  exact (dss_one (ds_if (dt_w (dw_or (dt_not (dt_truth (de_callB cr_isi T.n_isinstance bt_isinstance (da_cons (de_var 0) (da_cons (de_type T.n_tuple bt_tuple) da_nil))))) (dw_or (dt_not (dt_chain (or_le (by exact hu64)) (or_le (by exact hu64)) de_int (de_callB (cr_len) T.n_len bt_len (da_cons (de_var 0) da_nil)) (de_globInt T.v_MOST_CARDS.choose_spec))) (dw_or1 (dt_not (dt_truth (de_call C (c_is_row_of T) hr (by decide) (da_cons (de_callB (cr_len) T.n_len bt_len (da_cons (de_var 0) da_nil)) (da_cons (de_var 0) da_nil)))))))))
    (dss_one (ds_raise C T.w_BadRow))
    dss_nil))
theorem c_need_row_v2 (T : Txt P w K mg base) : Cal P w K mg base 4 "need_row" 1 g_need_row_v2 := by
  obtain ⟨f, fd, F, hm, hb⟩ := T.x_need_row_v2
  exact cal_of F hm hb sc_need_row_v2 rfl (k_need_row_v2 F T)
/-! ### steps_up -/
theorem sc_steps_up : FnScope ["row", "deed"] ["row"] (defScope (topS 32)) := C8.fnScope_by (by decide +kernel)
theorem k_steps_up {f : Addr} {fd : FuncData} {dvs : List V} (F : FunD K "steps_up" "steps_up" (defArgs (topS 32)) (defBody (topS 32)) (defScope (topS 32)) dvs [] f fd) (T : Txt P w K mg base) : ∀ (X : Cx) (E : XK) (cdv : Value) (A : Around) (outer : List PySem.Env) (s : Shared) (H : Hp), X = cxOf (L2.CX P w) P w K mg base ["row", "deed"] "steps_up" (defScope (topS 32)) f cdv A outer s H E → DC X (sk E) → Room 0 X.A → DSs X (sk E) (defBody (topS 32)) b_steps_up := by
  intro X E cdv A outer s H hX C hr
  subst hX
  have hu1 := hu1_of hr
  have hu2 := hu2_of hr
  have hu64 := hu64_of hr
  have hu65 := hu65_of hr
  exact (dss_one (ds_ret (DN.de (dn_lc C [("deed", 1)] (di_range1 (de_bin or_sub (de_callB (cr_len) T.n_len bt_len (da_cons (de_var 0) da_nil)) de_int) T.n_range) (blkOk_by rfl) (fun Y1 s1 H1 Ca1 cl1 fp1 hY1 C1 => by subst hY1; exact (dg_name C1 1)) (fun Y1 s1 H1 Ca1 cl1 fp1 hY1 C1 => by subst hY1; exact (dts_one (dt_cmp (or_lt (by exact hu64)) (de_ix hu1 (de_var 0) (de_var 1)) (de_ix hu1 (de_var 0) (de_bin or_add (de_var 1) de_int)) (by first | exact nobehind _ (by decide) (by decide) | rfl)))) (fun Y1 s1 H1 Ca1 cl1 fp1 hY1 C1 => by subst hY1; exact (de_var 1))))))
theorem c_steps_up (T : Txt P w K mg base) : Cal P w K mg base 1 "steps_up" 1 g_steps_up := by
  obtain ⟨f, fd, F, hm, hb⟩ := T.x_steps_up
  exact cal_of F hm hb sc_steps_up rfl (k_steps_up F T)
/-! ### number_of_words -/
theorem sc_number_of_words : FnScope ["row", "counts", "ahead", "one", "deed", "other"] ["row"] (defScope (topS 33)) := C8.fnScope_by (by decide +kernel)
theorem k_number_of_words {f : Addr} {fd : FuncData} {dvs : List V} (F : FunD K "number_of_words" "number_of_words" (defArgs (topS 33)) (defBody (topS 33)) (defScope (topS 33)) dvs [] f fd) (T : Txt P w K mg base) : ∀ (X : Cx) (E : XK) (cdv : Value) (A : Around) (outer : List PySem.Env) (s : Shared) (H : Hp), X = cxOf (L2.CX P w) P w K mg base ["row", "counts", "ahead", "one", "deed", "other"] "number_of_words" (defScope (topS 33)) f cdv A outer s H E → DC X (sk E) → Room 1 X.A → DSs X (sk E) (defBody (topS 33)) b_number_of_words := by
  intro X E cdv A outer s H hX C hr
  subst hX
  have hu1 := hu1_of hr
  have hu2 := hu2_of hr
  have hu64 := hu64_of hr
  have hu65 := hu65_of hr
  exact (dss_cons (ds_set C 1 (DN.de (dn_dct1 hu1 (de_var 0) de_int)))
    (dss_one (ds_while C (dt_truth de_bl)
    (dss_cons (ds_setN C 2 dn_dcT0)
    (dss_cons (ds_forK C (de_var 1) (dg_name C 3)
    (dss_one (ds_for C (di_any (de_call C (c_steps_up T) hr (by decide) (da_cons (de_var 3) da_nil))) (dg_name C 4)
    (dss_cons (ds_set C 5 (de_call C (c_exchanged T) hr (by decide) (da_cons (de_var 3) (da_cons (de_var 4) da_nil))))
    (dss_one (ds_asg (de_bin or_add (de_get2S (by exact hu1) 2 (de_var 5) de_int) (de_ix hu1 (de_var 1) (de_var 3))) (dg_sub (se_any hu1) 2 (de_var 5))))))))
    (dss_cons (ds_if (dt_isE hu1 (de_var 2))
    (dss_one (ds_ret (de_ix hu1 (de_var 1) (de_call C (c_turned_row T) hr (by decide) (da_cons (de_callB (cr_len) T.n_len bt_len (da_cons (de_var 0) da_nil)) da_nil)))))
    dss_nil)
    (dss_one (ds_set C 1 (de_var 2)))))))))
theorem c_number_of_words (T : Txt P w K mg base) : Cal P w K mg base 2 "number_of_words" 1 g_number_of_words := by
  obtain ⟨f, fd, F, hm, hb⟩ := T.x_number_of_words
  exact cal_of F hm hb sc_number_of_words rfl (k_number_of_words F T)
/-! ### count_words -/
theorem sc_count_words_v2 : FnScope ["row"] ["row"] (defScope (topS 34)) := C8.fnScope_by (by decide +kernel)
theorem k_count_words_v2 {f : Addr} {fd : FuncData} {dvs : List V} (F : FunD K "count_words" "count_words" (defArgs (topS 34)) (defBody (topS 34)) (defScope (topS 34)) dvs [] f fd) (T : Txt P w K mg base) : ∀ (X : Cx) (E : XK) (cdv : Value) (A : Around) (outer : List PySem.Env) (s : Shared) (H : Hp), X = cxOf (L2.CX P w) P w K mg base ["row"] "count_words" (defScope (topS 34)) f cdv A outer s H E → DC X (sk E) → Room 4 X.A → DSs X (sk E) (defBody (topS 34)) b_count_words_v2 := by
  intro X E cdv A outer s H hX C hr
  subst hX
  have hu1 := hu1_of hr
  have hu2 := hu2_of hr
  have hu64 := hu64_of hr
  have hu65 := hu65_of hr
  exact (dss_cons (ds_expr (de_call C (c_need_row_v2 T) hr (by decide) (da_cons (de_var 0) da_nil)))
    (dss_one (ds_ret (de_call C (c_number_of_words T) hr (by decide) (da_cons (de_var 0) da_nil)))))
theorem c_count_words_v2 (T : Txt P w K mg base) : Cal P w K mg base 5 "count_words" 1 g_count_words_v2 := by
  obtain ⟨f, fd, F, hm, hb⟩ := T.x_count_words_v2
  exact cal_of F hm hb sc_count_words_v2 rfl (k_count_words_v2 F T)
/-! ### all_words -/
theorem sc_all_words_v2 : FnScope ["row", "heads", "found", "ahead", "here", "word", "deed"] ["row"] (defScope (topS 35)) := C8.fnScope_by (by decide +kernel)
theorem k_all_words_v2 {f : Addr} {fd : FuncData} {dvs : List V} (F : FunD K "all_words" "all_words" (defArgs (topS 35)) (defBody (topS 35)) (defScope (topS 35)) dvs [] f fd) (T : Txt P w K mg base) : ∀ (X : Cx) (E : XK) (cdv : Value) (A : Around) (outer : List PySem.Env) (s : Shared) (H : Hp), X = cxOf (L2.CX P w) P w K mg base ["row", "heads", "found", "ahead", "here", "word", "deed"] "all_words" (defScope (topS 35)) f cdv A outer s H E → DC X (sk E) → Room 4 X.A → DSs X (sk E) (defBody (topS 35)) b_all_words_v2 := by
  intro X E cdv A outer s H hX C hr
  subst hX
  have hu1 := hu1_of hr
  have hu2 := hu2_of hr
  have hu64 := hu64_of hr
  have hu65 := hu65_of hr
  exact (dss_cons (ds_expr (de_call C (c_need_row_v2 T) hr (by decide) (da_cons (de_var 0) da_nil)))
    (dss_cons (ds_if (dt_cmp (or_gt (by exact hu64)) (de_call C (c_number_of_words T) hr (by decide) (da_cons (de_var 0) da_nil)) (de_globInt T.v_MOST_WORDS.choose_spec) (by first | exact nobehind _ (by decide) (by decide) | rfl))
    (dss_one (ds_raiseA C T.wa_TooMany (hr.mono (by omega)) (de_globInt T.v_MOST_WORDS.choose_spec)))
    dss_nil)
    (dss_cons (ds_par C 1 2 (DN.x (dn_lst (da_cons (de_tup (da_cons (de_var 0) (da_cons (de_tup da_nil) da_nil))) da_nil))) (DN.x (dn_lst da_nil)))
    (dss_cons (ds_while C (dt_opL (or_ne (by exact hu64)) 1 (DN.de (dn_lst da_nil)) (by first | exact nobehind _ (by decide) (by decide) | rfl))
    (dss_cons (ds_asg (de_mut0 (k := 1) mu_pop0 PySem.F.plainAttrs_list PySem.F.slot_list_pop PySem.F.type_list_pop 1) (dg_tup C (dgs_cons (dg_name C 4) (dgs_cons (dg_name C 5) dgs_nil))))
    (dss_cons (ds_set C 3 (de_call C (c_steps_up T) hr (by decide) (da_cons (de_var 4) da_nil)))
    (dss_cons (ds_if (dt_cmp (or_eq (by exact hu64)) (de_var 3) (DN.de (dn_lst da_nil)) (by first | exact nobehind _ (by decide) (by decide) | rfl))
    (dss_one (ds_expr (de_mut (k := 1) mu_append PySem.F.plainAttrs_list PySem.F.slot_list_append PySem.F.type_list_append 2 (da_cons (de_var 5) da_nil))))
    dss_nil)
    (dss_one (ds_expr (de_mut (k := 1) mu_extend PySem.F.plainAttrs_list PySem.F.slot_list_extend PySem.F.type_list_extend 1 (da_cons (DN.de (dn_lc C [("deed", 6)] (di_any (de_var 3)) (blkOk_by rfl) (fun Y1 s1 H1 Ca1 cl1 fp1 hY1 C1 => by subst hY1; exact (dg_name C1 6)) (fun Y1 s1 H1 Ca1 cl1 fp1 hY1 C1 => by subst hY1; exact dts_nil) (fun Y1 s1 H1 Ca1 cl1 fp1 hY1 C1 => by subst hY1; exact (de_tup (da_cons (de_call C1 (c_exchanged T) hr (by decide) (da_cons (de_var 4) (da_cons (de_var 6) da_nil))) (da_cons (de_tup (da_cons (de_var 6) (da_star (de_var 5) da_nil))) da_nil)))))) da_nil))))))))
    (dss_one (ds_ret (de_callTy (cr_tuple) T.n_tuple bt_tuple (da_cons (de_callB (cr_sortedX hu64) T.n_sorted bt_sorted (da_cons (de_var 2) da_nil)) da_nil))))))))
theorem c_all_words_v2 (T : Txt P w K mg base) : Cal P w K mg base 5 "all_words" 1 g_all_words_v2 := by
  obtain ⟨f, fd, F, hm, hb⟩ := T.x_all_words_v2
  exact cal_of F hm hb sc_all_words_v2 rfl (k_all_words_v2 F T)
/-! ### law -/
theorem sc_law : FnScope ["_law_script", "_law_row", "_law_n", "_law_bad", "_law_calls", "_law_odd", "_law_call", "_law_size"] ["_law_script"] (defScope (topS 43)) := C8.fnScope_by (by decide +kernel)
def lamT_law (j : Nat) : LamI := lamTab ((("law" : Str) ++ ".<locals>.") ++ "<lambda>") (defBody (topS 43)) (([3, 2, 1, 0, 5, 4, 9, 8, 7, 6, 12, 11, 10] : List Nat).getD j 0)
noncomputable def b_lawL (C : CLs) : Ef Fl := letI : CLs := C; b_law
theorem k_law {f : Addr} {fd : FuncData} {dvs : List V} (F : FunD K "law" "law" (defArgs (topS 43)) (defBody (topS 43)) (defScope (topS 43)) dvs [] f fd) (T : Txt P w K mg base) : ∀ (X : Cx) (E : XK) (cdv : Value) (A : Around) (outer : List PySem.Env) (s : Shared) (H : Hp), X = cxOf (L2.CX P w) P w K mg base ["_law_script", "_law_row", "_law_n", "_law_bad", "_law_calls", "_law_odd", "_law_call", "_law_size"] "law" (defScope (topS 43)) f cdv A outer s H E → DC X (sk E) → Room 8 X.A → TabD X → DSs X (sk E) (defBody (topS 43)) (b_lawL ⟨X.env.cells, lamT_law⟩) := by
  intro X E cdv A outer s H hX C hr TD
  subst hX
  have hu1 := hu1_of hr
  have hu2 := hu2_of hr
  have hu64 := hu64_of hr
  have hu65 := hu65_of hr
  letI : CLs := ⟨(cxOf (L2.CX P w) P w K mg base ["_law_script", "_law_row", "_law_n", "_law_bad", "_law_calls", "_law_odd", "_law_call", "_law_size"] "law" (defScope (topS 43)) f cdv A outer s H E).env.cells, lamT_law⟩
  have gK : LamsOk (cxOf (L2.CX P w) P w K mg base ["_law_script", "_law_row", "_law_n", "_law_bad", "_law_calls", "_law_odd", "_law_call", "_law_size"] "law" (defScope (topS 43)) f cdv A outer s H E) 6 0 [b_law_Y1, b_law_Y2, b_law_Y3, b_law_Y4, b_law_Y5, b_law_Y6, b_law_Y10, b_law_Y11, b_law_Y12, b_law_Y13, b_law_Y14, b_law_Y15, b_law_Y16] := ⟨.dfl (b := "_law_c") (by rfl) (lamSD_by (sc := defScope (topS 43)) (N := ["_law_script", "_law_row", "_law_n", "_law_bad", "_law_calls", "_law_odd", "_law_call", "_law_size"]) (by decide +kernel)) (by
    rintro Y E1 ⟨_, _, _, _, _, _, rfl⟩ CY rY
    have hu1 := hu1_of rY
    have hu2 := hu2_of rY
    have hu64 := hu64_of rY
    have hu65 := hu65_of rY
    have hr := rY
    exact (de_call CY (c_least_word_v4 T) hr (by decide) (da_cons (de_var 3) (da_cons de_non da_nil)))) (fun _ _ _ _ _ _ _ => ⟨_, rfl, fun _ => rfl⟩),
    .dfl (b := "_law_b") (by rfl) (lamSD_by (sc := defScope (topS 43)) (N := ["_law_script", "_law_row", "_law_n", "_law_bad", "_law_calls", "_law_odd", "_law_call", "_law_size"]) (by decide +kernel)) (by
    rintro Y E1 ⟨_, _, _, _, _, _, rfl⟩ CY rY
    have hu1 := hu1_of rY
    have hu2 := hu2_of rY
    have hu64 := hu64_of rY
    have hu65 := hu65_of rY
    have hr := rY
    exact (de_call CY (c_sorts_all_v2 T) hr (by decide) (da_cons (de_var 3) (da_cons de_non da_nil)))) (fun _ _ _ _ _ _ _ => ⟨_, rfl, fun _ => rfl⟩),
    .dfl (b := "_law_a") (by rfl) (lamSD_by (sc := defScope (topS 43)) (N := ["_law_script", "_law_row", "_law_n", "_law_bad", "_law_calls", "_law_odd", "_law_call", "_law_size"]) (by decide +kernel)) (by
    rintro Y E1 ⟨_, _, _, _, _, _, rfl⟩ CY rY
    have hu1 := hu1_of rY
    have hu2 := hu2_of rY
    have hu64 := hu64_of rY
    have hu65 := hu65_of rY
    have hr := rY
    exact (de_call CY (c_are_alike_v2 T) hr (by decide) (da_cons (de_var 3) (da_cons de_non (da_cons de_non da_nil))))) (fun _ _ _ _ _ _ _ => ⟨_, rfl, fun _ => rfl⟩),
    .nod (by rfl) (lamS_by (sc := defScope (topS 43)) (by decide +kernel)) (by
    rintro Y E1 ⟨_, _, _, _, _, _, rfl⟩ CY rY
    have hu1 := hu1_of rY
    have hu2 := hu2_of rY
    have hu64 := hu64_of rY
    have hu65 := hu65_of rY
    have hr := rY
    exact (de_call CY (c_end_v2 T) hr (by decide) (da_cons (de_var 3) (da_cons de_non da_nil)))),
    .dfl (b := "_law_a") (by rfl) (lamSD_by (sc := defScope (topS 43)) (N := ["_law_script", "_law_row", "_law_n", "_law_bad", "_law_calls", "_law_odd", "_law_call", "_law_size"]) (by decide +kernel)) (by
    rintro Y E1 ⟨_, _, _, _, _, _, rfl⟩ CY rY
    have hu1 := hu1_of rY
    have hu2 := hu2_of rY
    have hu64 := hu64_of rY
    have hu65 := hu65_of rY
    have hr := rY
    exact (de_call CY (c_scattered_v2 T) hr (by decide) (da_cons (de_var 3) (da_cons de_non (da_cons de_non da_nil))))) (fun _ _ _ _ _ _ _ => ⟨_, rfl, fun _ => rfl⟩),
    .nod (by rfl) (lamS_by (sc := defScope (topS 43)) (by decide +kernel)) (by
    rintro Y E1 ⟨_, _, _, _, _, _, rfl⟩ CY rY
    have hu1 := hu1_of rY
    have hu2 := hu2_of rY
    have hu64 := hu64_of rY
    have hu65 := hu65_of rY
    have hr := rY
    exact (de_call CY (c_lacking_v3 T) hr (by decide) (da_cons (de_var 3) (da_cons de_non da_nil)))),
    .dfl (b := "_law_c") (by rfl) (lamSD_by (sc := defScope (topS 43)) (N := ["_law_script", "_law_row", "_law_n", "_law_bad", "_law_calls", "_law_odd", "_law_call", "_law_size"]) (by decide +kernel)) (by
    rintro Y E1 ⟨_, _, _, _, _, _, rfl⟩ CY rY
    have hu1 := hu1_of rY
    have hu2 := hu2_of rY
    have hu64 := hu64_of rY
    have hu65 := hu65_of rY
    have hr := rY
    exact (de_call CY (c_least_word_v4 T) hr (by decide) (da_cons (de_var 2) (da_cons (de_var 3) da_nil)))) (fun _ _ _ _ _ _ _ => ⟨_, rfl, fun _ => rfl⟩),
    .dfl (b := "_law_b") (by rfl) (lamSD_by (sc := defScope (topS 43)) (N := ["_law_script", "_law_row", "_law_n", "_law_bad", "_law_calls", "_law_odd", "_law_call", "_law_size"]) (by decide +kernel)) (by
    rintro Y E1 ⟨_, _, _, _, _, _, rfl⟩ CY rY
    have hu1 := hu1_of rY
    have hu2 := hu2_of rY
    have hu64 := hu64_of rY
    have hu65 := hu65_of rY
    have hr := rY
    exact (de_call CY (c_sorts_all_v2 T) hr (by decide) (da_cons (de_var 2) (da_cons (de_var 3) da_nil)))) (fun _ _ _ _ _ _ _ => ⟨_, rfl, fun _ => rfl⟩),
    .dfl (b := "_law_a") (by rfl) (lamSD_by (sc := defScope (topS 43)) (N := ["_law_script", "_law_row", "_law_n", "_law_bad", "_law_calls", "_law_odd", "_law_call", "_law_size"]) (by decide +kernel)) (by
    rintro Y E1 ⟨_, _, _, _, _, _, rfl⟩ CY rY
    have hu1 := hu1_of rY
    have hu2 := hu2_of rY
    have hu64 := hu64_of rY
    have hu65 := hu65_of rY
    have hr := rY
    exact (de_call CY (c_are_alike_v2 T) hr (by decide) (da_cons (de_var 2) (da_cons (de_var 3) (da_cons de_non da_nil))))) (fun _ _ _ _ _ _ _ => ⟨_, rfl, fun _ => rfl⟩),
    .nod (by rfl) (lamS_by (sc := defScope (topS 43)) (by decide +kernel)) (by
    rintro Y E1 ⟨_, _, _, _, _, _, rfl⟩ CY rY
    have hu1 := hu1_of rY
    have hu2 := hu2_of rY
    have hu64 := hu64_of rY
    have hu65 := hu65_of rY
    have hr := rY
    exact (de_call CY (c_end_v2 T) hr (by decide) (da_cons (de_var 2) (da_cons (de_var 3) da_nil)))),
    .dfl (b := "_law_b") (by rfl) (lamSD_by (sc := defScope (topS 43)) (N := ["_law_script", "_law_row", "_law_n", "_law_bad", "_law_calls", "_law_odd", "_law_call", "_law_size"]) (by decide +kernel)) (by
    rintro Y E1 ⟨_, _, _, _, _, _, rfl⟩ CY rY
    have hu1 := hu1_of rY
    have hu2 := hu2_of rY
    have hu64 := hu64_of rY
    have hu65 := hu65_of rY
    have hr := rY
    exact (de_call CY (c_are_alike_v2 T) hr (by decide) (da_cons (de_var 2) (da_cons (de_tup (da_cons de_int da_nil)) (da_cons (de_var 3) da_nil))))) (fun _ _ _ _ _ _ _ => ⟨_, rfl, fun _ => rfl⟩),
    .dfl (b := "_law_a") (by rfl) (lamSD_by (sc := defScope (topS 43)) (N := ["_law_script", "_law_row", "_law_n", "_law_bad", "_law_calls", "_law_odd", "_law_call", "_law_size"]) (by decide +kernel)) (by
    rintro Y E1 ⟨_, _, _, _, _, _, rfl⟩ CY rY
    have hu1 := hu1_of rY
    have hu2 := hu2_of rY
    have hu64 := hu64_of rY
    have hu65 := hu65_of rY
    have hr := rY
    exact (de_call CY (c_scattered_v2 T) hr (by decide) (da_cons (de_var 2) (da_cons (de_var 3) (da_cons de_non da_nil))))) (fun _ _ _ _ _ _ _ => ⟨_, rfl, fun _ => rfl⟩),
    .nod (by rfl) (lamS_by (sc := defScope (topS 43)) (by decide +kernel)) (by
    rintro Y E1 ⟨_, _, _, _, _, _, rfl⟩ CY rY
    have hu1 := hu1_of rY
    have hu2 := hu2_of rY
    have hu64 := hu64_of rY
    have hu65 := hu65_of rY
    have hr := rY
    exact (de_call CY (c_lacking_v3 T) hr (by decide) (da_cons (de_var 2) (da_cons (de_var 3) da_nil)))), trivial⟩
  exact (dss_cons (ds_setN C 1 (dn_lst (da_cons (de_var 0) (da_cons de_int (da_cons de_int (da_cons de_int da_nil))))))
    (dss_cons (ds_set C 2 (de_bin or_add de_int (de_callR C (c__law_taken T) hr (by decide) 1 (da_cons de_int da_nil))))
    (dss_cons (ds_for C (di_any (DN.de (dn_lst (da_cons de_non (da_cons de_int (da_cons de_int (da_cons (de_bin or_sub de_int de_int) (da_cons de_bl (da_cons de_str (da_cons (de_tup (da_cons de_int da_nil)) da_nil)))))))))) (dg_name C 3)
    (dss_cons (ds_set C 4 (DN.de (dn_lst (da_cons (de_clo TD rfl (lamS_by (sc := defScope (topS 43)) (by decide +kernel)) (by rfl)) (da_cons (de_cloD (b := "_law_a") TD rfl (lamSD_by (sc := defScope (topS 43)) (N := ["_law_script", "_law_row", "_law_n", "_law_bad", "_law_calls", "_law_odd", "_law_call", "_law_size"]) (by decide +kernel)) (by rfl) pe_int) (da_cons (de_cloD (b := "_law_b") TD rfl (lamSD_by (sc := defScope (topS 43)) (N := ["_law_script", "_law_row", "_law_n", "_law_bad", "_law_calls", "_law_odd", "_law_call", "_law_size"]) (by decide +kernel)) (by rfl) pe_int) (da_cons (de_cloD (b := "_law_c") TD rfl (lamSD_by (sc := defScope (topS 43)) (N := ["_law_script", "_law_row", "_law_n", "_law_bad", "_law_calls", "_law_odd", "_law_call", "_law_size"]) (by decide +kernel)) (by rfl) pe_int) da_nil)))))))
    (dss_one (ds_if (dt_cmp (or_ne (by exact hu64)) (DN.de (dn_lcV (k := 6) (gs := [b_law_Y1, b_law_Y2, b_law_Y3, b_law_Y4, b_law_Y5, b_law_Y6]) C 6 (di_any (de_bin or_add (de_var 4) (DN.de (dn_lst (da_cons (de_clo TD rfl (lamS_by (sc := defScope (topS 43)) (by decide +kernel)) (by rfl)) (da_cons (de_cloD (b := "_law_a") TD rfl (lamSD_by (sc := defScope (topS 43)) (N := ["_law_script", "_law_row", "_law_n", "_law_bad", "_law_calls", "_law_odd", "_law_call", "_law_size"]) (by decide +kernel)) (by rfl) pe_int) da_nil)))))) (blkOk_by rfl) (er_d_law_error_v6 T) (hr.mono (by decide)) rfl (LamsOk.pre (b := [b_law_Y10, b_law_Y11, b_law_Y12, b_law_Y13, b_law_Y14, b_law_Y15, b_law_Y16]) gK) (fun Y hA => or_ne (by rw [hA]; exact hu64)) (fun Y1 s1 H1 Ca1 cl1 fp1 hY1 C1 => by subst hY1; exact de_str) (fun Y1 s1 H1 Ca1 cl1 fp1 hY1 C1 => by subst hY1; exact (dg_name C1 6)) (fun Y1 s1 H1 Ca1 cl1 fp1 hY1 C1 => by subst hY1; exact (de_var 6)) (fun _ _ => Or.inl rfl) (fun _ _ _ _ _ => rfl) (not_vis (by rfl)))) (DN.de (dn_lst da_nil)) (by first | exact nobehind _ (by decide) (by decide) | rfl))
    (dss_one (ds_ret de_bl))
    dss_nil))))
    (dss_cons (ds_set C 3 (de_callR C (c__law_pick T) hr (by decide) 1 (da_cons (DN.de (dn_lst (da_cons de_non (da_cons (DN.de (dn_lst (da_cons de_int da_nil))) (da_cons (de_tup (da_cons (de_bin or_sub (de_var 2) de_int) da_nil)) (da_cons (de_tup (da_cons (de_bin or_sub de_int de_int) da_nil)) (da_cons (de_tup (da_cons de_bl da_nil)) (da_cons (de_tup (da_cons de_str da_nil)) (da_cons (de_bin or_mulT (de_tup (da_cons de_int da_nil)) de_int) (da_cons de_int (da_cons de_str (da_cons (DN.de dn_dct0) da_nil)))))))))))) da_nil)))
    (dss_cons (ds_set C 4 (DN.de (dn_lst (da_cons (de_clo TD rfl (lamS_by (sc := defScope (topS 43)) (by decide +kernel)) (by rfl)) (da_cons (de_cloD (b := "_law_a") TD rfl (lamSD_by (sc := defScope (topS 43)) (N := ["_law_script", "_law_row", "_law_n", "_law_bad", "_law_calls", "_law_odd", "_law_call", "_law_size"]) (by decide +kernel)) (by rfl) pe_int) (da_cons (de_cloD (b := "_law_b") TD rfl (lamSD_by (sc := defScope (topS 43)) (N := ["_law_script", "_law_row", "_law_n", "_law_bad", "_law_calls", "_law_odd", "_law_call", "_law_size"]) (by decide +kernel)) (by rfl) pe_int) (da_cons (de_cloD (b := "_law_c") TD rfl (lamSD_by (sc := defScope (topS 43)) (N := ["_law_script", "_law_row", "_law_n", "_law_bad", "_law_calls", "_law_odd", "_law_call", "_law_size"]) (by decide +kernel)) (by rfl) pe_int) da_nil)))))))
    (dss_cons (ds_set C 4 (de_bin or_add (de_var 4) (DN.de (dn_lst (da_cons (de_clo TD rfl (lamS_by (sc := defScope (topS 43)) (by decide +kernel)) (by rfl)) (da_cons (de_cloD (b := "_law_a") TD rfl (lamSD_by (sc := defScope (topS 43)) (N := ["_law_script", "_law_row", "_law_n", "_law_bad", "_law_calls", "_law_odd", "_law_call", "_law_size"]) (by decide +kernel)) (by rfl) pe_int) (da_cons (de_cloD (b := "_law_b") TD rfl (lamSD_by (sc := defScope (topS 43)) (N := ["_law_script", "_law_row", "_law_n", "_law_bad", "_law_calls", "_law_odd", "_law_call", "_law_size"]) (by decide +kernel)) (by rfl) pe_int) da_nil)))))))
    (dss_cons (ds_if (dt_cmp (or_ne (by exact hu64)) (DN.de (dn_lcV (k := 6) (gs := [b_law_Y1, b_law_Y2, b_law_Y3, b_law_Y4, b_law_Y5, b_law_Y6, b_law_Y10, b_law_Y11, b_law_Y12, b_law_Y13, b_law_Y14, b_law_Y15, b_law_Y16]) C 6 (di_any (de_var 4)) (blkOk_by rfl) (er_d_law_error_v6 T) (hr.mono (by decide)) rfl (LamsOk.pre (b := []) gK) (fun Y hA => or_ne (by rw [hA]; exact hu64)) (fun Y2 s2 H2 Ca2 cl2 fp2 hY2 C2 => by subst hY2; exact de_str) (fun Y2 s2 H2 Ca2 cl2 fp2 hY2 C2 => by subst hY2; exact (dg_name C2 6)) (fun Y2 s2 H2 Ca2 cl2 fp2 hY2 C2 => by subst hY2; exact (de_var 6)) (fun _ _ => Or.inl rfl) (fun _ _ _ _ _ => rfl) (not_vis (by rfl)))) (DN.de (dn_lst da_nil)) (by first | exact nobehind _ (by decide) (by decide) | rfl))
    (dss_one (ds_ret de_bl))
    dss_nil)
    (dss_cons (ds_set C 5 (DN.de (dn_lst (da_cons de_non (da_cons (de_tup da_nil) (da_cons (de_tupR C (dr_1 (de_bin or_add (de_var 2) de_int) T.n_range) T.n_tuple) (da_cons (de_tupR C (dr_1 (de_bin or_sub (de_var 2) de_int) T.n_range) T.n_tuple) (da_cons (DN.de (dn_listR C (dr_1 (de_var 2) T.n_range) T.n_list)) (da_cons (de_bin or_mulT (de_tup (da_cons de_int da_nil)) (de_var 2)) (da_cons (de_bin or_add (de_tup (da_cons de_bl da_nil)) (de_tupR C (dr_2 de_int (de_var 2) T.n_range) T.n_tuple)) (da_cons de_str (da_cons de_int (da_cons (DN.de dn_dct0) da_nil)))))))))))))
    (dss_cons (ds_if (dt_cmp (or_ne (by exact hu64)) (de_err (k := 5) C TD (er_d_law_error_v6 T) (hr.mono (by decide)) (lamS_by (sc := defScope (topS 43)) (by decide +kernel)) (by
    rintro Y E1 ⟨_, _, _, _, _, _, rfl⟩ CY rY
    have hu1 := hu1_of rY
    have hu2 := hu2_of rY
    have hu64 := hu64_of rY
    have hu65 := hu65_of rY
    have hr := rY
    exact (de_call CY (c_scattered_v2 T) hr (by decide) (da_cons (de_var 2) (da_cons (de_tup (da_cons de_int da_nil)) (da_cons (de_callR CY (c__law_pick T) hr (by decide) 1 (da_cons (de_var 5) da_nil)) da_nil)))))) de_str (by first | exact nobehind _ (by decide) (by decide) | rfl))
    (dss_one (ds_ret de_bl))
    dss_nil)
    (dss_cons (ds_set C 3 (de_callR C (c__law_pick T) hr (by decide) 1 (da_cons (DN.de (dn_lst (da_cons de_non (da_cons (de_tup da_nil) (da_cons (DN.de (dn_lst (da_cons de_int (da_cons de_int da_nil)))) (da_cons (de_tup (da_cons de_int (da_cons de_int da_nil))) (da_cons (de_tup (da_cons de_int (da_cons de_int da_nil))) (da_cons (de_tup (da_cons de_int (da_cons de_bl da_nil))) (da_cons de_str (da_cons de_int (da_cons (DN.de dn_dct0) (da_cons (de_tup (da_cons de_int (da_cons de_int (da_cons de_int (da_cons de_int (da_cons de_int (da_cons de_int (da_cons de_int (da_cons de_int da_nil))))))))) da_nil)))))))))))) da_nil)))
    (dss_cons (ds_if (dt_cmp (or_ne (by exact hu64)) (DN.de (dn_lst (da_cons (de_err (k := 5) C TD (er_d_law_error_v6 T) (hr.mono (by decide)) (lamS_by (sc := defScope (topS 43)) (by decide +kernel)) (by
    rintro Y E1 ⟨_, _, _, _, _, _, rfl⟩ CY rY
    have hu1 := hu1_of rY
    have hu2 := hu2_of rY
    have hu64 := hu64_of rY
    have hu65 := hu65_of rY
    have hr := rY
    exact (de_call CY (c_count_words_v2 T) hr (by decide) (da_cons (de_var 3) da_nil)))) (da_cons (de_errD (k := 5) (b := "_law_a") C TD (er_d_law_error_v6 T) (hr.mono (by decide)) (lamSD_by (sc := defScope (topS 43)) (N := ["_law_script", "_law_row", "_law_n", "_law_bad", "_law_calls", "_law_odd", "_law_call", "_law_size"]) (by decide +kernel)) (by
    rintro Y E1 ⟨_, _, _, _, _, _, rfl⟩ CY rY
    have hu1 := hu1_of rY
    have hu2 := hu2_of rY
    have hu64 := hu64_of rY
    have hu65 := hu65_of rY
    have hr := rY
    exact (de_call CY (c_all_words_v2 T) hr (by decide) (da_cons (de_var 3) da_nil))) (fun _ _ _ _ _ _ _ => ⟨_, rfl, fun _ => rfl⟩) pe_int) da_nil)))) (de_bin or_mul (DN.de (dn_lst (da_cons de_str da_nil))) de_int) (by first | exact nobehind _ (by decide) (by decide) | rfl))
    (dss_one (ds_ret de_bl))
    dss_nil)
    (dss_cons (ds_if (dt_cmp (or_ne (by exact hu64)) (DN.de (dn_lst (da_cons (de_err (k := 5) C TD (er_d_law_error_v6 T) (hr.mono (by decide)) (lamS_by (sc := defScope (topS 43)) (by decide +kernel)) (by
    rintro Y E1 ⟨_, _, _, _, _, _, rfl⟩ CY rY
    have hu1 := hu1_of rY
    have hu2 := hu2_of rY
    have hu64 := hu64_of rY
    have hu65 := hu65_of rY
    have hr := rY
    exact (de_call CY (c_all_words_v2 T) hr (by decide) (da_cons (de_tup (da_cons de_int (da_cons de_int (da_cons de_int (da_cons de_int (da_cons de_int (da_cons de_int da_nil))))))) da_nil)))) (da_cons (de_errD (k := 5) (b := "_law_a") C TD (er_d_law_error_v6 T) (hr.mono (by decide)) (lamSD_by (sc := defScope (topS 43)) (N := ["_law_script", "_law_row", "_law_n", "_law_bad", "_law_calls", "_law_odd", "_law_call", "_law_size"]) (by decide +kernel)) (by
    rintro Y E1 ⟨_, _, _, _, _, _, rfl⟩ CY rY
    have hu1 := hu1_of rY
    have hu2 := hu2_of rY
    have hu64 := hu64_of rY
    have hu65 := hu65_of rY
    have hr := rY
    exact (de_call CY (c_all_words_v2 T) hr (by decide) (da_cons (de_tup (da_cons de_int (da_cons de_int (da_cons de_int (da_cons de_int (da_cons de_int da_nil)))))) da_nil))) (fun _ _ _ _ _ _ _ => ⟨_, rfl, fun _ => rfl⟩) pe_int) da_nil)))) (DN.de (dn_lst (da_cons (de_tup (da_cons de_str (da_cons de_int da_nil))) (da_cons de_str da_nil)))) (by first | exact nobehind _ (by decide) (by decide) | rfl))
    (dss_one (ds_ret de_bl))
    dss_nil)
    (dss_one (ds_ret (de_and (de_cmp (or_eq (by exact hu64)) (DN.de (dn_lc C [("_law_size", 7)] (di_range2 de_int de_int T.n_range) (blkOk_by rfl) (fun Y3 s3 H3 Ca3 cl3 fp3 hY3 C3 => by subst hY3; exact (dg_name C3 7)) (fun Y3 s3 H3 Ca3 cl3 fp3 hY3 C3 => by subst hY3; exact dts_nil) (fun Y3 s3 H3 Ca3 cl3 fp3 hY3 C3 => by subst hY3; exact (de_call C3 (c_count_words_v2 T) hr (by decide) (da_cons (de_tupR C3 (dr_1 (de_var 7) T.n_range) T.n_tuple) da_nil))))) (DN.de (dn_lst (da_cons de_int (da_cons de_int (da_cons de_int (da_cons de_int (da_cons de_int (da_cons de_int da_nil)))))))) (by first | exact nobehind _ (by decide) (by decide) | rfl)) (de_one (de_cmp (or_eq (by exact hu64)) (de_call C (c_end_v2 T) hr (by decide) (da_cons de_int (da_cons (de_tup da_nil) da_nil))) (de_tup (da_cons de_int da_nil)) (by first | exact nobehind _ (by decide) (by decide) | rfl))))))))))))))))))
end
end CAS
end TBS

theorem all_mk {l : PySem.W.OpenLaw} {w : World} {K : PySem.W.Frag} {h : Heap} {mg : Str → Option Value} {fa : Addr} (X : K.In h) (G : h.Ns mainGlobals mg) (hfa : mg "law" = some (.ref fa))
    {f0 : Addr} {od0 an0 : Option Addr} {sl0 : Array (Option Value)} {oc0 kV0 dc0 pm0 cd0 ct0 : Value}
    {f1 : Addr} {od1 an1 : Option Addr} {sl1 : Array (Option Value)} {oc1 kV1 dc1 pm1 cd1 ct1 : Value}
    {f2 : Addr} {od2 an2 : Option Addr} {sl2 : Array (Option Value)} {oc2 kV2 dc2 pm2 cd2 ct2 : Value}
    {f3 : Addr} {od3 an3 : Option Addr} {sl3 : Array (Option Value)} {oc3 kV3 dc3 pm3 cd3 ct3 : Value}
    {f4 : Addr} {od4 an4 : Option Addr} {sl4 : Array (Option Value)} {oc4 kV4 dc4 pm4 cd4 ct4 : Value}
    {f5 : Addr} {od5 an5 : Option Addr} {sl5 : Array (Option Value)} {oc5 kV5 dc5 pm5 cd5 ct5 : Value}
    {f6 : Addr} {od6 an6 : Option Addr} {sl6 : Array (Option Value)} {oc6 kV6 dc6 pm6 cd6 ct6 : Value}
    {T6 : Addr} {to6 : Value} {td6 : Option Addr} {ti6 : Nat} {tl6 : Array (Option Value)} {tk6_0 : Tok}
    {f7 : Addr} {od7 an7 : Option Addr} {sl7 : Array (Option Value)} {oc7 kV7 dc7 pm7 cd7 ct7 : Value}
    {f8 : Addr} {od8 an8 : Option Addr} {sl8 : Array (Option Value)} {oc8 kV8 dc8 pm8 cd8 ct8 : Value}
    {f9 : Addr} {od9 an9 : Option Addr} {sl9 : Array (Option Value)} {oc9 kV9 dc9 pm9 cd9 ct9 : Value}
    {f10 : Addr} {od10 an10 : Option Addr} {sl10 : Array (Option Value)} {oc10 kV10 dc10 pm10 cd10 ct10 : Value}
    {f11 : Addr} {od11 an11 : Option Addr} {sl11 : Array (Option Value)} {oc11 kV11 dc11 pm11 cd11 ct11 : Value}
    {f12 : Addr} {od12 an12 : Option Addr} {sl12 : Array (Option Value)} {oc12 kV12 dc12 pm12 cd12 ct12 : Value}
    {f13 : Addr} {od13 an13 : Option Addr} {sl13 : Array (Option Value)} {oc13 kV13 dc13 pm13 cd13 ct13 : Value}
    {f14 : Addr} {od14 an14 : Option Addr} {sl14 : Array (Option Value)} {oc14 kV14 dc14 pm14 cd14 ct14 : Value}
    {f15 : Addr} {od15 an15 : Option Addr} {sl15 : Array (Option Value)} {oc15 kV15 dc15 pm15 cd15 ct15 : Value}
    {f16 : Addr} {od16 an16 : Option Addr} {sl16 : Array (Option Value)} {oc16 kV16 dc16 pm16 cd16 ct16 : Value}
    {f17 : Addr} {od17 an17 : Option Addr} {sl17 : Array (Option Value)} {oc17 kV17 dc17 pm17 cd17 ct17 : Value}
    {f18 : Addr} {od18 an18 : Option Addr} {sl18 : Array (Option Value)} {oc18 kV18 dc18 pm18 cd18 ct18 : Value}
    {f19 : Addr} {od19 an19 : Option Addr} {sl19 : Array (Option Value)} {oc19 kV19 dc19 pm19 cd19 ct19 : Value}
    {f20 : Addr} {od20 an20 : Option Addr} {sl20 : Array (Option Value)} {oc20 kV20 dc20 pm20 cd20 ct20 : Value}
    {f21 : Addr} {od21 an21 : Option Addr} {sl21 : Array (Option Value)} {oc21 kV21 dc21 pm21 cd21 ct21 : Value}
    {f22 : Addr} {od22 an22 : Option Addr} {sl22 : Array (Option Value)} {oc22 kV22 dc22 pm22 cd22 ct22 : Value}
    {f23 : Addr} {od23 an23 : Option Addr} {sl23 : Array (Option Value)} {oc23 kV23 dc23 pm23 cd23 ct23 : Value}
    {f24 : Addr} {od24 an24 : Option Addr} {sl24 : Array (Option Value)} {oc24 kV24 dc24 pm24 cd24 ct24 : Value}
    {f25 : Addr} {od25 an25 : Option Addr} {sl25 : Array (Option Value)} {oc25 kV25 dc25 pm25 cd25 ct25 : Value}
    {f26 : Addr} {od26 an26 : Option Addr} {sl26 : Array (Option Value)} {oc26 kV26 dc26 pm26 cd26 ct26 : Value}
    {f27 : Addr} {od27 an27 : Option Addr} {sl27 : Array (Option Value)} {oc27 kV27 dc27 pm27 cd27 ct27 : Value}
    {f28 : Addr} {od28 an28 : Option Addr} {sl28 : Array (Option Value)} {oc28 kV28 dc28 pm28 cd28 ct28 : Value}
    {f29 : Addr} {od29 an29 : Option Addr} {sl29 : Array (Option Value)} {oc29 kV29 dc29 pm29 cd29 ct29 : Value}
    {f30 : Addr} {od30 an30 : Option Addr} {sl30 : Array (Option Value)} {oc30 kV30 dc30 pm30 ct30 : Value}
    {lc30 lp30 : Addr} {lo30 : Value} {ln30 : Option Addr} {lv30 : Array Value} {ls30 : Array (Option Value)}
    {q_BadCards : Addr}
    {q_BadGoal : Addr}
    {q_BadRow : Addr}
    {q_BadWord : Addr}
    {q_SortError : Addr}
    {q_TooMany fi_TooMany cda_TooMany cc_TooMany : Addr} {par_TooMany qual_TooMany file_TooMany : Str} {params_TooMany : Arguments} {scope_TooMany : Scope} {dV_TooMany kV_TooMany doc_TooMany pm_TooMany ct_TooMany oc_TooMany ccl_TooMany ccq_TooMany : Value} {an_TooMany od_TooMany cdd_TooMany cld_TooMany : Option Addr} {osl_TooMany ccs_TooMany csl_TooMany : Array (Option Value)} {p0_TooMany p1_TooMany p2_TooMany p3_TooMany p4_TooMany p5_TooMany p6_TooMany p7_TooMany p8_TooMany p9_TooMany : Pos} {ar_TooMany : Arg} {vs0_TooMany : Array Value} {tf_TooMany : Tok}
    {tc_MOST_CARDS : Tok}
    {tc_MOST_WORDS : Tok}
    (a0 : PySem.W.nsIn K mainGlobals "_law_taken" = some (some (.ref f0)))
    (l0 : K.lookup f0 = some ⟨oc0, od0, .func (PySem.W.fnOf "_law_taken" "_law_taken" (defArgs (topS 40)) (defBody (topS 40)) (defScope (topS 40)) .none kV0 dc0 pm0 an0 cd0 ct0), sl0⟩)
    (c0 : PySem.W.codeIn K cd0 "_law_taken" = true)
    (k0 : PySem.W.keepIn K (.ref f0) = true)
    (a1 : PySem.W.nsIn K mainGlobals "_law_pick" = some (some (.ref f1)))
    (l1 : K.lookup f1 = some ⟨oc1, od1, .func (PySem.W.fnOf "_law_pick" "_law_pick" (defArgs (topS 41)) (defBody (topS 41)) (defScope (topS 41)) .none kV1 dc1 pm1 an1 cd1 ct1), sl1⟩)
    (c1 : PySem.W.codeIn K cd1 "_law_pick" = true)
    (k1 : PySem.W.keepIn K (.ref f1) = true)
    (a2 : PySem.W.nsIn K mainGlobals "_law_error" = some (some (.ref f2)))
    (l2 : K.lookup f2 = some ⟨oc2, od2, .func (PySem.W.fnOf "_law_error" "_law_error" (defArgs (topS 42)) (defBody (topS 42)) (defScope (topS 42)) .none kV2 dc2 pm2 an2 cd2 ct2), sl2⟩)
    (c2 : PySem.W.codeIn K cd2 "_law_error" = true)
    (k2 : PySem.W.keepIn K (.ref f2) = true)
    (a3 : PySem.W.nsIn K mainGlobals "is_integer" = some (some (.ref f3)))
    (l3 : K.lookup f3 = some ⟨oc3, od3, .func (PySem.W.fnOf "is_integer" "is_integer" (defArgs (topS 10)) (defBody (topS 10)) (defScope (topS 10)) .none kV3 dc3 pm3 an3 cd3 ct3), sl3⟩)
    (c3 : PySem.W.codeIn K cd3 "is_integer" = true)
    (k3 : PySem.W.keepIn K (.ref f3) = true)
    (a4 : PySem.W.nsIn K mainGlobals "is_from" = some (some (.ref f4)))
    (l4 : K.lookup f4 = some ⟨oc4, od4, .func (PySem.W.fnOf "is_from" "is_from" (defArgs (topS 11)) (defBody (topS 11)) (defScope (topS 11)) .none kV4 dc4 pm4 an4 cd4 ct4), sl4⟩)
    (c4 : PySem.W.codeIn K cd4 "is_from" = true)
    (k4 : PySem.W.keepIn K (.ref f4) = true)
    (a5 : PySem.W.nsIn K mainGlobals "need_cards" = some (some (.ref f5)))
    (l5 : K.lookup f5 = some ⟨oc5, od5, .func (PySem.W.fnOf "need_cards" "need_cards" (defArgs (topS 12)) (defBody (topS 12)) (defScope (topS 12)) .none kV5 dc5 pm5 an5 cd5 ct5), sl5⟩)
    (c5 : PySem.W.codeIn K cd5 "need_cards" = true)
    (k5 : PySem.W.keepIn K (.ref f5) = true)
    (a6 : PySem.W.nsIn K mainGlobals "need_word" = some (some (.ref f6)))
    (l6 : K.lookup f6 = some ⟨oc6, od6, .func (PySem.W.fnOf "need_word" "need_word" (defArgs (topS 15)) (defBody (topS 15)) (defScope (topS 15)) (.ref T6) kV6 dc6 pm6 an6 cd6 ct6), sl6⟩)
    (t6 : K.lookup T6 = some ⟨to6, td6, .seq [Value.int 200 tk6_0].toArray ti6, tl6⟩)
    (c6 : PySem.W.codeIn K cd6 "need_word" = true)
    (k6 : PySem.W.keepIn K (.ref f6) = true)
    (a7 : PySem.W.nsIn K mainGlobals "need_both" = some (some (.ref f7)))
    (l7 : K.lookup f7 = some ⟨oc7, od7, .func (PySem.W.fnOf "need_both" "need_both" (defArgs (topS 24)) (defBody (topS 24)) (defScope (topS 24)) .none kV7 dc7 pm7 an7 cd7 ct7), sl7⟩)
    (c7 : PySem.W.codeIn K cd7 "need_both" = true)
    (k7 : PySem.W.keepIn K (.ref f7) = true)
    (a8 : PySem.W.nsIn K mainGlobals "exchanged" = some (some (.ref f8)))
    (l8 : K.lookup f8 = some ⟨oc8, od8, .func (PySem.W.fnOf "exchanged" "exchanged" (defArgs (topS 17)) (defBody (topS 17)) (defScope (topS 17)) .none kV8 dc8 pm8 an8 cd8 ct8), sl8⟩)
    (c8 : PySem.W.codeIn K cd8 "exchanged" = true)
    (k8 : PySem.W.keepIn K (.ref f8) = true)
    (a9 : PySem.W.nsIn K mainGlobals "done" = some (some (.ref f9)))
    (l9 : K.lookup f9 = some ⟨oc9, od9, .func (PySem.W.fnOf "done" "done" (defArgs (topS 18)) (defBody (topS 18)) (defScope (topS 18)) .none kV9 dc9 pm9 an9 cd9 ct9), sl9⟩)
    (c9 : PySem.W.codeIn K cd9 "done" = true)
    (k9 : PySem.W.keepIn K (.ref f9) = true)
    (a10 : PySem.W.nsIn K mainGlobals "run_left" = some (some (.ref f10)))
    (l10 : K.lookup f10 = some ⟨oc10, od10, .func (PySem.W.fnOf "run_left" "run_left" (defArgs (topS 19)) (defBody (topS 19)) (defScope (topS 19)) .none kV10 dc10 pm10 an10 cd10 ct10), sl10⟩)
    (c10 : PySem.W.codeIn K cd10 "run_left" = true)
    (k10 : PySem.W.keepIn K (.ref f10) = true)
    (a11 : PySem.W.nsIn K mainGlobals "turned_row" = some (some (.ref f11)))
    (l11 : K.lookup f11 = some ⟨oc11, od11, .func (PySem.W.fnOf "turned_row" "turned_row" (defArgs (topS 16)) (defBody (topS 16)) (defScope (topS 16)) .none kV11 dc11 pm11 an11 cd11 ct11), sl11⟩)
    (c11 : PySem.W.codeIn K cd11 "turned_row" = true)
    (k11 : PySem.W.keepIn K (.ref f11) = true)
    (a12 : PySem.W.nsIn K mainGlobals "end_of" = some (some (.ref f12)))
    (l12 : K.lookup f12 = some ⟨oc12, od12, .func (PySem.W.fnOf "end_of" "end_of" (defArgs (topS 26)) (defBody (topS 26)) (defScope (topS 26)) .none kV12 dc12 pm12 an12 cd12 ct12), sl12⟩)
    (c12 : PySem.W.codeIn K cd12 "end_of" = true)
    (k12 : PySem.W.keepIn K (.ref f12) = true)
    (a13 : PySem.W.nsIn K mainGlobals "end" = some (some (.ref f13)))
    (l13 : K.lookup f13 = some ⟨oc13, od13, .func (PySem.W.fnOf "end" "end" (defArgs (topS 27)) (defBody (topS 27)) (defScope (topS 27)) .none kV13 dc13 pm13 an13 cd13 ct13), sl13⟩)
    (c13 : PySem.W.codeIn K cd13 "end" = true)
    (k13 : PySem.W.keepIn K (.ref f13) = true)
    (a14 : PySem.W.nsIn K mainGlobals "are_alike" = some (some (.ref f14)))
    (l14 : K.lookup f14 = some ⟨oc14, od14, .func (PySem.W.fnOf "are_alike" "are_alike" (defArgs (topS 28)) (defBody (topS 28)) (defScope (topS 28)) .none kV14 dc14 pm14 an14 cd14 ct14), sl14⟩)
    (c14 : PySem.W.codeIn K cd14 "are_alike" = true)
    (k14 : PySem.W.keepIn K (.ref f14) = true)
    (a15 : PySem.W.nsIn K mainGlobals "sorts_all" = some (some (.ref f15)))
    (l15 : K.lookup f15 = some ⟨oc15, od15, .func (PySem.W.fnOf "sorts_all" "sorts_all" (defArgs (topS 29)) (defBody (topS 29)) (defScope (topS 29)) .none kV15 dc15 pm15 an15 cd15 ct15), sl15⟩)
    (c15 : PySem.W.codeIn K cd15 "sorts_all" = true)
    (k15 : PySem.W.keepIn K (.ref f15) = true)
    (a16 : PySem.W.nsIn K mainGlobals "pairs_out" = some (some (.ref f16)))
    (l16 : K.lookup f16 = some ⟨oc16, od16, .func (PySem.W.fnOf "pairs_out" "pairs_out" (defArgs (topS 20)) (defBody (topS 20)) (defScope (topS 20)) .none kV16 dc16 pm16 an16 cd16 ct16), sl16⟩)
    (c16 : PySem.W.codeIn K cd16 "pairs_out" = true)
    (k16 : PySem.W.keepIn K (.ref f16) = true)
    (a17 : PySem.W.nsIn K mainGlobals "least_way" = some (some (.ref f17)))
    (l17 : K.lookup f17 = some ⟨oc17, od17, .func (PySem.W.fnOf "least_way" "least_way" (defArgs (topS 21)) (defBody (topS 21)) (defScope (topS 21)) .none kV17 dc17 pm17 an17 cd17 ct17), sl17⟩)
    (c17 : PySem.W.codeIn K cd17 "least_way" = true)
    (k17 : PySem.W.keepIn K (.ref f17) = true)
    (a18 : PySem.W.nsIn K mainGlobals "least_word" = some (some (.ref f18)))
    (l18 : K.lookup f18 = some ⟨oc18, od18, .func (PySem.W.fnOf "least_word" "least_word" (defArgs (topS 30)) (defBody (topS 30)) (defScope (topS 30)) .none kV18 dc18 pm18 an18 cd18 ct18), sl18⟩)
    (c18 : PySem.W.codeIn K cd18 "least_word" = true)
    (k18 : PySem.W.keepIn K (.ref f18) = true)
    (a19 : PySem.W.nsIn K mainGlobals "lacking" = some (some (.ref f19)))
    (l19 : K.lookup f19 = some ⟨oc19, od19, .func (PySem.W.fnOf "lacking" "lacking" (defArgs (topS 31)) (defBody (topS 31)) (defScope (topS 31)) .none kV19 dc19 pm19 an19 cd19 ct19), sl19⟩)
    (c19 : PySem.W.codeIn K cd19 "lacking" = true)
    (k19 : PySem.W.keepIn K (.ref f19) = true)
    (a20 : PySem.W.nsIn K mainGlobals "is_row_of" = some (some (.ref f20)))
    (l20 : K.lookup f20 = some ⟨oc20, od20, .func (PySem.W.fnOf "is_row_of" "is_row_of" (defArgs (topS 13)) (defBody (topS 13)) (defScope (topS 13)) .none kV20 dc20 pm20 an20 cd20 ct20), sl20⟩)
    (c20 : PySem.W.codeIn K cd20 "is_row_of" = true)
    (k20 : PySem.W.keepIn K (.ref f20) = true)
    (a21 : PySem.W.nsIn K mainGlobals "need_goal" = some (some (.ref f21)))
    (l21 : K.lookup f21 = some ⟨oc21, od21, .func (PySem.W.fnOf "need_goal" "need_goal" (defArgs (topS 25)) (defBody (topS 25)) (defScope (topS 25)) .none kV21 dc21 pm21 an21 cd21 ct21), sl21⟩)
    (c21 : PySem.W.codeIn K cd21 "need_goal" = true)
    (k21 : PySem.W.keepIn K (.ref f21) = true)
    (a22 : PySem.W.nsIn K mainGlobals "reach_from" = some (some (.ref f22)))
    (l22 : K.lookup f22 = some ⟨oc22, od22, .func (PySem.W.fnOf "reach_from" "reach_from" (defArgs (topS 36)) (defBody (topS 36)) (defScope (topS 36)) .none kV22 dc22 pm22 an22 cd22 ct22), sl22⟩)
    (c22 : PySem.W.codeIn K cd22 "reach_from" = true)
    (k22 : PySem.W.keepIn K (.ref f22) = true)
    (a23 : PySem.W.nsIn K mainGlobals "first_scattered" = some (some (.ref f23)))
    (l23 : K.lookup f23 = some ⟨oc23, od23, .func (PySem.W.fnOf "first_scattered" "first_scattered" (defArgs (topS 37)) (defBody (topS 37)) (defScope (topS 37)) .none kV23 dc23 pm23 an23 cd23 ct23), sl23⟩)
    (c23 : PySem.W.codeIn K cd23 "first_scattered" = true)
    (k23 : PySem.W.keepIn K (.ref f23) = true)
    (a24 : PySem.W.nsIn K mainGlobals "scattered" = some (some (.ref f24)))
    (l24 : K.lookup f24 = some ⟨oc24, od24, .func (PySem.W.fnOf "scattered" "scattered" (defArgs (topS 38)) (defBody (topS 38)) (defScope (topS 38)) .none kV24 dc24 pm24 an24 cd24 ct24), sl24⟩)
    (c24 : PySem.W.codeIn K cd24 "scattered" = true)
    (k24 : PySem.W.keepIn K (.ref f24) = true)
    (a25 : PySem.W.nsIn K mainGlobals "need_row" = some (some (.ref f25)))
    (l25 : K.lookup f25 = some ⟨oc25, od25, .func (PySem.W.fnOf "need_row" "need_row" (defArgs (topS 14)) (defBody (topS 14)) (defScope (topS 14)) .none kV25 dc25 pm25 an25 cd25 ct25), sl25⟩)
    (c25 : PySem.W.codeIn K cd25 "need_row" = true)
    (k25 : PySem.W.keepIn K (.ref f25) = true)
    (a26 : PySem.W.nsIn K mainGlobals "steps_up" = some (some (.ref f26)))
    (l26 : K.lookup f26 = some ⟨oc26, od26, .func (PySem.W.fnOf "steps_up" "steps_up" (defArgs (topS 32)) (defBody (topS 32)) (defScope (topS 32)) .none kV26 dc26 pm26 an26 cd26 ct26), sl26⟩)
    (c26 : PySem.W.codeIn K cd26 "steps_up" = true)
    (k26 : PySem.W.keepIn K (.ref f26) = true)
    (a27 : PySem.W.nsIn K mainGlobals "number_of_words" = some (some (.ref f27)))
    (l27 : K.lookup f27 = some ⟨oc27, od27, .func (PySem.W.fnOf "number_of_words" "number_of_words" (defArgs (topS 33)) (defBody (topS 33)) (defScope (topS 33)) .none kV27 dc27 pm27 an27 cd27 ct27), sl27⟩)
    (c27 : PySem.W.codeIn K cd27 "number_of_words" = true)
    (k27 : PySem.W.keepIn K (.ref f27) = true)
    (a28 : PySem.W.nsIn K mainGlobals "count_words" = some (some (.ref f28)))
    (l28 : K.lookup f28 = some ⟨oc28, od28, .func (PySem.W.fnOf "count_words" "count_words" (defArgs (topS 34)) (defBody (topS 34)) (defScope (topS 34)) .none kV28 dc28 pm28 an28 cd28 ct28), sl28⟩)
    (c28 : PySem.W.codeIn K cd28 "count_words" = true)
    (k28 : PySem.W.keepIn K (.ref f28) = true)
    (a29 : PySem.W.nsIn K mainGlobals "all_words" = some (some (.ref f29)))
    (l29 : K.lookup f29 = some ⟨oc29, od29, .func (PySem.W.fnOf "all_words" "all_words" (defArgs (topS 35)) (defBody (topS 35)) (defScope (topS 35)) .none kV29 dc29 pm29 an29 cd29 ct29), sl29⟩)
    (c29 : PySem.W.codeIn K cd29 "all_words" = true)
    (k29 : PySem.W.keepIn K (.ref f29) = true)
    (a30 : PySem.W.nsIn K mainGlobals "law" = some (some (.ref f30)))
    (l30 : K.lookup f30 = some ⟨oc30, od30, .func (PySem.W.fnOf "law" "law" (defArgs (topS 43)) (defBody (topS 43)) (defScope (topS 43)) .none kV30 dc30 pm30 an30 (.ref lc30) ct30), sl30⟩)
    (c30 : PySem.W.codeIn K (.ref lc30) "law" = true)
    (lb30 : K.lookup lc30 = some ⟨lo30, ln30, .fields lv30, ls30⟩) (lq30 : lv30[11]? = some (.ref lp30)) (ld30 : PySem.W.codeHdIn K lc30 lp30 = true) (le30 : K.lookup lp30 = none) (lh30 : h.get? lp30 = some (PySem.W.tabObj #[]))
    (k30 : PySem.W.keepIn K (.ref f30) = true)
    (qa_BadCards : PySem.W.nsIn K mainGlobals "BadCards" = some (some (.ref q_BadCards)))
    (qk_BadCards : PySem.W.keepIn K (.ref q_BadCards) = true)
    (qx_BadCards : PySem.W.excIn K q_BadCards [.type "ValueError", .type "Exception", .type "BaseException", .type "object"] "ValueError.__new__" = true)
    (qs_BadCards : PySem.W.subIn K (.ref q_BadCards) (.type "BaseException") = some true)
    (qt_BadCards : PySem.W.typeIn K (.ref q_BadCards) = some (.type "type"))
    (qi_BadCards : PySem.W.isClsIn K q_BadCards = true)
    (qa_BadGoal : PySem.W.nsIn K mainGlobals "BadGoal" = some (some (.ref q_BadGoal)))
    (qk_BadGoal : PySem.W.keepIn K (.ref q_BadGoal) = true)
    (qx_BadGoal : PySem.W.excIn K q_BadGoal [.type "ValueError", .type "Exception", .type "BaseException", .type "object"] "ValueError.__new__" = true)
    (qs_BadGoal : PySem.W.subIn K (.ref q_BadGoal) (.type "BaseException") = some true)
    (qt_BadGoal : PySem.W.typeIn K (.ref q_BadGoal) = some (.type "type"))
    (qi_BadGoal : PySem.W.isClsIn K q_BadGoal = true)
    (qa_BadRow : PySem.W.nsIn K mainGlobals "BadRow" = some (some (.ref q_BadRow)))
    (qk_BadRow : PySem.W.keepIn K (.ref q_BadRow) = true)
    (qx_BadRow : PySem.W.excIn K q_BadRow [.type "ValueError", .type "Exception", .type "BaseException", .type "object"] "ValueError.__new__" = true)
    (qs_BadRow : PySem.W.subIn K (.ref q_BadRow) (.type "BaseException") = some true)
    (qt_BadRow : PySem.W.typeIn K (.ref q_BadRow) = some (.type "type"))
    (qi_BadRow : PySem.W.isClsIn K q_BadRow = true)
    (qa_BadWord : PySem.W.nsIn K mainGlobals "BadWord" = some (some (.ref q_BadWord)))
    (qk_BadWord : PySem.W.keepIn K (.ref q_BadWord) = true)
    (qx_BadWord : PySem.W.excIn K q_BadWord [.type "ValueError", .type "Exception", .type "BaseException", .type "object"] "ValueError.__new__" = true)
    (qs_BadWord : PySem.W.subIn K (.ref q_BadWord) (.type "BaseException") = some true)
    (qt_BadWord : PySem.W.typeIn K (.ref q_BadWord) = some (.type "type"))
    (qi_BadWord : PySem.W.isClsIn K q_BadWord = true)
    (qa_SortError : PySem.W.nsIn K mainGlobals "SortError" = some (some (.ref q_SortError)))
    (qk_SortError : PySem.W.keepIn K (.ref q_SortError) = true)
    (qx_SortError : PySem.W.excIn K q_SortError [.type "ValueError", .type "Exception", .type "BaseException", .type "object"] "ValueError.__new__" = true)
    (qs_SortError : PySem.W.subIn K (.ref q_SortError) (.type "BaseException") = some true)
    (qt_SortError : PySem.W.typeIn K (.ref q_SortError) = some (.type "type"))
    (qi_SortError : PySem.W.isClsIn K q_SortError = true)
    (qa_TooMany : PySem.W.nsIn K mainGlobals "TooMany" = some (some (.ref q_TooMany)))
    (qk_TooMany : PySem.W.keepIn K (.ref q_TooMany) = true)
    (qs_TooMany : PySem.W.subIn K (.ref q_TooMany) (.type "BaseException") = some true)
    (qt_TooMany : PySem.W.typeIn K (.ref q_TooMany) = some (.type "type"))
    (qi_TooMany : PySem.W.isClsIn K q_TooMany = true)
    (qo_TooMany : oexB K q_TooMany = true)
    (qz_TooMany : PySem.W.findIn K (.ref q_TooMany) "__setattr__" = some (some (.builtin "object.__setattr__")))
    (qn_TooMany : PySem.W.findIn K (.ref q_TooMany) "most" = some none)
    (qg_TooMany : xfB K q_TooMany = true)
    (qf_TooMany : PySem.W.findIn K (.ref q_TooMany) "__init__" = some (some (.ref fi_TooMany)))
    (qh_TooMany : PySem.W.typeIn K (.ref fi_TooMany) = some (.type "function"))
    (ql_TooMany : K.lookup fi_TooMany = some ⟨oc_TooMany, od_TooMany, .func (PySem.W.ksFn "__init__" qual_TooMany params_TooMany (supBody par_TooMany "most" p0_TooMany p1_TooMany p2_TooMany p3_TooMany p4_TooMany p5_TooMany p6_TooMany p7_TooMany p8_TooMany p9_TooMany) scope_TooMany dV_TooMany kV_TooMany doc_TooMany pm_TooMany an_TooMany (.ref cda_TooMany) ct_TooMany cc_TooMany), osl_TooMany⟩)
    (qc_TooMany : PySem.W.codeIn K (.ref cda_TooMany) qual_TooMany = true)
    (qd_TooMany : K.lookup cda_TooMany = some ⟨ccl_TooMany, cdd_TooMany, .fields vs0_TooMany, ccs_TooMany⟩)
    (qv_TooMany : vs0_TooMany[2]? = some (.str file_TooMany tf_TooMany))
    (qw_TooMany : ((l.prog.main.file : Str) == file_TooMany) = true)
    (qcc_TooMany : K.lookup cc_TooMany = some ⟨ccq_TooMany, cld_TooMany, .cell (some (.ref q_TooMany)), csl_TooMany⟩)
    (qsu_TooMany : PySem.W.ks_superIn K q_TooMany q_TooMany "__init__" = some (some (.builtin "ValueError.__init__")))
    (qm_TooMany : PySem.W.mroIn K q_TooMany (.ref q_TooMany) = some true)
    (qb_TooMany : PySem.W.subIn K (.ref q_TooMany) (.type "ValueError") = some true)
    (qr1_TooMany : (params_TooMany.posonlyargs ++ params_TooMany.args).head? = some ar_TooMany ∧ ar_TooMany.arg = "self" ∧ (("self" : Str) == par_TooMany) = false ∧ (par_TooMany == ("__debug__" : Str)) = false)
    (qr2_TooMany : scope_TooMany.names.lookup ("super" : Str) = some .globalImplicit ∧ scope_TooMany.names.lookup ("__class__" : Str) = some .free ∧ scope_TooMany.names.lookup ("self" : Str) = some .local ∧ scope_TooMany.names.lookup par_TooMany = some .local ∧ scope_TooMany.isCoroutine = false ∧ scope_TooMany.isGenerator = false ∧ scope_TooMany.kind = .function)
    (qr3_TooMany : ∀ x ∈ scope_TooMany.names, x.2 ≠ .cell)
    (qr4_TooMany : ∀ L : Addr, ∃ pl : Sem Bool, eval (.Call (.Attribute (.Call (.Name "super" p0_TooMany) [] [] p1_TooMany) "__init__" p2_TooMany) [.Name par_TooMany p3_TooMany] [] p4_TooMany) (PySem.W.ksEnv qual_TooMany scope_TooMany L fi_TooMany (.ref cda_TooMany) cc_TooMany) = (do
      let ov ← attributeBase (.Call (.Name "super" p0_TooMany) [] [] p1_TooMany) "__init__" (PySem.W.ksEnv qual_TooMany scope_TooMany L fi_TooMany (.ref cda_TooMany) cc_TooMany) (eval (.Call (.Name "super" p0_TooMany) [] [] p1_TooMany) (PySem.W.ksEnv qual_TooMany scope_TooMany L fi_TooMany (.ref cda_TooMany) cc_TooMany))
      standAt p2_TooMany.atName
      let (f1, first) ← holding [ov] (getMethod ov "__init__" pl)
      callWith p4_TooMany f1 first (backTo p4_TooMany (starEach [.Name par_TooMany p3_TooMany] (PySem.W.ksEnv qual_TooMany scope_TooMany L fi_TooMany (.ref cda_TooMany) cc_TooMany))) []))
    (qr5_TooMany : ∀ L : Addr, interactive (PySem.W.ksEnv qual_TooMany scope_TooMany L fi_TooMany (.ref cda_TooMany) cc_TooMany) = false ∧ swapsWith (.Call (.Attribute (.Call (.Name "super" p0_TooMany) [] [] p1_TooMany) "__init__" p2_TooMany) [.Name par_TooMany p3_TooMany] [] p4_TooMany) none p5_TooMany.line (PySem.W.ksEnv qual_TooMany scope_TooMany L fi_TooMany (.ref cda_TooMany) cc_TooMany) = pure false ∧ swapsWith (.Name par_TooMany p8_TooMany) (some (.Attribute (.Name "self" p6_TooMany) "most" p7_TooMany)) p9_TooMany.line (PySem.W.ksEnv qual_TooMany scope_TooMany L fi_TooMany (.ref cda_TooMany) cc_TooMany) = pure false)
    (qr6_TooMany : ∀ us : List Value, us.length = 2 → bindArgs (PySem.W.ksFn "__init__" qual_TooMany params_TooMany (supBody par_TooMany "most" p0_TooMany p1_TooMany p2_TooMany p3_TooMany p4_TooMany p5_TooMany p6_TooMany p7_TooMany p8_TooMany p9_TooMany) scope_TooMany dV_TooMany kV_TooMany doc_TooMany pm_TooMany an_TooMany (.ref cda_TooMany) ct_TooMany cc_TooMany) ⟨us, []⟩ = pure ((["self", par_TooMany] : List Str).zip us))
    (qop_ : PySem.W.nsIn K PySem.cStatics "thirdparty.any" = some none)
    (qsn_ : PySem.W.nsIn K mainGlobals "super" = some none)
    (qtp_ : (l.prog.main.scope.names.lookup ("super" : Str)).isSome = false)
    (qe_BadCards_BadCards : PySem.W.subIn K (.ref q_BadCards) (.ref q_BadCards) = some true)
    (qe_BadCards_BadGoal : PySem.W.subIn K (.ref q_BadCards) (.ref q_BadGoal) = some false)
    (qe_BadCards_BadRow : PySem.W.subIn K (.ref q_BadCards) (.ref q_BadRow) = some false)
    (qe_BadCards_BadWord : PySem.W.subIn K (.ref q_BadCards) (.ref q_BadWord) = some false)
    (qe_BadCards_SortError : PySem.W.subIn K (.ref q_BadCards) (.ref q_SortError) = some true)
    (qe_BadCards_TooMany : PySem.W.subIn K (.ref q_BadCards) (.ref q_TooMany) = some false)
    (qe_BadGoal_BadCards : PySem.W.subIn K (.ref q_BadGoal) (.ref q_BadCards) = some false)
    (qe_BadGoal_BadGoal : PySem.W.subIn K (.ref q_BadGoal) (.ref q_BadGoal) = some true)
    (qe_BadGoal_BadRow : PySem.W.subIn K (.ref q_BadGoal) (.ref q_BadRow) = some false)
    (qe_BadGoal_BadWord : PySem.W.subIn K (.ref q_BadGoal) (.ref q_BadWord) = some false)
    (qe_BadGoal_SortError : PySem.W.subIn K (.ref q_BadGoal) (.ref q_SortError) = some true)
    (qe_BadGoal_TooMany : PySem.W.subIn K (.ref q_BadGoal) (.ref q_TooMany) = some false)
    (qe_BadRow_BadCards : PySem.W.subIn K (.ref q_BadRow) (.ref q_BadCards) = some false)
    (qe_BadRow_BadGoal : PySem.W.subIn K (.ref q_BadRow) (.ref q_BadGoal) = some false)
    (qe_BadRow_BadRow : PySem.W.subIn K (.ref q_BadRow) (.ref q_BadRow) = some true)
    (qe_BadRow_BadWord : PySem.W.subIn K (.ref q_BadRow) (.ref q_BadWord) = some false)
    (qe_BadRow_SortError : PySem.W.subIn K (.ref q_BadRow) (.ref q_SortError) = some true)
    (qe_BadRow_TooMany : PySem.W.subIn K (.ref q_BadRow) (.ref q_TooMany) = some false)
    (qe_BadWord_BadCards : PySem.W.subIn K (.ref q_BadWord) (.ref q_BadCards) = some false)
    (qe_BadWord_BadGoal : PySem.W.subIn K (.ref q_BadWord) (.ref q_BadGoal) = some false)
    (qe_BadWord_BadRow : PySem.W.subIn K (.ref q_BadWord) (.ref q_BadRow) = some false)
    (qe_BadWord_BadWord : PySem.W.subIn K (.ref q_BadWord) (.ref q_BadWord) = some true)
    (qe_BadWord_SortError : PySem.W.subIn K (.ref q_BadWord) (.ref q_SortError) = some true)
    (qe_BadWord_TooMany : PySem.W.subIn K (.ref q_BadWord) (.ref q_TooMany) = some false)
    (qe_TooMany_BadCards : PySem.W.subIn K (.ref q_TooMany) (.ref q_BadCards) = some false)
    (qe_TooMany_BadGoal : PySem.W.subIn K (.ref q_TooMany) (.ref q_BadGoal) = some false)
    (qe_TooMany_BadRow : PySem.W.subIn K (.ref q_TooMany) (.ref q_BadRow) = some false)
    (qe_TooMany_BadWord : PySem.W.subIn K (.ref q_TooMany) (.ref q_BadWord) = some false)
    (qe_TooMany_SortError : PySem.W.subIn K (.ref q_TooMany) (.ref q_SortError) = some true)
    (qe_TooMany_TooMany : PySem.W.subIn K (.ref q_TooMany) (.ref q_TooMany) = some true)
    (qic_TooMany : excCB K q_TooMany = true)
    (z_ValueError : PySem.W.nsIn K mainGlobals "ValueError" = some none)
    (z_all : PySem.W.nsIn K mainGlobals "all" = some none)
    (z_bool : PySem.W.nsIn K mainGlobals "bool" = some none)
    (z_dict : PySem.W.nsIn K mainGlobals "dict" = some none)
    (z_enumerate : PySem.W.nsIn K mainGlobals "enumerate" = some none)
    (z_int : PySem.W.nsIn K mainGlobals "int" = some none)
    (z_isinstance : PySem.W.nsIn K mainGlobals "isinstance" = some none)
    (z_len : PySem.W.nsIn K mainGlobals "len" = some none)
    (z_list : PySem.W.nsIn K mainGlobals "list" = some none)
    (z_range : PySem.W.nsIn K mainGlobals "range" = some none)
    (z_reversed : PySem.W.nsIn K mainGlobals "reversed" = some none)
    (z_set : PySem.W.nsIn K mainGlobals "set" = some none)
    (z_sorted : PySem.W.nsIn K mainGlobals "sorted" = some none)
    (z_tuple : PySem.W.nsIn K mainGlobals "tuple" = some none)
    (y_MOST_CARDS : PySem.W.nsIn K mainGlobals "MOST_CARDS" = some (some (.int 7 tc_MOST_CARDS)))
    (y_MOST_WORDS : PySem.W.nsIn K mainGlobals "MOST_WORDS" = some (some (.int 5000 tc_MOST_WORDS)))
    (hdis : ([q_BadCards, q_BadGoal, q_BadRow, q_BadWord, q_SortError, q_TooMany] : List Addr).Nodup)
    (lnd : ([lp30] : List Addr).Nodup) :
    LamX.LawAtS l w K (L2.CX l.prog w) 9 63 "_law_script" mg fa h := by
  letI : CA := ⟨caOf K⟩
  letI : TBs := ⟨[(lp30, ((("law" : Str) ++ ".<locals>.") ++ "<lambda>"))]⟩
  have hdd : CAND ["BadCards", "BadGoal", "BadRow", "BadWord", "SortError", "TooMany"] := by
    unfold CAND
    simp only [List.map_cons, List.map_nil, show CA.at "BadCards" = q_BadCards from caOf_eq qa_BadCards, show CA.at "BadGoal" = q_BadGoal from caOf_eq qa_BadGoal, show CA.at "BadRow" = q_BadRow from caOf_eq qa_BadRow, show CA.at "BadWord" = q_BadWord from caOf_eq qa_BadWord, show CA.at "SortError" = q_SortError from caOf_eq qa_SortError, show CA.at "TooMany" = q_TooMany from caOf_eq qa_TooMany]
    exact hdis
  have e := hfa.symm.trans (PySem.W.mg_of X G a30)
  cases e
  have F0 : FunD K "_law_taken" "_law_taken" (defArgs (topS 40)) (defBody (topS 40)) (defScope (topS 40)) [] [] f0 _ := ⟨⟨_, _, _, _, _, _, _, _, _, _, rfl, l0, c0, .inl ⟨rfl, rfl⟩, .inl rfl⟩, k0⟩
  have F1 : FunD K "_law_pick" "_law_pick" (defArgs (topS 41)) (defBody (topS 41)) (defScope (topS 41)) [] [] f1 _ := ⟨⟨_, _, _, _, _, _, _, _, _, _, rfl, l1, c1, .inl ⟨rfl, rfl⟩, .inl rfl⟩, k1⟩
  have F2 : FunD K "_law_error" "_law_error" (defArgs (topS 42)) (defBody (topS 42)) (defScope (topS 42)) [] [] f2 _ := ⟨⟨_, _, _, _, _, _, _, _, _, _, rfl, l2, c2, .inl ⟨rfl, rfl⟩, .inl rfl⟩, k2⟩
  have F3 : FunD K "is_integer" "is_integer" (defArgs (topS 10)) (defBody (topS 10)) (defScope (topS 10)) [] [] f3 _ := ⟨⟨_, _, _, _, _, _, _, _, _, _, rfl, l3, c3, .inl ⟨rfl, rfl⟩, .inl rfl⟩, k3⟩
  have F4 : FunD K "is_from" "is_from" (defArgs (topS 11)) (defBody (topS 11)) (defScope (topS 11)) [] [] f4 _ := ⟨⟨_, _, _, _, _, _, _, _, _, _, rfl, l4, c4, .inl ⟨rfl, rfl⟩, .inl rfl⟩, k4⟩
  have F5 : FunD K "need_cards" "need_cards" (defArgs (topS 12)) (defBody (topS 12)) (defScope (topS 12)) [] [] f5 _ := ⟨⟨_, _, _, _, _, _, _, _, _, _, rfl, l5, c5, .inl ⟨rfl, rfl⟩, .inl rfl⟩, k5⟩
  have F6 : FunD K "need_word" "need_word" (defArgs (topS 15)) (defBody (topS 15)) (defScope (topS 15)) [.int 200] [] f6 _ := ⟨⟨_, _, _, _, _, _, _, _, _, _, rfl, l6, c6, .inr ⟨by simp, T6, _, _, _, rfl, t6, rfl, .cons ⟨_, rfl⟩ (.nil)⟩, .inl rfl⟩, k6⟩
  have F7 : FunD K "need_both" "need_both" (defArgs (topS 24)) (defBody (topS 24)) (defScope (topS 24)) [] [] f7 _ := ⟨⟨_, _, _, _, _, _, _, _, _, _, rfl, l7, c7, .inl ⟨rfl, rfl⟩, .inl rfl⟩, k7⟩
  have F8 : FunD K "exchanged" "exchanged" (defArgs (topS 17)) (defBody (topS 17)) (defScope (topS 17)) [] [] f8 _ := ⟨⟨_, _, _, _, _, _, _, _, _, _, rfl, l8, c8, .inl ⟨rfl, rfl⟩, .inl rfl⟩, k8⟩
  have F9 : FunD K "done" "done" (defArgs (topS 18)) (defBody (topS 18)) (defScope (topS 18)) [] [] f9 _ := ⟨⟨_, _, _, _, _, _, _, _, _, _, rfl, l9, c9, .inl ⟨rfl, rfl⟩, .inl rfl⟩, k9⟩
  have F10 : FunD K "run_left" "run_left" (defArgs (topS 19)) (defBody (topS 19)) (defScope (topS 19)) [] [] f10 _ := ⟨⟨_, _, _, _, _, _, _, _, _, _, rfl, l10, c10, .inl ⟨rfl, rfl⟩, .inl rfl⟩, k10⟩
  have F11 : FunD K "turned_row" "turned_row" (defArgs (topS 16)) (defBody (topS 16)) (defScope (topS 16)) [] [] f11 _ := ⟨⟨_, _, _, _, _, _, _, _, _, _, rfl, l11, c11, .inl ⟨rfl, rfl⟩, .inl rfl⟩, k11⟩
  have F12 : FunD K "end_of" "end_of" (defArgs (topS 26)) (defBody (topS 26)) (defScope (topS 26)) [] [] f12 _ := ⟨⟨_, _, _, _, _, _, _, _, _, _, rfl, l12, c12, .inl ⟨rfl, rfl⟩, .inl rfl⟩, k12⟩
  have F13 : FunD K "end" "end" (defArgs (topS 27)) (defBody (topS 27)) (defScope (topS 27)) [] [] f13 _ := ⟨⟨_, _, _, _, _, _, _, _, _, _, rfl, l13, c13, .inl ⟨rfl, rfl⟩, .inl rfl⟩, k13⟩
  have F14 : FunD K "are_alike" "are_alike" (defArgs (topS 28)) (defBody (topS 28)) (defScope (topS 28)) [] [] f14 _ := ⟨⟨_, _, _, _, _, _, _, _, _, _, rfl, l14, c14, .inl ⟨rfl, rfl⟩, .inl rfl⟩, k14⟩
  have F15 : FunD K "sorts_all" "sorts_all" (defArgs (topS 29)) (defBody (topS 29)) (defScope (topS 29)) [] [] f15 _ := ⟨⟨_, _, _, _, _, _, _, _, _, _, rfl, l15, c15, .inl ⟨rfl, rfl⟩, .inl rfl⟩, k15⟩
  have F16 : FunD K "pairs_out" "pairs_out" (defArgs (topS 20)) (defBody (topS 20)) (defScope (topS 20)) [] [] f16 _ := ⟨⟨_, _, _, _, _, _, _, _, _, _, rfl, l16, c16, .inl ⟨rfl, rfl⟩, .inl rfl⟩, k16⟩
  have F17 : FunD K "least_way" "least_way" (defArgs (topS 21)) (defBody (topS 21)) (defScope (topS 21)) [] [] f17 _ := ⟨⟨_, _, _, _, _, _, _, _, _, _, rfl, l17, c17, .inl ⟨rfl, rfl⟩, .inl rfl⟩, k17⟩
  have F18 : FunD K "least_word" "least_word" (defArgs (topS 30)) (defBody (topS 30)) (defScope (topS 30)) [] [] f18 _ := ⟨⟨_, _, _, _, _, _, _, _, _, _, rfl, l18, c18, .inl ⟨rfl, rfl⟩, .inl rfl⟩, k18⟩
  have F19 : FunD K "lacking" "lacking" (defArgs (topS 31)) (defBody (topS 31)) (defScope (topS 31)) [] [] f19 _ := ⟨⟨_, _, _, _, _, _, _, _, _, _, rfl, l19, c19, .inl ⟨rfl, rfl⟩, .inl rfl⟩, k19⟩
  have F20 : FunD K "is_row_of" "is_row_of" (defArgs (topS 13)) (defBody (topS 13)) (defScope (topS 13)) [] [] f20 _ := ⟨⟨_, _, _, _, _, _, _, _, _, _, rfl, l20, c20, .inl ⟨rfl, rfl⟩, .inl rfl⟩, k20⟩
  have F21 : FunD K "need_goal" "need_goal" (defArgs (topS 25)) (defBody (topS 25)) (defScope (topS 25)) [] [] f21 _ := ⟨⟨_, _, _, _, _, _, _, _, _, _, rfl, l21, c21, .inl ⟨rfl, rfl⟩, .inl rfl⟩, k21⟩
  have F22 : FunD K "reach_from" "reach_from" (defArgs (topS 36)) (defBody (topS 36)) (defScope (topS 36)) [] [] f22 _ := ⟨⟨_, _, _, _, _, _, _, _, _, _, rfl, l22, c22, .inl ⟨rfl, rfl⟩, .inl rfl⟩, k22⟩
  have F23 : FunD K "first_scattered" "first_scattered" (defArgs (topS 37)) (defBody (topS 37)) (defScope (topS 37)) [] [] f23 _ := ⟨⟨_, _, _, _, _, _, _, _, _, _, rfl, l23, c23, .inl ⟨rfl, rfl⟩, .inl rfl⟩, k23⟩
  have F24 : FunD K "scattered" "scattered" (defArgs (topS 38)) (defBody (topS 38)) (defScope (topS 38)) [] [] f24 _ := ⟨⟨_, _, _, _, _, _, _, _, _, _, rfl, l24, c24, .inl ⟨rfl, rfl⟩, .inl rfl⟩, k24⟩
  have F25 : FunD K "need_row" "need_row" (defArgs (topS 14)) (defBody (topS 14)) (defScope (topS 14)) [] [] f25 _ := ⟨⟨_, _, _, _, _, _, _, _, _, _, rfl, l25, c25, .inl ⟨rfl, rfl⟩, .inl rfl⟩, k25⟩
  have F26 : FunD K "steps_up" "steps_up" (defArgs (topS 32)) (defBody (topS 32)) (defScope (topS 32)) [] [] f26 _ := ⟨⟨_, _, _, _, _, _, _, _, _, _, rfl, l26, c26, .inl ⟨rfl, rfl⟩, .inl rfl⟩, k26⟩
  have F27 : FunD K "number_of_words" "number_of_words" (defArgs (topS 33)) (defBody (topS 33)) (defScope (topS 33)) [] [] f27 _ := ⟨⟨_, _, _, _, _, _, _, _, _, _, rfl, l27, c27, .inl ⟨rfl, rfl⟩, .inl rfl⟩, k27⟩
  have F28 : FunD K "count_words" "count_words" (defArgs (topS 34)) (defBody (topS 34)) (defScope (topS 34)) [] [] f28 _ := ⟨⟨_, _, _, _, _, _, _, _, _, _, rfl, l28, c28, .inl ⟨rfl, rfl⟩, .inl rfl⟩, k28⟩
  have F29 : FunD K "all_words" "all_words" (defArgs (topS 35)) (defBody (topS 35)) (defScope (topS 35)) [] [] f29 _ := ⟨⟨_, _, _, _, _, _, _, _, _, _, rfl, l29, c29, .inl ⟨rfl, rfl⟩, .inl rfl⟩, k29⟩
  have F30 : FunD K "law" "law" (defArgs (topS 43)) (defBody (topS 43)) (defScope (topS 43)) [] [] fa _ := ⟨⟨_, _, _, _, _, _, _, _, _, _, rfl, l30, c30, .inl ⟨rfl, rfl⟩, .inl rfl⟩, k30⟩
  refine ⟨_, [(lc30, lp30)], spDL K 1 fun C => runB 8 (b_lawL C), (List.forall_mem_cons.mpr ⟨lh30, (fun _ z => nomatch z)⟩), (List.forall_mem_cons.mpr ⟨le30, (fun _ z => nomatch z)⟩), (List.forall_mem_cons.mpr ⟨PySem.W.codeHd_of_K X ld30, (fun _ z => nomatch z)⟩), fun s v => F30.bindsA (ps := ["_law_script"]) (fun _ _ _ _ _ _ us hl => match us, hl with | [_], _ => rfl) s [v] rfl, fun H a ns hl _ hT hS => fun C => by letI : CLs := C; exact (law_start (List.forall_mem_cons.mpr ⟨LamX.TabS.nil (hT (lc30, lp30) (List.Mem.head _)), (fun _ z => nomatch z)⟩) hS (law_true hdd ns hl)), fun base _ _ hTB => ?_⟩
  have T : Txt l.prog w K mg base := ⟨⟨_, _, F0, PySem.W.mg_of X G a0, F0.bindsN fun _ _ _ _ _ _ us hl => match us, hl with | [_, _], _ => rfl⟩,
    ⟨_, _, F1, PySem.W.mg_of X G a1, F1.bindsN fun _ _ _ _ _ _ us hl => match us, hl with | [_, _], _ => rfl⟩,
    ⟨_, _, F2, PySem.W.mg_of X G a2, F2.bindsN fun _ _ _ _ _ _ us hl => match us, hl with | [_], _ => rfl⟩,
    ⟨_, _, F3, PySem.W.mg_of X G a3, F3.bindsN fun _ _ _ _ _ _ us hl => match us, hl with | [_], _ => rfl⟩,
    ⟨_, _, F4, PySem.W.mg_of X G a4, F4.bindsN fun _ _ _ _ _ _ us hl => match us, hl with | [_, _, _], _ => rfl⟩,
    ⟨_, _, F5, PySem.W.mg_of X G a5, F5.bindsN fun _ _ _ _ _ _ us hl => match us, hl with | [_], _ => rfl⟩,
    ⟨_, _, F6, PySem.W.mg_of X G a6, trivial, F6.binds1 2 0 (by simp) rfl fun _ _ _ _ _ _ _ us its h1 h2 => match us, its, h1, h2 with | [_, _], [_], _, _ => ⟨_, rfl, rfl⟩⟩,
    ⟨_, _, F7, PySem.W.mg_of X G a7, F7.bindsN fun _ _ _ _ _ _ us hl => match us, hl with | [_, _], _ => rfl⟩,
    ⟨_, _, F8, PySem.W.mg_of X G a8, F8.bindsN fun _ _ _ _ _ _ us hl => match us, hl with | [_, _], _ => rfl⟩,
    ⟨_, _, F9, PySem.W.mg_of X G a9, F9.bindsN fun _ _ _ _ _ _ us hl => match us, hl with | [_, _], _ => rfl⟩,
    ⟨_, _, F10, PySem.W.mg_of X G a10, F10.bindsN fun _ _ _ _ _ _ us hl => match us, hl with | [_, _, _], _ => rfl⟩,
    ⟨_, _, F11, PySem.W.mg_of X G a11, F11.bindsN fun _ _ _ _ _ _ us hl => match us, hl with | [_], _ => rfl⟩,
    ⟨_, _, F12, PySem.W.mg_of X G a12, F12.bindsN fun _ _ _ _ _ _ us hl => match us, hl with | [_, _], _ => rfl⟩,
    ⟨_, _, F13, PySem.W.mg_of X G a13, F13.bindsN fun _ _ _ _ _ _ us hl => match us, hl with | [_, _], _ => rfl⟩,
    ⟨_, _, F14, PySem.W.mg_of X G a14, F14.bindsN fun _ _ _ _ _ _ us hl => match us, hl with | [_, _, _], _ => rfl⟩,
    ⟨_, _, F15, PySem.W.mg_of X G a15, F15.bindsN fun _ _ _ _ _ _ us hl => match us, hl with | [_, _], _ => rfl⟩,
    ⟨_, _, F16, PySem.W.mg_of X G a16, F16.bindsN fun _ _ _ _ _ _ us hl => match us, hl with | [_], _ => rfl⟩,
    ⟨_, _, F17, PySem.W.mg_of X G a17, F17.bindsN fun _ _ _ _ _ _ us hl => match us, hl with | [_, _], _ => rfl⟩,
    ⟨_, _, F18, PySem.W.mg_of X G a18, F18.bindsN fun _ _ _ _ _ _ us hl => match us, hl with | [_, _], _ => rfl⟩,
    ⟨_, _, F19, PySem.W.mg_of X G a19, F19.bindsN fun _ _ _ _ _ _ us hl => match us, hl with | [_, _], _ => rfl⟩,
    ⟨_, _, F20, PySem.W.mg_of X G a20, F20.bindsN fun _ _ _ _ _ _ us hl => match us, hl with | [_, _], _ => rfl⟩,
    ⟨_, _, F21, PySem.W.mg_of X G a21, F21.bindsN fun _ _ _ _ _ _ us hl => match us, hl with | [_, _], _ => rfl⟩,
    ⟨_, _, F22, PySem.W.mg_of X G a22, F22.bindsN fun _ _ _ _ _ _ us hl => match us, hl with | [_, _], _ => rfl⟩,
    ⟨_, _, F23, PySem.W.mg_of X G a23, F23.bindsN fun _ _ _ _ _ _ us hl => match us, hl with | [_, _, _, _], _ => rfl⟩,
    ⟨_, _, F24, PySem.W.mg_of X G a24, F24.bindsN fun _ _ _ _ _ _ us hl => match us, hl with | [_, _, _], _ => rfl⟩,
    ⟨_, _, F25, PySem.W.mg_of X G a25, F25.bindsN fun _ _ _ _ _ _ us hl => match us, hl with | [_], _ => rfl⟩,
    ⟨_, _, F26, PySem.W.mg_of X G a26, F26.bindsN fun _ _ _ _ _ _ us hl => match us, hl with | [_], _ => rfl⟩,
    ⟨_, _, F27, PySem.W.mg_of X G a27, F27.bindsN fun _ _ _ _ _ _ us hl => match us, hl with | [_], _ => rfl⟩,
    ⟨_, _, F28, PySem.W.mg_of X G a28, F28.bindsN fun _ _ _ _ _ _ us hl => match us, hl with | [_], _ => rfl⟩,
    ⟨_, _, F29, PySem.W.mg_of X G a29, F29.bindsN fun _ _ _ _ _ _ us hl => match us, hl with | [_], _ => rfl⟩,
    ⟨_, _, F30, PySem.W.mg_of X G a30, F30.bindsN fun _ _ _ _ _ _ us hl => match us, hl with | [_], _ => rfl, ⟨lc30, lp30, rfl, hTB (lc30, lp30) (List.Mem.head _), List.Mem.head _, tab_unique lnd (List.Mem.head _)⟩⟩,
    PySem.W.mg_none_of X G z_ValueError,
    PySem.W.mg_none_of X G z_all,
    PySem.W.mg_none_of X G z_bool,
    PySem.W.mg_none_of X G z_dict,
    PySem.W.mg_none_of X G z_enumerate,
    PySem.W.mg_none_of X G z_int,
    PySem.W.mg_none_of X G z_isinstance,
    PySem.W.mg_none_of X G z_len,
    PySem.W.mg_none_of X G z_list,
    PySem.W.mg_none_of X G z_range,
    PySem.W.mg_none_of X G z_reversed,
    PySem.W.mg_none_of X G z_set,
    PySem.W.mg_none_of X G z_sorted,
    PySem.W.mg_none_of X G z_tuple,
    by rw [show CA.at "BadCards" = q_BadCards from caOf_eq qa_BadCards]; exact ⟨PySem.W.mg_of X G qa_BadCards, qk_BadCards, ⟨_, _, _, _, PySem.F.excBase_ValueError, qx_BadCards⟩, qs_BadCards, qt_BadCards⟩,
    by rw [show CA.at "BadGoal" = q_BadGoal from caOf_eq qa_BadGoal]; exact ⟨PySem.W.mg_of X G qa_BadGoal, qk_BadGoal, ⟨_, _, _, _, PySem.F.excBase_ValueError, qx_BadGoal⟩, qs_BadGoal, qt_BadGoal⟩,
    by rw [show CA.at "BadRow" = q_BadRow from caOf_eq qa_BadRow]; exact ⟨PySem.W.mg_of X G qa_BadRow, qk_BadRow, ⟨_, _, _, _, PySem.F.excBase_ValueError, qx_BadRow⟩, qs_BadRow, qt_BadRow⟩,
    by rw [show CA.at "BadWord" = q_BadWord from caOf_eq qa_BadWord]; exact ⟨PySem.W.mg_of X G qa_BadWord, qk_BadWord, ⟨_, _, _, _, PySem.F.excBase_ValueError, qx_BadWord⟩, qs_BadWord, qt_BadWord⟩,
    by rw [show CA.at "SortError" = q_SortError from caOf_eq qa_SortError]; exact ⟨PySem.W.mg_of X G qa_SortError, qk_SortError, ⟨_, _, _, _, PySem.F.excBase_ValueError, qx_SortError⟩, qs_SortError, qt_SortError⟩,
    by rw [show CA.at "TooMany" = q_TooMany from caOf_eq qa_TooMany]; exact ⟨PySem.W.mg_of X G qa_TooMany, oexB_of qo_TooMany qz_TooMany qs_TooMany qt_TooMany qk_TooMany, ⟨_, _, _, qf_TooMany, qh_TooMany, supinit_ok (oexB_of qo_TooMany qz_TooMany qs_TooMany qt_TooMany qk_TooMany) qn_TooMany ql_TooMany qc_TooMany qr1_TooMany.1 qr1_TooMany.2.1 qr1_TooMany.2.2.1 qd_TooMany qv_TooMany qw_TooMany qcc_TooMany qsu_TooMany qm_TooMany qb_TooMany qop_ qsn_ qtp_ qr2_TooMany.1 qr2_TooMany.2.1 qr2_TooMany.2.2.1 qr2_TooMany.2.2.2.1 qr3_TooMany qr4_TooMany (fun L => (qr5_TooMany L).1) (fun L => (qr5_TooMany L).2.1) (fun L => (qr5_TooMany L).2.2) qr1_TooMany.2.2.2 qr2_TooMany.2.2.2.2.1 qr2_TooMany.2.2.2.2.2.1 qr2_TooMany.2.2.2.2.2.2, .all qr6_TooMany⟩, xfB_ok qg_TooMany, qn_TooMany⟩,
    by rw [show CA.at "TooMany" = q_TooMany from caOf_eq qa_TooMany]; exact excC_ok qic_TooMany,
    by rw [show CA.at "BadCards" = q_BadCards from caOf_eq qa_BadCards]; exact exm_of qs_BadCards qi_BadCards qt_BadCards qe_BadCards_BadCards,
    by rw [show CA.at "BadCards" = q_BadCards from caOf_eq qa_BadCards, show CA.at "BadGoal" = q_BadGoal from caOf_eq qa_BadGoal]; exact exm_of qs_BadGoal qi_BadGoal qt_BadGoal qe_BadCards_BadGoal,
    by rw [show CA.at "BadCards" = q_BadCards from caOf_eq qa_BadCards, show CA.at "BadRow" = q_BadRow from caOf_eq qa_BadRow]; exact exm_of qs_BadRow qi_BadRow qt_BadRow qe_BadCards_BadRow,
    by rw [show CA.at "BadCards" = q_BadCards from caOf_eq qa_BadCards, show CA.at "BadWord" = q_BadWord from caOf_eq qa_BadWord]; exact exm_of qs_BadWord qi_BadWord qt_BadWord qe_BadCards_BadWord,
    by rw [show CA.at "BadCards" = q_BadCards from caOf_eq qa_BadCards, show CA.at "SortError" = q_SortError from caOf_eq qa_SortError]; exact exm_of qs_SortError qi_SortError qt_SortError qe_BadCards_SortError,
    by rw [show CA.at "BadCards" = q_BadCards from caOf_eq qa_BadCards, show CA.at "TooMany" = q_TooMany from caOf_eq qa_TooMany]; exact exm_of qs_TooMany qi_TooMany qt_TooMany qe_BadCards_TooMany,
    by rw [show CA.at "BadGoal" = q_BadGoal from caOf_eq qa_BadGoal, show CA.at "BadCards" = q_BadCards from caOf_eq qa_BadCards]; exact exm_of qs_BadCards qi_BadCards qt_BadCards qe_BadGoal_BadCards,
    by rw [show CA.at "BadGoal" = q_BadGoal from caOf_eq qa_BadGoal]; exact exm_of qs_BadGoal qi_BadGoal qt_BadGoal qe_BadGoal_BadGoal,
    by rw [show CA.at "BadGoal" = q_BadGoal from caOf_eq qa_BadGoal, show CA.at "BadRow" = q_BadRow from caOf_eq qa_BadRow]; exact exm_of qs_BadRow qi_BadRow qt_BadRow qe_BadGoal_BadRow,
    by rw [show CA.at "BadGoal" = q_BadGoal from caOf_eq qa_BadGoal, show CA.at "BadWord" = q_BadWord from caOf_eq qa_BadWord]; exact exm_of qs_BadWord qi_BadWord qt_BadWord qe_BadGoal_BadWord,
    by rw [show CA.at "BadGoal" = q_BadGoal from caOf_eq qa_BadGoal, show CA.at "SortError" = q_SortError from caOf_eq qa_SortError]; exact exm_of qs_SortError qi_SortError qt_SortError qe_BadGoal_SortError,
    by rw [show CA.at "BadGoal" = q_BadGoal from caOf_eq qa_BadGoal, show CA.at "TooMany" = q_TooMany from caOf_eq qa_TooMany]; exact exm_of qs_TooMany qi_TooMany qt_TooMany qe_BadGoal_TooMany,
    by rw [show CA.at "BadRow" = q_BadRow from caOf_eq qa_BadRow, show CA.at "BadCards" = q_BadCards from caOf_eq qa_BadCards]; exact exm_of qs_BadCards qi_BadCards qt_BadCards qe_BadRow_BadCards,
    by rw [show CA.at "BadRow" = q_BadRow from caOf_eq qa_BadRow, show CA.at "BadGoal" = q_BadGoal from caOf_eq qa_BadGoal]; exact exm_of qs_BadGoal qi_BadGoal qt_BadGoal qe_BadRow_BadGoal,
    by rw [show CA.at "BadRow" = q_BadRow from caOf_eq qa_BadRow]; exact exm_of qs_BadRow qi_BadRow qt_BadRow qe_BadRow_BadRow,
    by rw [show CA.at "BadRow" = q_BadRow from caOf_eq qa_BadRow, show CA.at "BadWord" = q_BadWord from caOf_eq qa_BadWord]; exact exm_of qs_BadWord qi_BadWord qt_BadWord qe_BadRow_BadWord,
    by rw [show CA.at "BadRow" = q_BadRow from caOf_eq qa_BadRow, show CA.at "SortError" = q_SortError from caOf_eq qa_SortError]; exact exm_of qs_SortError qi_SortError qt_SortError qe_BadRow_SortError,
    by rw [show CA.at "BadRow" = q_BadRow from caOf_eq qa_BadRow, show CA.at "TooMany" = q_TooMany from caOf_eq qa_TooMany]; exact exm_of qs_TooMany qi_TooMany qt_TooMany qe_BadRow_TooMany,
    by rw [show CA.at "BadWord" = q_BadWord from caOf_eq qa_BadWord, show CA.at "BadCards" = q_BadCards from caOf_eq qa_BadCards]; exact exm_of qs_BadCards qi_BadCards qt_BadCards qe_BadWord_BadCards,
    by rw [show CA.at "BadWord" = q_BadWord from caOf_eq qa_BadWord, show CA.at "BadGoal" = q_BadGoal from caOf_eq qa_BadGoal]; exact exm_of qs_BadGoal qi_BadGoal qt_BadGoal qe_BadWord_BadGoal,
    by rw [show CA.at "BadWord" = q_BadWord from caOf_eq qa_BadWord, show CA.at "BadRow" = q_BadRow from caOf_eq qa_BadRow]; exact exm_of qs_BadRow qi_BadRow qt_BadRow qe_BadWord_BadRow,
    by rw [show CA.at "BadWord" = q_BadWord from caOf_eq qa_BadWord]; exact exm_of qs_BadWord qi_BadWord qt_BadWord qe_BadWord_BadWord,
    by rw [show CA.at "BadWord" = q_BadWord from caOf_eq qa_BadWord, show CA.at "SortError" = q_SortError from caOf_eq qa_SortError]; exact exm_of qs_SortError qi_SortError qt_SortError qe_BadWord_SortError,
    by rw [show CA.at "BadWord" = q_BadWord from caOf_eq qa_BadWord, show CA.at "TooMany" = q_TooMany from caOf_eq qa_TooMany]; exact exm_of qs_TooMany qi_TooMany qt_TooMany qe_BadWord_TooMany,
    by rw [show CA.at "TooMany" = q_TooMany from caOf_eq qa_TooMany, show CA.at "BadCards" = q_BadCards from caOf_eq qa_BadCards]; exact exm_of qs_BadCards qi_BadCards qt_BadCards qe_TooMany_BadCards,
    by rw [show CA.at "TooMany" = q_TooMany from caOf_eq qa_TooMany, show CA.at "BadGoal" = q_BadGoal from caOf_eq qa_BadGoal]; exact exm_of qs_BadGoal qi_BadGoal qt_BadGoal qe_TooMany_BadGoal,
    by rw [show CA.at "TooMany" = q_TooMany from caOf_eq qa_TooMany, show CA.at "BadRow" = q_BadRow from caOf_eq qa_BadRow]; exact exm_of qs_BadRow qi_BadRow qt_BadRow qe_TooMany_BadRow,
    by rw [show CA.at "TooMany" = q_TooMany from caOf_eq qa_TooMany, show CA.at "BadWord" = q_BadWord from caOf_eq qa_BadWord]; exact exm_of qs_BadWord qi_BadWord qt_BadWord qe_TooMany_BadWord,
    by rw [show CA.at "TooMany" = q_TooMany from caOf_eq qa_TooMany, show CA.at "SortError" = q_SortError from caOf_eq qa_SortError]; exact exm_of qs_SortError qi_SortError qt_SortError qe_TooMany_SortError,
    by rw [show CA.at "TooMany" = q_TooMany from caOf_eq qa_TooMany]; exact exm_of qs_TooMany qi_TooMany qt_TooMany qe_TooMany_TooMany,
    ⟨_, PySem.W.mg_of X G y_MOST_CARDS⟩,
    ⟨_, PySem.W.mg_of X G y_MOST_WORDS⟩⟩
  exact fnok_ofL (body := b_lawL) (lam := lamT_law) F30 ⟨lc30, lp30, rfl, hTB (lc30, lp30) (List.Mem.head _), List.Mem.head _, tab_unique lnd (List.Mem.head _)⟩ sc_law rfl (k_law F30 T)
end LW
open PySem PySem.W PyProof.Rows L2 DL
set_option maxHeartbeats 0 in
theorem PySem.Challenge.cw_sturdysort_k09_words_refused_holds : PySem.Challenge.rw_sturdysort_k09_words_refused.Holds := by
  w_on; o_law; k_head; (case hw => w_witness2)
  k_fill
  refine LamX.walk_ofTs (l := PySem.Challenge.rw_sturdysort_k09_words_refused) (n := 63) (k := 9) (x := "_law_script") (CX := fun w => L2.CX (PySem.Challenge.rw_sturdysort_k09_words_refused).prog w) rfl (by decide) rfl ⟨rfl, by decide, by decide⟩ (fun w h Y => PySem.W.km_in_of Y) ?F (fun w H s e s' h => @DL.law_none ⟨[]⟩ _ _ _ _ _ _ h)
  case F =>
    intro w mg fa h Y KX G hmg
    have hT8 := PySem.W.km_tabs_of Y
    refine' LW.all_mk KX G hmg ?a0 ?l0 ?c0 ?k0 ?a1 ?l1 ?c1 ?k1 ?a2 ?l2 ?c2 ?k2 ?a3 ?l3 ?c3 ?k3 ?a4 ?l4 ?c4 ?k4 ?a5 ?l5 ?c5 ?k5 ?a6 ?l6 ?t6 ?c6 ?k6 ?a7 ?l7 ?c7 ?k7 ?a8 ?l8 ?c8 ?k8 ?a9 ?l9 ?c9 ?k9 ?a10 ?l10 ?c10 ?k10 ?a11 ?l11 ?c11 ?k11 ?a12 ?l12 ?c12 ?k12 ?a13 ?l13 ?c13 ?k13 ?a14 ?l14 ?c14 ?k14 ?a15 ?l15 ?c15 ?k15 ?a16 ?l16 ?c16 ?k16 ?a17 ?l17 ?c17 ?k17 ?a18 ?l18 ?c18 ?k18 ?a19 ?l19 ?c19 ?k19 ?a20 ?l20 ?c20 ?k20 ?a21 ?l21 ?c21 ?k21 ?a22 ?l22 ?c22 ?k22 ?a23 ?l23 ?c23 ?k23 ?a24 ?l24 ?c24 ?k24 ?a25 ?l25 ?c25 ?k25 ?a26 ?l26 ?c26 ?k26 ?a27 ?l27 ?c27 ?k27 ?a28 ?l28 ?c28 ?k28 ?a29 ?l29 ?c29 ?k29 ?a30 ?l30 ?c30 ?lb30 ?lq30 ?ld30 ?le30 ?lh30 ?k30 ?qa_BadCards ?qk_BadCards ?qx_BadCards ?qs_BadCards ?qt_BadCards ?qi_BadCards ?qa_BadGoal ?qk_BadGoal ?qx_BadGoal ?qs_BadGoal ?qt_BadGoal ?qi_BadGoal ?qa_BadRow ?qk_BadRow ?qx_BadRow ?qs_BadRow ?qt_BadRow ?qi_BadRow ?qa_BadWord ?qk_BadWord ?qx_BadWord ?qs_BadWord ?qt_BadWord ?qi_BadWord ?qa_SortError ?qk_SortError ?qx_SortError ?qs_SortError ?qt_SortError ?qi_SortError ?qa_TooMany ?qk_TooMany ?qs_TooMany ?qt_TooMany ?qi_TooMany ?qo_TooMany ?qz_TooMany ?qn_TooMany ?qg_TooMany ?qf_TooMany ?qh_TooMany ?ql_TooMany ?qc_TooMany ?qd_TooMany ?qv_TooMany ?qw_TooMany ?qcc_TooMany ?qsu_TooMany ?qm_TooMany ?qb_TooMany ?qr1_TooMany ?qr2_TooMany ?qr3_TooMany ?qr4_TooMany ?qr5_TooMany ?qr6_TooMany ?qop_ ?qsn_ ?qtp_ ?qe_BadCards_BadCards ?qe_BadCards_BadGoal ?qe_BadCards_BadRow ?qe_BadCards_BadWord ?qe_BadCards_SortError ?qe_BadCards_TooMany ?qe_BadGoal_BadCards ?qe_BadGoal_BadGoal ?qe_BadGoal_BadRow ?qe_BadGoal_BadWord ?qe_BadGoal_SortError ?qe_BadGoal_TooMany ?qe_BadRow_BadCards ?qe_BadRow_BadGoal ?qe_BadRow_BadRow ?qe_BadRow_BadWord ?qe_BadRow_SortError ?qe_BadRow_TooMany ?qe_BadWord_BadCards ?qe_BadWord_BadGoal ?qe_BadWord_BadRow ?qe_BadWord_BadWord ?qe_BadWord_SortError ?qe_BadWord_TooMany ?qe_TooMany_BadCards ?qe_TooMany_BadGoal ?qe_TooMany_BadRow ?qe_TooMany_BadWord ?qe_TooMany_SortError ?qe_TooMany_TooMany ?qic_TooMany ?z_ValueError ?z_all ?z_bool ?z_dict ?z_enumerate ?z_int ?z_isinstance ?z_len ?z_list ?z_range ?z_reversed ?z_set ?z_sorted ?z_tuple ?y_MOST_CARDS ?y_MOST_WORDS ?hdis ?lnd
    (case a0 => k_is); (case l0 => k_is); (case c0 => k_is); (case k0 => k_is); (case a1 => k_is); (case l1 => k_is); (case c1 => k_is); (case k1 => k_is); (case a2 => k_is); (case l2 => k_is); (case c2 => k_is); (case k2 => k_is); (case a3 => k_is); (case l3 => k_is); (case c3 => k_is); (case k3 => k_is); (case a4 => k_is); (case l4 => k_is); (case c4 => k_is); (case k4 => k_is); (case a5 => k_is); (case l5 => k_is); (case c5 => k_is); (case k5 => k_is); (case a6 => k_is); (case l6 => k_is); (case t6 => k_is); (case c6 => k_is); (case k6 => k_is); (case a7 => k_is); (case l7 => k_is); (case c7 => k_is); (case k7 => k_is); (case a8 => k_is); (case l8 => k_is); (case c8 => k_is); (case k8 => k_is); (case a9 => k_is); (case l9 => k_is); (case c9 => k_is); (case k9 => k_is); (case a10 => k_is); (case l10 => k_is); (case c10 => k_is); (case k10 => k_is); (case a11 => k_is); (case l11 => k_is); (case c11 => k_is); (case k11 => k_is); (case a12 => k_is); (case l12 => k_is); (case c12 => k_is); (case k12 => k_is); (case a13 => k_is); (case l13 => k_is); (case c13 => k_is); (case k13 => k_is); (case a14 => k_is); (case l14 => k_is); (case c14 => k_is); (case k14 => k_is); (case a15 => k_is); (case l15 => k_is); (case c15 => k_is); (case k15 => k_is); (case a16 => k_is); (case l16 => k_is); (case c16 => k_is); (case k16 => k_is); (case a17 => k_is); (case l17 => k_is); (case c17 => k_is); (case k17 => k_is); (case a18 => k_is); (case l18 => k_is); (case c18 => k_is); (case k18 => k_is); (case a19 => k_is); (case l19 => k_is); (case c19 => k_is); (case k19 => k_is); (case a20 => k_is); (case l20 => k_is); (case c20 => k_is); (case k20 => k_is); (case a21 => k_is); (case l21 => k_is); (case c21 => k_is); (case k21 => k_is); (case a22 => k_is); (case l22 => k_is); (case c22 => k_is); (case k22 => k_is); (case a23 => k_is); (case l23 => k_is); (case c23 => k_is); (case k23 => k_is); (case a24 => k_is); (case l24 => k_is); (case c24 => k_is); (case k24 => k_is); (case a25 => k_is); (case l25 => k_is); (case c25 => k_is); (case k25 => k_is); (case a26 => k_is); (case l26 => k_is); (case c26 => k_is); (case k26 => k_is); (case a27 => k_is); (case l27 => k_is); (case c27 => k_is); (case k27 => k_is); (case a28 => k_is); (case l28 => k_is); (case c28 => k_is); (case k28 => k_is); (case a29 => k_is); (case l29 => k_is); (case c29 => k_is); (case k29 => k_is); (case a30 => k_is); (case l30 => k_is); (case c30 => k_is); (case lb30 => k_is); (case lq30 => exact rfl); (case ld30 => kernel_rfl); (case le30 => kernel_rfl); (case lh30 => exact hT8 _ (by decide)); (case k30 => k_is); (case qa_BadCards => k_is); (case qk_BadCards => k_is); (case qx_BadCards => k_exc); (case qs_BadCards => k_is); (case qt_BadCards => k_is); (case qi_BadCards => k_is); (case qa_BadGoal => k_is); (case qk_BadGoal => k_is); (case qx_BadGoal => k_exc); (case qs_BadGoal => k_is); (case qt_BadGoal => k_is); (case qi_BadGoal => k_is); (case qa_BadRow => k_is); (case qk_BadRow => k_is); (case qx_BadRow => k_exc); (case qs_BadRow => k_is); (case qt_BadRow => k_is); (case qi_BadRow => k_is); (case qa_BadWord => k_is); (case qk_BadWord => k_is); (case qx_BadWord => k_exc); (case qs_BadWord => k_is); (case qt_BadWord => k_is); (case qi_BadWord => k_is); (case qa_SortError => k_is); (case qk_SortError => k_is); (case qx_SortError => k_exc); (case qs_SortError => k_is); (case qt_SortError => k_is); (case qi_SortError => k_is); (case qa_TooMany => k_is); (case qk_TooMany => k_is); (case qs_TooMany => k_is); (case qt_TooMany => k_is); (case qi_TooMany => k_is); (case qo_TooMany => kernel_rfl); (case qz_TooMany => k_is); (case qn_TooMany => k_is); (case qg_TooMany => kernel_rfl); (case qf_TooMany => k_is); (case qh_TooMany => k_is); (case ql_TooMany => k_is); (case qc_TooMany => k_is); (case qd_TooMany => k_is); (case qv_TooMany => exact rfl); (case qw_TooMany => kernel_rfl); (case qcc_TooMany => k_is); (case qsu_TooMany => kernel_rfl); (case qm_TooMany => kernel_rfl); (case qb_TooMany => k_is); (case qr1_TooMany => exact ⟨rfl, rfl, by decide, by decide⟩); (case qr2_TooMany => exact ⟨rfl, rfl, rfl, rfl, rfl, rfl, rfl⟩); (case qr3_TooMany => decide); (case qr4_TooMany => exact fun L => ⟨_, rfl⟩); (case qr5_TooMany => exact fun L => ⟨rfl, rfl, rfl⟩); (case qr6_TooMany => exact fun us hl => match us, hl with | [_, _], _ => rfl); (case qop_ => k_is); (case qsn_ => k_is); (case qtp_ => kernel_rfl); (case qe_BadCards_BadCards => first | rfl | k_is); (case qe_BadCards_BadGoal => first | rfl | k_is); (case qe_BadCards_BadRow => first | rfl | k_is); (case qe_BadCards_BadWord => first | rfl | k_is); (case qe_BadCards_SortError => first | rfl | k_is); (case qe_BadCards_TooMany => first | rfl | k_is); (case qe_BadGoal_BadCards => first | rfl | k_is); (case qe_BadGoal_BadGoal => first | rfl | k_is); (case qe_BadGoal_BadRow => first | rfl | k_is); (case qe_BadGoal_BadWord => first | rfl | k_is); (case qe_BadGoal_SortError => first | rfl | k_is); (case qe_BadGoal_TooMany => first | rfl | k_is); (case qe_BadRow_BadCards => first | rfl | k_is); (case qe_BadRow_BadGoal => first | rfl | k_is); (case qe_BadRow_BadRow => first | rfl | k_is); (case qe_BadRow_BadWord => first | rfl | k_is); (case qe_BadRow_SortError => first | rfl | k_is); (case qe_BadRow_TooMany => first | rfl | k_is); (case qe_BadWord_BadCards => first | rfl | k_is); (case qe_BadWord_BadGoal => first | rfl | k_is); (case qe_BadWord_BadRow => first | rfl | k_is); (case qe_BadWord_BadWord => first | rfl | k_is); (case qe_BadWord_SortError => first | rfl | k_is); (case qe_BadWord_TooMany => first | rfl | k_is); (case qe_TooMany_BadCards => first | rfl | k_is); (case qe_TooMany_BadGoal => first | rfl | k_is); (case qe_TooMany_BadRow => first | rfl | k_is); (case qe_TooMany_BadWord => first | rfl | k_is); (case qe_TooMany_SortError => first | rfl | k_is); (case qe_TooMany_TooMany => first | rfl | k_is); (case qic_TooMany => kernel_rfl); (case z_ValueError => k_is); (case z_all => k_is); (case z_bool => k_is); (case z_dict => k_is); (case z_enumerate => k_is); (case z_int => k_is); (case z_isinstance => k_is); (case z_len => k_is); (case z_list => k_is); (case z_range => k_is); (case z_reversed => k_is); (case z_set => k_is); (case z_sorted => k_is); (case z_tuple => k_is); (case y_MOST_CARDS => k_is); (case y_MOST_WORDS => k_is); (case hdis => decide); (case lnd => decide)
