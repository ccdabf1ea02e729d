import PyProof.Rows.All
import Wide.All
import OpenK.AllK
import Wide.FinOn
import HandS.ForMost
import HandS.ForExc
import HandS.Flow
import HandS.Wide
import HandS.IsInst
import HandS.Deep
import HandS.Conv
import HandS.TupAny
import HandS.TupMul
import HandS.Walk
import HandS.Zip
import HandS.CallSlots
import HandS.TryMany
import HandS.Defaults
import HandS.Lambda
import KE.GoesMore
import HandS.ExcCtx
import HandS.EndBits
import HandS.HeadEnd
import HandS.HeadHook4
import HandS.Head2
import HandS.Style
import PyProof.P3In
import PyProof.Rows.IntBool
import PyProof.CallStr
import KE.GoesEnum
import HandS.ExcInit
import HandS.ExcField
import HandS.ExcIs
import HandS.Small
import KE.KExcIs
import KE.KTupSum
import PyProof.StrLawsRepr
import HandS.TupSets
import KE.KDictPairs
import HandS.NoneIn
import KE.SortData
import PyProof.EqKinds
import PyProof.NeData
import KE.KDictWalk
import KE.KDictDisplayH
import HandS.SortInts
import HandS.Strs
import HandS.TupLe
import HandS.Text
import HandS.ReplaceLit
import OpenK.KMeth
import OpenK.KOps
import KE.KOpsOwn
import KE.KCallOwn
import HandS.Property
import HandS.SlotsOwn
import HandS.HeadHook3
import HandS.FStr
import KE.KSuper
import HandS.Star
import HandS.SuiteRaise
import HandS.ExcInitHot
import HandS.Finally
import HandS.ExcValue
import KE.DataFind
import HandS.GenList
import HandS.MakeKwOnly
import HandS.HeadWalk
import PyProof.RulesMatch
import KE.KIndexOf
import PySem.Challenge.RW_frankmarks_k33_plain_and_like
set_option Elab.async false
set_option linter.all false
set_option maxRecDepth 100000
namespace Fk
open PySem PySem.Spec PyProof.Rows L2
inductive D where
  | non | bl (b : Bool) | int (i : Int) | str (x : Str)
  | tup (xs : List D) | ktp (xs : List D) | lst (xs : List D) | dct (kvs : List (Key × D)) | ref (n : Nat) | scr (xs : List D) | exn (c : Str) (ns : List Str) (ds : List D)
inductive Cell where
  | lst (live : Bool) (xs : List D)
  | dK (kvs : List (Key × D))
  | dT (kvs : List (List Key × D))
  | ins (c : Str) (fs : List (Str × D))
  | fT (kvs : List (List Key × D))
  | fK (kvs : List (Key × D))
  | fn (q : Str) (d : D)
  | gone
abbrev Store := List Cell
abbrev Env := List (Option D)
inductive Out (α : Type) where
  | ok (a : α) (S : Store)
  | exc (c : Str) (fs : List (Str × D)) (S : Store)
  | stuck
namespace Out
def bind {α β : Type} : Out α → (α → Store → Out β) → Out β
  | .ok a S, f => f a S
  | .exc c fs S, _ => .exc c fs S
  | .stuck, _ => .stuck
@[simp] theorem ok_bind {α β : Type} (a : α) (S : Store) (f : α → Store → Out β) : (Out.ok a S).bind f = f a S := rfl
@[simp] theorem exc_bind {α β : Type} (c : Str) (fs : List (Str × D)) (S : Store) (f : α → Store → Out β) : (Out.exc c fs S : Out α).bind f = .exc c fs S := rfl
@[simp] theorem stuck_bind {α β : Type} (f : α → Store → Out β) : (Out.stuck : Out α).bind f = .stuck := rfl
end Out
abbrev SemE := Env → Store → Out D
abbrev SemT := Env → Store → Out Bool
abbrev SemA := Env → Store → Out (List D)
inductive OutS where
  | nx (ρ : Env) (S : Store)
  | rt (d : D) (S : Store)
  | bk (ρ : Env) (S : Store)
  | ct (ρ : Env) (S : Store)
  | exc (c : Str) (fs : List (Str × D)) (ρ : Env) (S : Store)
  | stuck
abbrev SemS := Env → Store → OutS
mutual
def closed (n : Nat) : D → Bool
  | .ref m => decide (m < n)
  | .tup xs => closedA n xs
  | .ktp xs => closedA n xs
  | .lst xs => closedA n xs
  | .scr xs => closedA n xs
  | .exn _ _ xs => closedA n xs
  | .dct kvs => closedK n kvs
  | _ => true
def closedA (n : Nat) : List D → Bool
  | [] => true
  | d :: ds => closed n d && closedA n ds
def closedK (n : Nat) : List (Key × D) → Bool
  | [] => true
  | (_, d) :: ds => closed n d && closedK n ds
end
def closedV {κ : Type} (n : Nat) (kvs : List (κ × D)) : Bool := closedA n (kvs.map (·.2))
def closedC (n : Nat) : Cell → Bool
  | .lst _ xs => closedA n xs
  | .dK kvs => closedV n kvs
  | .dT kvs => closedV n kvs
  | .ins _ fs => closedV n fs
  | .fT kvs => closedV n kvs
  | .fK kvs => closedV n kvs
  | .fn _ d => closed n d
  | .gone => true
theorem closedA_append (n : Nat) : ∀ xs ys : List D, closedA n (xs ++ ys) = (closedA n xs && closedA n ys)
  | [], ys => by simp [closedA]
  | x :: xs, ys => by rw [List.cons_append, closedA, closedA, closedA_append n xs ys, Bool.and_assoc]
theorem closedA_mem {n : Nat} : ∀ {xs : List D}, closedA n xs = true ↔ ∀ x ∈ xs, closed n x = true
  | [] => by simp [closedA]
  | x :: xs => by rw [closedA, Bool.and_eq_true, closedA_mem]; simp
mutual
theorem closed_mono {n m : Nat} (h : n ≤ m) : ∀ {d : D}, closed n d = true → closed m d = true
  | .ref k, c => by
    simp only [closed, decide_eq_true_eq] at c ⊢
    omega
  | .tup xs, c => by
    simp only [closed] at c ⊢
    exact closedA_mono h c
  | .ktp xs, c => by
    simp only [closed] at c ⊢
    exact closedA_mono h c
  | .lst xs, c => by
    simp only [closed] at c ⊢
    exact closedA_mono h c
  | .scr xs, c => by
    simp only [closed] at c ⊢
    exact closedA_mono h c
  | .exn _ _ xs, c => by
    simp only [closed] at c ⊢
    exact closedA_mono h c
  | .dct kvs, c => by
    simp only [closed] at c ⊢
    exact closedKm h c
  | .non, _ => by simp [closed]
  | .bl _, _ => by simp [closed]
  | .int _, _ => by simp [closed]
  | .str _, _ => by simp [closed]
theorem closedA_mono {n m : Nat} (h : n ≤ m) : ∀ {ds : List D}, closedA n ds = true → closedA m ds = true
  | [], _ => by simp [closedA]
  | d :: ds, c => by
    simp only [closedA, Bool.and_eq_true] at c ⊢
    exact ⟨closed_mono h c.1, closedA_mono h c.2⟩
theorem closedKm {n m : Nat} (h : n ≤ m) : ∀ {ds : List (Key × D)}, closedK n ds = true → closedK m ds = true
  | [], _ => by simp [closedK]
  | (k, d) :: ds, c => by
    simp only [closedK, Bool.and_eq_true] at c ⊢
    exact ⟨closed_mono h c.1, closedKm h c.2⟩
end
theorem closedK_eq (n : Nat) : ∀ kvs : List (Key × D), closedK n kvs = closedA n (kvs.map (·.2))
  | [] => by simp [closedK, closedA]
  | (k, d) :: r => by rw [closedK, List.map_cons, closedA, closedK_eq n r]
@[simp] theorem closed_int (n : Nat) (i : Int) : closed n (.int i) = true := by simp [closed]
@[simp] theorem closed_bl (n : Nat) (i : Bool) : closed n (.bl i) = true := by simp [closed]
@[simp] theorem closed_str (n : Nat) (i : Str) : closed n (.str i) = true := by simp [closed]
@[simp] theorem closed_non (n : Nat) : closed n .non = true := by simp [closed]
@[simp] theorem closed_tup (n : Nat) (xs : List D) : closed n (.tup xs) = closedA n xs := by simp [closed]
@[simp] theorem closed_lst (n : Nat) (xs : List D) : closed n (.lst xs) = closedA n xs := by simp [closed]
@[simp] theorem closed_ktp (n : Nat) (xs : List D) : closed n (.ktp xs) = closedA n xs := by simp [closed]
@[simp] theorem closedA_nil (n : Nat) : closedA n [] = true := by simp [closedA]
@[simp] theorem closedA_cons (n : Nat) (x : D) (xs : List D) : closedA n (x :: xs) = (closed n x && closedA n xs) := by simp [closedA]
@[simp] theorem closedA_ints (n : Nat) (ns : List Int) : closedA n (ns.map D.int) = true := closedA_mem.mpr fun x h => by
  obtain ⟨i, _, rfl⟩ := List.mem_map.mp h
  simp
/-- at a: a caught exception of the class at C, its dict -/
def xo (a C : Addr) (d : Option Addr) : HO := .ext fun h => ∃ oe : Obj, h.get? a = some oe ∧ oe.cls = .ref C ∧ oe.dict = d ∧ ∃ vs, oe.data = .fields vs
/-- a tuple; or one whose object is known, of things of the heap -/
def Tp (F : Hp) (a : Addr) (vs : List V) : Prop := F a = some (.tup vs) ∨ ∃ o b ws, F a = some (.frz o (.tup vs)) ∧ vs = V.ref b :: ws
theorem Tp.of {F : Hp} {a : Addr} {vs : List V} (h : F a = some (.tup vs)) : Tp F a vs := .inl h
theorem Tp.same {F F' : Hp} {a : Addr} {vs : List V} (h : Tp F a vs) (e : Same F F') : Tp F' a vs := h.imp (e _ _) fun ⟨o, b, ws, z, z2⟩ => ⟨o, b, ws, e _ _ z, z2⟩
theorem Tp.sq {K : PySem.W.Frag} {F : Hp} {a : Addr} {vs : List V} (h : Tp F a vs) : SqT K F a vs := .inl (h.imp id fun ⟨o, _, _, z, _⟩ => ⟨o, z⟩)
theorem Tp.ex {F : Hp} {a : Addr} {vs : List V} (h : Tp F a vs) (n : ∀ b ws, vs ≠ V.ref b :: ws) : F a = some (.tup vs) := h.elim id fun ⟨_, b, ws, _, z⟩ => absurd z (n b ws)
theorem Tp.exI {F : Hp} {a : Addr} {ks : List Int} (h : Tp F a (ks.map V.int)) : F a = some (.tup (ks.map V.int)) := h.ex fun b ws z => by
  cases ks <;> cases z
mutual
inductive Rel (K : PySem.W.Frag) (F : Hp) (ι : List Addr) : V → D → Prop
  | non : Rel K F ι .non .non
  | bl (b : Bool) : Rel K F ι (.bl b) (.bl b)
  | int (i : Int) : Rel K F ι (.int i) (.int i)
  | str (x : Str) : Rel K F ι (.str x) (.str x)
  | tp {a : Addr} {vs : List V} {ds : List D} : Tp F a vs → RelAll K F ι vs ds → Rel K F ι (.ref a) (.tup ds)
  | ktp {a : Addr} {o : Obj} {vs : List V} {ds : List D} : F a = some (.frz o (.tup vs)) → o.dict = none → (∃ b ws, vs = V.ref b :: ws) → RelAll K F ι vs ds → Rel K F ι (.ref a) (.ktp ds)
  | lst {a : Addr} {vs : List V} {ds : List D} : F a = some (.lst vs) → RelAll K F ι vs ds → Rel K F ι (.ref a) (.lst ds)
  | scr {a : Addr} {vs : List V} {ds : List D} : SqL K F a vs → RelAll K F ι vs ds → Rel K F ι (.ref a) (.scr ds)
  | dct {a : Addr} {kvs : List (Key × V)} {kds : List (Key × D)} : F a = some (.dK kvs) → kvs.map (·.1) = kds.map (·.1) → RelAll K F ι (kvs.map (·.2)) (kds.map (·.2)) → Rel K F ι (.ref a) (.dct kds)
  | ref {n : Nat} {a : Addr} : ι[n]? = some a → Rel K F ι (.ref a) (.ref n)
  | exn0 {a C : Addr} {c : Str} : F a = some (xo a C none) → PySem.W.nsIn K mainGlobals c = some (some (.ref C)) → Rel K F ι (.ref a) (.exn c [] [])
  | exn {a C dx : Addr} {c : Str} {fv : List (Str × V)} {ns : List Str} {ds : List D} : F a = some (xo a C (some dx)) → PySem.W.nsIn K mainGlobals c = some (some (.ref C)) → F dx = some (.xd fv) → fv.map (·.1) = ns → RelAll K F ι (fv.map (·.2)) ds → Rel K F ι (.ref a) (.exn c ns ds)
inductive RelAll (K : PySem.W.Frag) (F : Hp) (ι : List Addr) : List V → List D → Prop
  | nil : RelAll K F ι [] []
  | cons {v : V} {vs : List V} {d : D} {ds : List D} : Rel K F ι v d → RelAll K F ι vs ds → RelAll K F ι (v :: vs) (d :: ds)
end
theorem Rel.tup {K : PySem.W.Frag} {F : Hp} {ι : List Addr} {a : Addr} {vs : List V} {ds : List D} (h : F a = some (.tup vs)) (r : RelAll K F ι vs ds) : Rel K F ι (.ref a) (.tup ds) := .tp (.inl h) r
structure RelKV {κ : Type} (K : PySem.W.Frag) (F : Hp) (ι : List Addr) (kvs : List (κ × V)) (kds : List (κ × D)) : Prop where
  ks : kvs.map (·.1) = kds.map (·.1)
  vs : RelAll K F ι (kvs.map (·.2)) (kds.map (·.2))
/-- the frozen part and the cells' places have grown -/
structure Ext (F : Hp) (ι : List Addr) (F' : Hp) (ι' : List Addr) : Prop where
  same : Same F F'
  pre : ι <+: ι'
theorem Ext.refl (F : Hp) (ι : List Addr) : Ext F ι F ι := ⟨Same.refl F, List.prefix_rfl⟩
theorem Ext.trans {F F1 F2 : Hp} {ι ι1 ι2 : List Addr} (a : Ext F ι F1 ι1) (b : Ext F1 ι1 F2 ι2) : Ext F ι F2 ι2 := ⟨a.same.trans b.same, a.pre.trans b.pre⟩
mutual
theorem Rel.mono0 {K : PySem.W.Frag} {F F' : Hp} {ι ι' : List Addr} (x : Ext F ι F' ι') : ∀ {v : V} {d : D}, Rel K F ι v d → Rel K F' ι' v d
  | _, _, .non => .non
  | _, _, .bl b => .bl b
  | _, _, .int i => .int i
  | _, _, .str y => .str y
  | _, _, .tp h r => .tp (h.same x.same) (RelAll.mono0 x r)
  | _, _, .ktp h d l r => .ktp (x.same _ _ h) d l (RelAll.mono0 x r)
  | _, _, .lst h r => .lst (x.same _ _ h) (RelAll.mono0 x r)
  | _, _, .scr h r => .scr (x.same.seq h) (RelAll.mono0 x r)
  | _, _, .dct h k r => .dct (x.same _ _ h) k (RelAll.mono0 x r)
  | _, _, .exn0 h k => .exn0 (x.same _ _ h) k
  | _, _, .exn h k h2 e r => .exn (x.same _ _ h) k (x.same _ _ h2) e (RelAll.mono0 x r)
  | _, _, .ref h => .ref (by
      obtain ⟨t, rfl⟩ := x.pre
      rw [List.getElem?_append_left (List.getElem?_eq_some_iff.mp h).1]
      exact h)
theorem RelAll.mono0 {K : PySem.W.Frag} {F F' : Hp} {ι ι' : List Addr} (x : Ext F ι F' ι') : ∀ {vs : List V} {ds : List D}, RelAll K F ι vs ds → RelAll K F' ι' vs ds
  | _, _, .nil => .nil
  | _, _, .cons h r => .cons (Rel.mono0 x h) (RelAll.mono0 x r)
end
/-- what stands by itself: no tuple (such may be frozen at any time), no table of code objects (such grow) -/
def Kp : HO → Prop
  | .tup _ => False
  | .tbl _ => False
  | _ => True
/-- .. and nothing else of the heap has changed -/
structure Step (F : Hp) (ι : List Addr) (H : Hp) (F' : Hp) (ι' : List Addr) (H' : Hp) : Prop extends Ext F ι F' ι' where
  keep : ∀ b o, H b = some o → F b = none → b ∉ ι → Kp o → H' b = some o ∧ F' b = none ∧ b ∉ ι'
  dom : ∀ b, H' b = none → H b = none
theorem Step.refl (F : Hp) (ι : List Addr) (H : Hp) : Step F ι H F ι H := ⟨Ext.refl F ι, fun _ _ a b c _ => ⟨a, b, c⟩, fun _ h => h⟩
theorem Step.trans {F F1 F2 H H1 H2 : Hp} {ι ι1 ι2 : List Addr} (a : Step F ι H F1 ι1 H1) (b : Step F1 ι1 H1 F2 ι2 H2) : Step F ι H F2 ι2 H2 :=
  ⟨a.toExt.trans b.toExt, fun c o h1 h2 h3 h4 => let ⟨k1, k2, k3⟩ := a.keep c o h1 h2 h3 h4; b.keep c o k1 k2 k3 h4, fun c h => a.dom c (b.dom c h)⟩
theorem Rel.mono {K : PySem.W.Frag} {F F' H H' : Hp} {ι ι' : List Addr} (x : Step F ι H F' ι' H') {v : V} {d : D} (r : Rel K F ι v d) : Rel K F' ι' v d := r.mono0 x.toExt
theorem RelAll.mono {K : PySem.W.Frag} {F F' H H' : Hp} {ι ι' : List Addr} (x : Step F ι H F' ι' H') {v : List V} {d : List D} (r : RelAll K F ι v d) : RelAll K F' ι' v d := r.mono0 x.toExt
section
variable {K : PySem.W.Frag} {F : Hp} {ι : List Addr}
theorem RelAll.length : ∀ {vs : List V} {ds : List D}, RelAll K F ι vs ds → vs.length = ds.length
  | _, _, .nil => rfl
  | _, _, .cons _ r => by rw [List.length_cons, List.length_cons, r.length]
theorem RelAll.get : ∀ {vs : List V} {ds : List D} {i : Nat} {d : D}, RelAll K F ι vs ds → ds[i]? = some d → ∃ v, vs[i]? = some v ∧ Rel K F ι v d
  | _, _, _, _, .nil, h => by simp at h
  | _, _, 0, _, .cons r _, h => by
    simp at h
    subst h
    exact ⟨_, rfl, r⟩
  | _, _, i + 1, _, .cons _ t, h => by
    obtain ⟨v, a, b⟩ := RelAll.get (i := i) t (by simpa using h)
    exact ⟨v, by simpa using a, b⟩
theorem RelAll.getV : ∀ {vs : List V} {ds : List D} {i : Nat} {v : V}, RelAll K F ι vs ds → vs[i]? = some v → ∃ d, ds[i]? = some d ∧ Rel K F ι v d
  | _, _, _, _, .nil, h => by simp at h
  | _, _, 0, _, .cons r _, h => by
    simp at h
    subst h
    exact ⟨_, rfl, r⟩
  | _, _, i + 1, _, .cons _ t, h => by
    obtain ⟨v, a, b⟩ := RelAll.getV (i := i) t (by simpa using h)
    exact ⟨v, by simpa using a, b⟩
theorem RelAll.append : ∀ {vs ws : List V} {ds es : List D}, RelAll K F ι vs ds → RelAll K F ι ws es → RelAll K F ι (vs ++ ws) (ds ++ es)
  | _, _, _, _, .nil, s => s
  | _, _, _, _, .cons r t, s => .cons r (RelAll.append t s)
theorem RelAll.take : ∀ {vs : List V} {ds : List D} (n : Nat), RelAll K F ι vs ds → RelAll K F ι (vs.take n) (ds.take n)
  | _, _, 0, _ => .nil
  | _, _, _ + 1, .nil => .nil
  | _, _, n + 1, .cons r t => .cons r (RelAll.take n t)
theorem RelAll.drop : ∀ {vs : List V} {ds : List D} (n : Nat), RelAll K F ι vs ds → RelAll K F ι (vs.drop n) (ds.drop n)
  | _, _, 0, r => r
  | _, _, _ + 1, .nil => .nil
  | _, _, n + 1, .cons _ t => RelAll.drop n t
theorem RelAll.set {v : V} {d : D} (r : Rel K F ι v d) : ∀ {vs : List V} {ds : List D} (n : Nat), RelAll K F ι vs ds → RelAll K F ι (vs.set n v) (ds.set n d)
  | _, _, _, .nil => .nil
  | _, _, 0, .cons _ t => .cons r t
  | _, _, n + 1, .cons q t => .cons q (RelAll.set r n t)
theorem RelAll.dropLast : ∀ {vs : List V} {ds : List D}, RelAll K F ι vs ds → RelAll K F ι vs.dropLast ds.dropLast
  | _, _, .nil => .nil
  | _, _, .cons _ .nil => .nil
  | _, _, .cons r (.cons q t) => .cons r (RelAll.dropLast (.cons q t))
theorem RelAll.reverse : ∀ {vs : List V} {ds : List D}, RelAll K F ι vs ds → RelAll K F ι vs.reverse ds.reverse
  | _, _, .nil => .nil
  | _, _, .cons r t => by
    rw [List.reverse_cons, List.reverse_cons]
    exact RelAll.append (RelAll.reverse t) (.cons r .nil)
theorem RelAll.one {v : V} {d : D} (r : Rel K F ι v d) : RelAll K F ι [v] [d] := .cons r .nil
end
def codeOf (K : PySem.W.Frag) (f : Addr) : Option Value := match K.lookup f with
  | some ⟨_, _, .func fd, _⟩ => some fd.code
  | _ => none
def tabAt (K : PySem.W.Frag) (c : Addr) : Option Addr := match K.lookup c with
  | some ⟨_, _, .fields vs, _⟩ => (match (vs[11]? : Option Value) with
    | some (Value.ref P) => (match K.lookup P with
      | none => some P
      | some _ => none)
    | _ => none)
  | _ => none
def tabOf (K : PySem.W.Frag) (x : Str) : List (Addr × Addr × Str) := match PySem.W.nsIn K mainGlobals x with
  | some (some (.ref f)) => (match codeOf K f with
    | some (.ref c) => (match tabAt K c with
      | some P => [(c, P, x ++ ".<locals>." ++ "<lambda>")]
      | none => [])
    | _ => [])
  | _ => []
def tabN : List Str := ["law", "_law_among_right", "_law_refused"]
def tabsK (K : PySem.W.Frag) : List (Addr × Addr × Str) := tabN.flatMap (tabOf K)
/-- the tables as they are used: what they tell bears the right names -/
def Tb (K : PySem.W.Frag) (H : Hp) : Prop := ∀ p ∈ tabsK K, LamX.TabS H p.2.1 p.2.2
theorem Tb.ext {K : PySem.W.Frag} {H H' : Hp} (t : Tb K H) (e : ∀ b o, H b = some o → H' b = some o) : Tb K H' := fun p hp => (t p hp).ext e
def Cp : HO → Prop
  | .tbl _ => False
  | .ext _ => False
  | _ => True
theorem Tb.upd {K : PySem.W.Frag} {H : Hp} (t : Tb K H) {a : Addr} {o o' : HO} (h : H a = some o') (c : Cp o') : Tb K (L2.upd H a o) := fun p hp => by
  obtain ⟨ps, h1, h2, h3⟩ := t p hp
  have ne : ∀ {b u}, H b = some u → ¬ Cp u → b ≠ a := fun {b u} e n z => by
    subst z
    rw [h] at e
    cases e
    exact n c
  refine ⟨ps, by rw [upd_ne (ne h1 id)]; exact h1, h2, fun pos cv hc => ?_⟩
  obtain ⟨q, e1, e2⟩ := h3 pos cv hc
  exact ⟨q, e1, by rw [upd_ne (ne e2 id)]; exact e2⟩
/-- a lambda as it is written -/
structure LamD where
  params : Arguments
  body : Expr
  scope : Scope
/-- the lambda that the def q hands on as a keyword: try: return [.., o.m(.., k=lambda ..)] -/
def lamK (K : PySem.W.Frag) (q : Str) : Option LamD := match PySem.W.nsIn K mainGlobals q with
  | some (some (.ref f)) => (match K.lookup f with
    | some ⟨_, _, .func fd, _⟩ => (match fd.body with
      | .stmts [.Try [.Return (some (.List [_, .Call _ _ [⟨_, .Lambda ps bd sc _, _⟩] _] _)) _] _ _ _ _] => some ⟨ps, bd, sc⟩
      | _ => none)
    | _ => none)
  | _ => none
/-- the made lambda: f, its closure's one cell c that holds v, its code object c' -/
def FnIs (K : PySem.W.Frag) (F : Hp) (f : Addr) (q : Str) (v : V) : Prop := ∃ (L : LamD) (cap : Str) (c c' : Addr) (pm ct : Value) (oc : Obj) (u : Value), lamK K q = some L ∧ (cap, NameKind.free) ∈ L.scope.names ∧
  F f = some (.frz (PySem.W.kla_obj "<lambda>" (q ++ ".<locals>." ++ "<lambda>") L.params L.body L.scope [(cap, c)] pm c' ct) (.own f)) ∧ F c = some (.frz oc (.own c)) ∧ oc.data = .cell (some u) ∧ RelV v u ∧ F c' = some (LamX.CodeO c' (q ++ ".<locals>." ++ "<lambda>"))
theorem FnIs.mono {K : PySem.W.Frag} {F F' : Hp} {f : Addr} {q : Str} {v : V} (h : FnIs K F f q v) (s : ∀ b o, F b = some o → F' b = some o) : FnIs K F' f q v := by
  obtain ⟨L, cap, c, c', pm, ct, oc, u, h1, h0, h2, h3, h4, h5, h6⟩ := h
  exact ⟨L, cap, c, c', pm, ct, oc, u, h1, h0, s _ _ h2, s _ _ h3, h4, h5, s _ _ h6⟩
def CellOk (K : PySem.W.Frag) (mg : Str → Option Value) (F : Hp) (ι : List Addr) (H : Hp) (a : Addr) : Cell → Prop
  | .lst true ds => ∃ vs, H a = some (.lst vs) ∧ RelAll K F ι vs ds ∧ F a = none
  | .lst false ds => ∃ vs, F a = some (.lst vs) ∧ RelAll K F ι vs ds
  | .dK kds => ∃ kvs, H a = some (.dK kvs) ∧ RelKV K F ι kvs kds ∧ F a = none
  | .dT kds => ∃ kvs, H a = some (.dT kvs) ∧ RelKV K F ι kvs kds ∧ F a = none
  | .ins c fs => ∃ C dx fv, mg c = some (.ref C) ∧ H a = some (.ins C dx fv) ∧ RelKV K F ι fv fs ∧ F a = none
  | .fT kds => ∃ o kvs, F a = some (.frz o (.dT kvs)) ∧ RelKV K F ι kvs kds
  | .fK kds => ∃ o kvs, F a = some (.frz o (.dK kvs)) ∧ RelKV K F ι kvs kds
  | .fn q d => ∃ v, FnIs K F a q v ∧ Rel K F ι v d
  | .gone => ∃ (o : Obj) (fd : FuncData), o.data = .func fd ∧ F a = some (.frz o (.own a))
structure Sim (K : PySem.W.Frag) (mg : Str → Option Value) (F : Hp) (ι : List Addr) (S : Store) (H : Hp) : Prop where
  sub : Same F H
  len : ι.length = S.length
  nd : ι.Nodup
  cell : ∀ (n : Nat) (a : Addr) (c : Cell), ι[n]? = some a → S[n]? = some c → CellOk K mg F ι H a c
  cl : ∀ (n : Nat) (c : Cell), S[n]? = some c → closedC n c = true
  tab : Tb K H
  nt : ∀ b ps, F b ≠ some (.tbl ps)
  tt : ∀ b ps, H b = some (.tbl ps) → ∃ p ∈ tabsK K, p.2.1 = b
section
variable {K : PySem.W.Frag} {mg : Str → Option Value} {F F' : Hp} {ι ι' : List Addr} {S : Store} {H H' : Hp}
theorem CellOk.there {a : Addr} {c : Cell} (sub : Same F H) (h : CellOk K mg F ι H a c) : ∃ o, H a = some o := by
  cases c with
  | lst b ds =>
    cases b with
    | true => obtain ⟨vs, h, _⟩ := h; exact ⟨_, h⟩
    | false => obtain ⟨vs, h, _⟩ := h; exact ⟨_, sub _ _ h⟩
  | dK kds => obtain ⟨vs, h, _⟩ := h; exact ⟨_, h⟩
  | dT kds => obtain ⟨vs, h, _⟩ := h; exact ⟨_, h⟩
  | ins c fs => obtain ⟨_, _, _, _, h, _⟩ := h; exact ⟨_, h⟩
  | fT kds => obtain ⟨_, _, h, _⟩ := h; exact ⟨_, sub _ _ h⟩
  | fK kds => obtain ⟨_, _, h, _⟩ := h; exact ⟨_, sub _ _ h⟩
  | fn q d => obtain ⟨_, ⟨_, _, _, _, _, _, _, _, _, _, h, _⟩, _⟩ := h; exact ⟨_, sub _ _ h⟩
  | gone => obtain ⟨_, _, _, h⟩ := h; exact ⟨_, sub _ _ h⟩
theorem CellOk.cp {a : Addr} {c : Cell} (sub : Same F H) (h : CellOk K mg F ι H a c) : ∃ o, H a = some o ∧ Cp o := by
  cases c with
  | lst b ds =>
    cases b with
    | true => obtain ⟨vs, h, _⟩ := h; exact ⟨_, h, trivial⟩
    | false => obtain ⟨vs, h, _⟩ := h; exact ⟨_, sub _ _ h, trivial⟩
  | dK kds => obtain ⟨vs, h, _⟩ := h; exact ⟨_, h, trivial⟩
  | dT kds => obtain ⟨vs, h, _⟩ := h; exact ⟨_, h, trivial⟩
  | ins c fs => obtain ⟨_, _, _, _, h, _⟩ := h; exact ⟨_, h, trivial⟩
  | fT kds => obtain ⟨_, _, h, _⟩ := h; exact ⟨_, sub _ _ h, trivial⟩
  | fK kds => obtain ⟨_, _, h, _⟩ := h; exact ⟨_, sub _ _ h, trivial⟩
  | fn q d => obtain ⟨_, ⟨_, _, _, _, _, _, _, _, _, _, h, _⟩, _⟩ := h; exact ⟨_, sub _ _ h, trivial⟩
  | gone => obtain ⟨_, _, _, h⟩ := h; exact ⟨_, sub _ _ h, trivial⟩
theorem nt_upd {p : Addr} {o : HO} (h : ∀ b ps, F b ≠ some (.tbl ps)) (ho : ∀ ps, o ≠ .tbl ps) : ∀ b ps, upd F p o b ≠ some (.tbl ps) := fun b ps z => by
  by_cases hb : b = p
  · subst hb
    rw [upd_same] at z
    exact ho ps (Option.some.inj z)
  · rw [upd_ne hb] at z
    exact h b ps z
theorem tt_upd {p : Addr} {o : HO} (h : ∀ b ps, H b = some (.tbl ps) → ∃ p ∈ tabsK K, p.2.1 = b) (ho : ∀ ps, o ≠ .tbl ps) : ∀ b ps, upd H p o b = some (.tbl ps) → ∃ p ∈ tabsK K, p.2.1 = b := fun b ps z => by
  by_cases hb : b = p
  · subst hb
    rw [upd_same] at z
    exact (ho ps (Option.some.inj z)).elim
  · rw [upd_ne hb] at z
    exact h b ps z
theorem ext_upd {p : Addr} {o : HO} (h : H p = none) : ∀ b u, H b = some u → upd H p o b = some u := fun b u e => by
  rw [upd_ne (ne_of_none e h)]
  exact e
theorem Sim.at (s : Sim K mg F ι S H) {n : Nat} {c : Cell} (h : S[n]? = some c) : ∃ a, ι[n]? = some a ∧ CellOk K mg F ι H a c := by
  have hn : n < ι.length := by rw [s.len]; exact (List.getElem?_eq_some_iff.mp h).1
  exact ⟨ι[n], by simp [hn], s.cell n _ c (by simp [hn]) h⟩
theorem Sim.there (s : Sim K mg F ι S H) {a : Addr} (h : a ∈ ι) : ∃ o, H a = some o := by
  obtain ⟨n, hn, rfl⟩ := List.getElem_of_mem h
  have hs : n < S.length := by rw [← s.len]; exact hn
  exact (s.cell n _ S[n] (by simp [hn]) (by simp [hs])).there s.sub
theorem Sim.fresh (s : Sim K mg F ι S H) {p : Addr} (h : H p = none) : F p = none ∧ p ∉ ι := ⟨s.sub.free h, fun hp => by
  obtain ⟨o, e⟩ := s.there hp
  rw [h] at e
  cases e⟩
theorem same_upd {p : Addr} {o : HO} (h : F p = none) : Same F (upd F p o) := fun b x e => by
  rw [upd_ne (ne_of_none e h)]
  exact e
theorem same_two {p : Addr} {o : HO} (h : Same F H) : Same (upd F p o) (upd H p o) := fun b x e => by
  by_cases hb : b = p
  · subst hb
    rw [upd_same] at e ⊢
    exact e
  · rw [upd_ne hb] at e ⊢
    exact h b x e
theorem RelKV.mono0 {κ : Type} (x : Ext F ι F' ι') {kvs : List (κ × V)} {kds : List (κ × D)} (h : RelKV K F ι kvs kds) : RelKV K F' ι' kvs kds := ⟨h.ks, RelAll.mono0 x h.vs⟩
theorem RelKV.mono {κ : Type} (x : Step F ι H F' ι' H') {kvs : List (κ × V)} {kds : List (κ × D)} (h : RelKV K F ι kvs kds) : RelKV K F' ι' kvs kds := h.mono0 x.toExt
/-- a cell under more frozen things, its own object as it was -/
theorem CellOk.mono {a : Addr} {c : Cell} (x : Ext F ι F' ι') (hF : F a = none → F' a = none) (hH : ∀ o, H a = some o → H' a = some o) (h : CellOk K mg F ι H a c) : CellOk K mg F' ι' H' a c := by
  cases c with
  | lst b ds =>
    cases b with
    | true => obtain ⟨vs, h, r, f⟩ := h; exact ⟨vs, hH _ h, RelAll.mono0 x r, hF f⟩
    | false => obtain ⟨vs, h, r⟩ := h; exact ⟨vs, x.same _ _ h, RelAll.mono0 x r⟩
  | dK kds => obtain ⟨vs, h, r, f⟩ := h; exact ⟨vs, hH _ h, r.mono0 x, hF f⟩
  | dT kds => obtain ⟨vs, h, r, f⟩ := h; exact ⟨vs, hH _ h, r.mono0 x, hF f⟩
  | ins c fs => obtain ⟨C, dx, fv, m, h, r, f⟩ := h; exact ⟨C, dx, fv, m, hH _ h, r.mono0 x, hF f⟩
  | fT kds => obtain ⟨o, kvs, h, r⟩ := h; exact ⟨o, kvs, x.same _ _ h, r.mono0 x⟩
  | fK kds => obtain ⟨o, kvs, h, r⟩ := h; exact ⟨o, kvs, x.same _ _ h, r.mono0 x⟩
  | fn q d => obtain ⟨v, h, r⟩ := h; exact ⟨v, h.mono x.same, r.mono0 x⟩
  | gone => obtain ⟨o, fd, e, h⟩ := h; exact ⟨o, fd, e, x.same _ _ h⟩
theorem upd_dom {p b : Addr} {o : HO} (h : upd H p o b = none) : H b = none := by
  by_cases hb : b = p
  · subst hb
    rw [upd_same] at h
    cases h
  · rw [upd_ne hb] at h
    exact h
theorem step_new {p : Addr} {o : HO} (x : Ext F ι F' ι') (h : H p = none) (k : ∀ b, b ≠ p → F' b = F b ∧ (b ∉ ι → b ∉ ι')) : Step F ι H F' ι' (upd H p o) := by
  refine ⟨x, fun b o' e1 e2 e3 _ => ?_, fun b hb => upd_dom hb⟩
  have ne : b ≠ p := ne_of_none e1 h
  exact ⟨by rw [upd_ne ne]; exact e1, by rw [(k b ne).1]; exact e2, (k b ne).2 e3⟩
/-- a new thing that is never changed -/
theorem Sim.frozen (s : Sim K mg F ι S H) {p : Addr} {o : HO} (h : H p = none) (ho : ∀ ps, o ≠ .tbl ps := by intro _ z; cases z) : Step F ι H (upd F p o) ι (upd H p o) ∧ Sim K mg (upd F p o) ι S (upd H p o) := by
  obtain ⟨hf, hi⟩ := s.fresh h
  have x : Ext F ι (upd F p o) ι := ⟨same_upd hf, List.prefix_rfl⟩
  refine ⟨step_new x h (fun _ hb => ⟨upd_ne hb, id⟩), same_two s.sub, s.len, s.nd, fun n a c ha hc => ?_, s.cl, s.tab.ext (ext_upd h), nt_upd s.nt ho, tt_upd s.tt ho⟩
  have ne : a ≠ p := fun e => hi (e ▸ List.mem_of_getElem? ha)
  exact (s.cell n a c ha hc).mono x (fun e => by rw [upd_ne ne]; exact e) fun o' e => by rw [upd_ne ne]; exact e
/-- a new thing that stays outside both -/
theorem Sim.loose (s : Sim K mg F ι S H) {p : Addr} {o : HO} (h : H p = none) (ho : ∀ ps, o ≠ .tbl ps := by intro _ z; cases z) : Step F ι H F ι (upd H p o) ∧ Sim K mg F ι S (upd H p o) := by
  obtain ⟨hf, hi⟩ := s.fresh h
  refine ⟨step_new (Ext.refl F ι) h (fun _ _ => ⟨rfl, id⟩), fun b x e => ?_, s.len, s.nd, fun n a c ha hc => ?_, s.cl, s.tab.ext (ext_upd h), s.nt, tt_upd s.tt ho⟩
  · rw [upd_ne (ne_of_none e hf)]
    exact s.sub b x e
  · have ne : a ≠ p := fun e => hi (e ▸ List.mem_of_getElem? ha)
    exact (s.cell n a c ha hc).mono (Ext.refl F ι) (fun e => e) fun o' e => by rw [upd_ne ne]; exact e
/-- a new cell -/
theorem Sim.newCell {F0 H0 : Hp} {ι0 : List Addr} (s : Sim K mg F ι S H) (st : Step F0 ι0 H0 F ι H) {p : Addr} {c : Cell} (h0 : H0 p = none) (hp : p ∉ ι) (hc : CellOk K mg F (ι ++ [p]) H p c) (hcl : closedC S.length c = true) : Step F0 ι0 H0 F (ι ++ [p]) H ∧ Sim K mg F (ι ++ [p]) (S ++ [c]) H := by
  have x : Ext F ι F (ι ++ [p]) := ⟨Same.refl F, List.prefix_append _ _⟩
  refine ⟨⟨st.toExt.trans x, fun b o e1 e2 e3 e4 => ?_, st.dom⟩, s.sub, by simp [s.len], ?_, fun n a c' ha hc' => ?_, fun n c' hc' => ?_, s.tab, s.nt, s.tt⟩
  · obtain ⟨k1, k2, k3⟩ := st.keep b o e1 e2 e3 e4
    refine ⟨k1, k2, fun hm => ?_⟩
    rcases List.mem_append.mp hm with hm | hm
    · exact k3 hm
    · have : b = p := by simpa using hm
      subst this
      rw [h0] at e1
      cases e1
  · rw [List.nodup_append]
    refine ⟨s.nd, by simp, fun a h1 b h2 e => ?_⟩
    simp at h2
    subst e
    subst h2
    exact hp h1
  · by_cases hn : n < ι.length
    · rw [List.getElem?_append_left hn] at ha
      rw [List.getElem?_append_left (by rw [← s.len]; exact hn)] at hc'
      exact (s.cell n a c' ha hc').mono x (fun e => e) fun _ e => e
    · have hl : n = ι.length := by
        have := (List.getElem?_eq_some_iff.mp ha).1
        simp at this
        omega
      subst hl
      rw [List.getElem?_append_right (Nat.le_refl _), Nat.sub_self] at ha
      rw [s.len, List.getElem?_append_right (Nat.le_refl _), Nat.sub_self] at hc'
      simp at ha hc'
      subst ha
      subst hc'
      exact hc
  · by_cases hn : n < S.length
    · rw [List.getElem?_append_left hn] at hc'
      exact s.cl n c' hc'
    · have hl : n = S.length := by
        have := (List.getElem?_eq_some_iff.mp hc').1
        simp at this
        omega
      subst hl
      rw [List.getElem?_append_right (Nat.le_refl _), Nat.sub_self] at hc'
      simp at hc'
      subst hc'
      exact hcl
/-- a live cell is written -/
theorem Sim.write (s : Sim K mg F ι S H) {n : Nat} {a : Addr} {c : Cell} {o : HO} (ha : ι[n]? = some a) (hF : F a = none) (hc : CellOk K mg F ι (upd H a o) a c) (hcl : closedC n c = true) (ho : ∀ ps, o ≠ .tbl ps := by intro _ z; cases z) : Step F ι H F ι (upd H a o) ∧ Sim K mg F ι (S.set n c) (upd H a o) := by
  have hn : n < ι.length := (List.getElem?_eq_some_iff.mp ha).1
  have hcp : ∃ o', H a = some o' ∧ Cp o' := by
    have hs : n < S.length := by rw [← s.len]; exact hn
    exact (s.cell n a S[n] ha (by simp [hs])).cp s.sub
  obtain ⟨o', ho', hcp⟩ := hcp
  refine ⟨⟨Ext.refl F ι, fun b o' e1 e2 e3 _ => ⟨by rw [upd_ne (show b ≠ a from fun z => e3 (by rw [z]; exact List.mem_of_getElem? ha))]; exact e1, e2, e3⟩, fun b hb => upd_dom hb⟩, fun b x e => ?_, by simp [s.len], s.nd, fun m b c' hb hc' => ?_, fun m c' hc' => ?_, s.tab.upd ho' hcp, s.nt, tt_upd s.tt ho⟩
  · rw [upd_ne (ne_of_none e hF)]
    exact s.sub b x e
  · by_cases hm : m = n
    · subst hm
      rw [ha] at hb
      cases hb
      rw [List.getElem?_set_self (by rw [← s.len]; exact hn)] at hc'
      cases hc'
      exact hc
    · rw [List.getElem?_set_ne (Ne.symm hm)] at hc'
      have ne : b ≠ a := fun e => hm (by
        obtain ⟨h1, e1⟩ := List.getElem?_eq_some_iff.mp hb
        obtain ⟨h2, e2⟩ := List.getElem?_eq_some_iff.mp ha
        exact (List.getElem_inj s.nd).mp (by rw [e1, e2]; exact e))
      exact (s.cell m b c' hb hc').mono (Ext.refl F ι) (fun e => e) fun o' e => by rw [upd_ne ne]; exact e
  · by_cases hm : m = n
    · subst hm
      rw [List.getElem?_set_self (by rw [← s.len]; exact hn)] at hc'
      cases hc'
      exact hcl
    · rw [List.getElem?_set_ne (Ne.symm hm)] at hc'
      exact s.cl m c' hc'
/-- a live list is frozen -/
theorem Sim.freeze (s : Sim K mg F ι S H) {n : Nat} {a : Addr} {ds : List D} {vs : List V} (ha : ι[n]? = some a) (hF : F a = none) (hH : H a = some (.lst vs)) (r : RelAll K F ι vs ds) (hcl : closedA n ds = true) :
    Step F ι H (upd F a (.lst vs)) ι H ∧ Sim K mg (upd F a (.lst vs)) ι (S.set n (.lst false ds)) H := by
  have hn : n < ι.length := (List.getElem?_eq_some_iff.mp ha).1
  have x : Ext F ι (upd F a (.lst vs)) ι := ⟨same_upd hF, List.prefix_rfl⟩
  refine ⟨⟨x, fun b o e1 e2 e3 _ => ⟨e1, by rw [upd_ne (show b ≠ a from fun z => e3 (by rw [z]; exact List.mem_of_getElem? ha))]; exact e2, e3⟩, fun _ h => h⟩, fun b o e => ?_, by simp [s.len], s.nd, fun m b c' hb hc' => ?_, fun m c' hc' => ?_, s.tab, nt_upd s.nt (by intro _ z; cases z), s.tt⟩
  · by_cases hb : b = a
    · subst hb
      rw [upd_same] at e
      rw [hH]
      exact e
    · rw [upd_ne hb] at e
      exact s.sub b o e
  · by_cases hm : m = n
    · subst hm
      rw [ha] at hb
      cases hb
      rw [List.getElem?_set_self (by rw [← s.len]; exact hn)] at hc'
      cases hc'
      exact ⟨vs, upd_same, RelAll.mono0 x r⟩
    · rw [List.getElem?_set_ne (Ne.symm hm)] at hc'
      have ne : b ≠ a := fun e => hm (by
        obtain ⟨h1, e1⟩ := List.getElem?_eq_some_iff.mp hb
        obtain ⟨h2, e2⟩ := List.getElem?_eq_some_iff.mp ha
        exact (List.getElem_inj s.nd).mp (by rw [e1, e2]; exact e))
      exact (s.cell m b c' hb hc').mono x (fun e => by rw [upd_ne ne]; exact e) fun o' e => e
  · by_cases hm : m = n
    · subst hm
      rw [List.getElem?_set_self (by rw [← s.len]; exact hn)] at hc'
      cases hc'
      exact hcl
    · rw [List.getElem?_set_ne (Ne.symm hm)] at hc'
      exact s.cl m c' hc'
mutual
theorem Rel.back {n : Nat} (hn : n ≤ ι.length) : ∀ {v : V} {d : D}, Rel K F ι v d → closed n d = true → Rel K F (ι.take n) v d
  | _, _, .non, _ => .non
  | _, _, .bl b, _ => .bl b
  | _, _, .int i, _ => .int i
  | _, _, .str y, _ => .str y
  | _, _, .tp h r, c => .tp h (RelAll.back hn r (by simpa [closed] using c))
  | _, _, .ktp h d l r, c => .ktp h d l (RelAll.back hn r (by simpa [closed] using c))
  | _, _, .lst h r, c => .lst h (RelAll.back hn r (by simpa [closed] using c))
  | _, _, .scr h r, c => .scr h (RelAll.back hn r (by simpa [closed] using c))
  | _, _, .exn0 h k, _ => .exn0 h k
  | _, _, .exn h k h2 e r, c => .exn h k h2 e (RelAll.back hn r (by simpa [closed] using c))
  | _, _, .dct h k r, c => .dct h k (RelAll.back hn r (by
      have c' := c
      simp only [closed] at c'
      exact closedK_eq _ _ ▸ c'))
  | _, _, .ref (n := m) h, c => .ref (by
      have c' : m < n := by simpa [closed] using c
      rw [List.getElem?_take_of_lt c']
      exact h)
theorem RelAll.back {n : Nat} (hn : n ≤ ι.length) : ∀ {vs : List V} {ds : List D}, RelAll K F ι vs ds → closedA n ds = true → RelAll K F (ι.take n) vs ds
  | _, _, .nil, _ => .nil
  | _, _, .cons h r, c => by
    rw [closedA_cons, Bool.and_eq_true] at c
    exact .cons (Rel.back hn h c.1) (RelAll.back hn r c.2)
end
end
structure REnv (K : PySem.W.Frag) (F : Hp) (ι : List Addr) (σ : L2.St) (ρ : Env) : Prop where
  len : σ.length = ρ.length
  at' : ∀ (i : Nat) (d : D), ρ[i]? = some (some d) → ∃ v, σ[i]? = some (some v) ∧ Rel K F ι v d
theorem REnv.mono {K : PySem.W.Frag} {F F' H H' : Hp} {ι ι' : List Addr} {σ : L2.St} {ρ : Env} (x : Step F ι H F' ι' H') (h : REnv K F ι σ ρ) : REnv K F' ι' σ ρ := ⟨h.len, fun i d e =>
  let ⟨v, a, b⟩ := h.at' i d e
  ⟨v, a, Rel.mono x b⟩⟩
theorem REnv.set {K : PySem.W.Frag} {F : Hp} {ι : List Addr} {σ : L2.St} {ρ : Env} (h : REnv K F ι σ ρ) (i : Nat) {v : V} {d : D} (r : Rel K F ι v d) : REnv K F ι (σ.set i (some v)) (ρ.set i (some d)) := by
  refine ⟨by simp [h.len], fun j e he => ?_⟩
  by_cases hj : j = i
  · subst hj
    have hl : j < ρ.length := by simpa using (List.getElem?_eq_some_iff.mp he).1
    rw [List.getElem?_set_self hl] at he
    cases he
    exact ⟨v, List.getElem?_set_self (by rw [h.len]; exact hl), r⟩
  · rw [List.getElem?_set_ne (Ne.symm hj)] at he
    rw [List.getElem?_set_ne (Ne.symm hj)]
    exact h.at' j e he
/-- the place where the layer stands -/
structure Pl where
  K : PySem.W.Frag
  mg : Str → Option Value
  W : WX
/-- an exception's own dict -/
def XD (K : PySem.W.Frag) (H0 : Hp) (F : Hp) (ι : List Addr) (H : Hp) (d : Option Addr) (fs : List (Str × D)) : Prop :=
  (fs = [] ∧ d = none) ∨ (fs ≠ [] ∧ ∃ dx fv, d = some dx ∧ H0 dx = none ∧ F dx = none ∧ dx ∉ ι ∧ H dx = some (.xd fv) ∧ RelKV K F ι fv fs)
theorem XD.ext {K : PySem.W.Frag} {F0 F1 H0 H1 F H : Hp} {ι0 ι1 ι : List Addr} {d : Option Addr} {fs : List (Str × D)} (x : Step F0 ι0 H0 F1 ι1 H1) (h : XD K H1 F ι H d fs) : XD K H0 F ι H d fs := by
  rcases h with h | ⟨h1, dx, fv, h2, h3, h4⟩
  · exact .inl h
  · exact .inr ⟨h1, dx, fv, h2, x.dom _ h3, h4⟩
section
variable (p : Pl)
def Post {α β : Type} (R : Hp → Hp → List Addr → Hp → β → α → Prop) (F : Hp) (ι : List Addr) (H : Hp) (σ : L2.St) (o : Out α) (Q : β → Hp → Prop) : Prop := match o with
  | .ok a S' => ∀ F' ι' v H', Step F ι H F' ι' H' → Sim p.K p.mg F' ι' S' H' → R H F' ι' H' v a → Q v H'
  | .exc c fs S' => ∀ F' ι' C d H', Step F ι H F' ι' H' → Sim p.K p.mg F' ι' S' H' → p.mg c = some (.ref C) → XD p.K H F' ι' H' d fs → p.W (.ref C) d σ H'
  | .stuck => False
def RV' (K : PySem.W.Frag) : Hp → Hp → List Addr → Hp → V → D → Prop := fun _ F ι _ v d => Rel K F ι v d
def RA' (K : PySem.W.Frag) : Hp → Hp → List Addr → Hp → List V → List D → Prop := fun _ F ι _ v d => RelAll K F ι v d
def RT' : Hp → Hp → List Addr → Hp → Bool → Bool → Prop := fun _ _ _ _ v d => v = d
/-- a new list -/
def RL' (K : PySem.W.Frag) : Hp → Hp → List Addr → Hp → V → List D → Prop := fun H0 F ι H v ds => ∃ q vs, v = .ref q ∧ H0 q = none ∧ H q = some (.lst vs) ∧ F q = none ∧ q ∉ ι ∧ RelAll K F ι vs ds
def tG {α β : Type} (R : Hp → Hp → List Addr → Hp → β → α → Prop) (f : Env → Store → Out α) (σ : L2.St) (H : Hp) (Q : β → Hp → Prop) : Prop :=
  ∃ F ι ρ S, Sim p.K p.mg F ι S H ∧ REnv p.K F ι σ ρ ∧ Post p R F ι H σ (f ρ S) Q
abbrev tE (f : SemE) : TE := tG p (RV' p.K) f
abbrev tL (f : SemA) : TE := tG p (RL' p.K) f
abbrev tA (f : SemA) : TA := tG p (RA' p.K) f
abbrev tT (f : SemT) : TT := tG p RT' f
def PostS (F : Hp) (ι : List Addr) (H : Hp) (o : OutS) (Dn : Ends) : Prop := match o with
  | .nx ρ' S' => ∀ F' ι' σ' H', Step F ι H F' ι' H' → Sim p.K p.mg F' ι' S' H' → REnv p.K F' ι' σ' ρ' → Dn.nx σ' H'
  | .rt d S' => ∀ F' ι' v H', Step F ι H F' ι' H' → Sim p.K p.mg F' ι' S' H' → Rel p.K F' ι' v d → Dn.rt v H'
  | .bk ρ' S' => ∀ F' ι' σ' H', Step F ι H F' ι' H' → Sim p.K p.mg F' ι' S' H' → REnv p.K F' ι' σ' ρ' → Dn.bk σ' H'
  | .ct ρ' S' => ∀ F' ι' σ' H', Step F ι H F' ι' H' → Sim p.K p.mg F' ι' S' H' → REnv p.K F' ι' σ' ρ' → Dn.ct σ' H'
  | .exc c fs ρ' S' => ∀ F' ι' C d σ' H', Step F ι H F' ι' H' → Sim p.K p.mg F' ι' S' H' → REnv p.K F' ι' σ' ρ' → p.mg c = some (.ref C) → XD p.K H F' ι' H' d fs → p.W (.ref C) d σ' H'
  | .stuck => False
def tS (g : SemS) : TS := fun Dn σ H => ∃ F ι ρ S, Sim p.K p.mg F ι S H ∧ REnv p.K F ι σ ρ ∧ PostS p F ι H (g ρ S) Dn
end
/-- what is told of a value does not lean on what was free ahead -/
def Stays {α β : Type} (R : Hp → Hp → List Addr → Hp → β → α → Prop) : Prop := ∀ {F F' H H' : Hp} {ι ι' : List Addr} {F2 H2 : Hp} {ι2 : List Addr} {v : β} {a : α}, Step F ι H F' ι' H' → R H' F2 ι2 H2 v a → R H F2 ι2 H2 v a
theorem Post.ext {α β : Type} {p : Pl} {R : Hp → Hp → List Addr → Hp → β → α → Prop} {F F' H H' : Hp} {ι ι' : List Addr} {σ : L2.St} {o : Out α} {Q : β → Hp → Prop} (x : Step F ι H F' ι' H') (h : Post p R F ι H σ o Q) (hR : Stays R) : Post p R F' ι' H' σ o Q := by
  cases o with
  | ok a S => exact fun F2 ι2 v H2 x2 s2 r2 => h F2 ι2 v H2 (x.trans x2) s2 (hR x r2)
  | exc c fs S => exact fun F2 ι2 C d H2 x2 s2 m xd => h F2 ι2 C d H2 (x.trans x2) s2 m (xd.ext x)
  | stuck => exact h
theorem PostS.ext {p : Pl} {F F' H H' : Hp} {ι ι' : List Addr} {o : OutS} {Dn : Ends} (x : Step F ι H F' ι' H') (h : PostS p F ι H o Dn) : PostS p F' ι' H' o Dn := by
  cases o with
  | nx ρ S => exact fun F2 ι2 v H2 x2 => h F2 ι2 v H2 (x.trans x2)
  | rt ρ S => exact fun F2 ι2 v H2 x2 => h F2 ι2 v H2 (x.trans x2)
  | bk ρ S => exact fun F2 ι2 v H2 x2 => h F2 ι2 v H2 (x.trans x2)
  | ct ρ S => exact fun F2 ι2 v H2 x2 => h F2 ι2 v H2 (x.trans x2)
  | exc c fs ρ S => exact fun F2 ι2 C d σ H2 x2 s2 r2 m xd => h F2 ι2 C d σ H2 (x.trans x2) s2 r2 m (xd.ext x)
  | stuck => exact h
def RO' : Hp → Hp → List Addr → Hp → Option Int → Option Int → Prop := fun _ _ _ _ v d => v = d
theorem stO : Stays RO' := fun _ r => r
theorem stV {K : PySem.W.Frag} : Stays (RV' K) := fun _ r => r
theorem stA {K : PySem.W.Frag} : Stays (RA' K) := fun _ r => r
theorem stT : Stays RT' := fun _ r => r
theorem stL {K : PySem.W.Frag} : Stays (RL' K) := fun x r => by
  obtain ⟨q, vs, a, b, c⟩ := r
  exact ⟨q, vs, a, x.dom _ b, c⟩
/-- the first of two: its end is met, or its exception goes on -/
theorem post_bind {α β γ δ : Type} {p : Pl} {R : Hp → Hp → List Addr → Hp → β → α → Prop} {R' : Hp → Hp → List Addr → Hp → δ → γ → Prop} {F H : Hp} {ι : List Addr} {σ : L2.St} {o : Out α} {f : α → Store → Out γ} {Q : β → Hp → Prop} {Q' : δ → Hp → Prop}
    (h : Post p R' F ι H σ (o.bind f) Q') (k : ∀ a S F' ι' v H', Step F ι H F' ι' H' → Sim p.K p.mg F' ι' S H' → R H F' ι' H' v a → Post p R' F' ι' H' σ (f a S) Q' → Q v H')
    (hR : Stays R' := by first | exact stV | exact stT | exact stA | exact stL | exact stO | assumption) : Post p R F ι H σ o Q := by
  cases o with
  | ok a S => exact fun F' ι' v H' x s r => k a S F' ι' v H' x s r (Post.ext x h hR)
  | exc c fs S => exact h
  | stuck => exact h.elim
abbrev XE (X : Cx) (W : WX) (e : Expr) (f : SemE) : Prop := PE X e (tE ⟨X.K, X.mg, W⟩ f)
abbrev XL (X : Cx) (W : WX) (e : Expr) (f : SemA) : Prop := PE X e (tL ⟨X.K, X.mg, W⟩ f)
abbrev XA (X : Cx) (W : WX) (es : List Expr) (f : SemA) : Prop := PA X es (tA ⟨X.K, X.mg, W⟩ f)
abbrev XT (X : Cx) (W : WX) (e : Expr) (f : SemT) : Prop := PT X e (tT ⟨X.K, X.mg, W⟩ f)
abbrev XW (X : Cx) (W : WX) (e : Expr) (f : SemT) : Prop := PW X e (tT ⟨X.K, X.mg, W⟩ f)
abbrev XS (X : Cx) (W : WX) (st : Stmt) (g : SemS) : Prop := PS X st (tS ⟨X.K, X.mg, W⟩ g)
abbrev XSs (X : Cx) (W : WX) (st : List Stmt) (g : SemS) : Prop := PSs X st (tS ⟨X.K, X.mg, W⟩ g)
section
variable {X : Cx} {e : Expr} {es : List Expr} {st : Stmt} {sts : List Stmt}
theorem peI {t t' : TE} (h : PE X e t) (i : ∀ σ H Q, t' σ H Q → t σ H Q) : PE X e t' := ⟨fun pins s σ H Q I q => h.run pins s σ H Q I (i _ _ _ q)⟩
theorem ptI {t t' : TT} (h : PT X e t) (i : ∀ σ H Q, t' σ H Q → t σ H Q) : PT X e t' := ⟨fun pins s σ H Q I q => h.run pins s σ H Q I (i _ _ _ q)⟩
theorem pwI {t t' : TT} (h : PW X e t) (i : ∀ σ H Q, t' σ H Q → t σ H Q) : PW X e t' := ⟨fun w pins s σ H Q I q => h.run w pins s σ H Q I (i _ _ _ q)⟩
theorem paI {t t' : TA} (h : PA X es t) (i : ∀ σ H Q, t' σ H Q → t σ H Q) : PA X es t' := ⟨fun pos pins s σ H Q I q => h.run pos pins s σ H Q I (i _ _ _ q)⟩
theorem psI {t t' : TS} (h : PS X st t) (i : ∀ Dn σ H, t' Dn σ H → t Dn σ H) : PS X st t' := ⟨fun pins s σ H Dn I q => h.run pins s σ H Dn I (i _ _ _ q)⟩
theorem pssI {t t' : TS} (h : PSs X sts t) (i : ∀ Dn σ H, t' Dn σ H → t Dn σ H) : PSs X sts t' := ⟨fun pins s σ H Dn I q => h.run pins s σ H Dn I (i _ _ _ q)⟩
end
end Fk
namespace Fk
open PySem PySem.Spec PyProof.Rows L2
section
variable {X : Cx} {W : WX}
def eVar (i : Nat) : SemE := fun ρ S => match ρ[i]? with
  | some (some d) => .ok d S
  | _ => .stuck
def eC (d : D) : SemE := fun _ S => .ok d S
theorem tE_var {p : Pl} {i : Nat} {σ : L2.St} {H : Hp} {Q : VK} (h : tE p (eVar i) σ H Q) : tVar i σ H Q := by
  obtain ⟨F, ι, ρ, S, s, r, q⟩ := h
  unfold eVar at q
  cases e : ρ[i]? with
  | none => rw [e] at q; exact q.elim
  | some o =>
    cases o with
    | none => rw [e] at q; exact q.elim
    | some d =>
      rw [e] at q
      obtain ⟨v, hv, rv⟩ := r.at' i d e
      exact ⟨v, hv, q F ι v H (Step.refl _ _ _) s rv⟩
theorem xe_var (i : Nat) {x : Str} {pos : Pos} (hN : X.N[i]? = some x := by rfl) (hv : Vis X.env.scope x := by first | exact Or.inl rfl | exact Or.inr (Or.inl rfl) | exact Or.inr (Or.inr rfl)) (hd : (x == ("__debug__" : Str)) = false := by decide)
    (hcd : (x == ("__classdict__" : Str)) = false := by decide) : XE X W (.Name x pos) (eVar i) := peI (pe_var hN hv hd hcd) fun _ _ _ h => tE_var h
theorem xe_c {e : Expr} {v : V} {d : D} (h : PE X e (tC v)) (r : ∀ K F ι, Rel K F ι v d) : XE X W e (eC d) := peI h fun σ H Q ⟨F, ι, ρ, S, s, _, q⟩ => q F ι v H (Step.refl _ _ _) s (r _ F ι)
theorem xe_int {i j pos} : XE X W (.Constant (.int i) j pos) (eC (.int i)) := xe_c pe_int fun _ _ _ => .int i
theorem xe_bl {b j pos} : XE X W (.Constant (.bool b) j pos) (eC (.bl b)) := xe_c pe_bl fun _ _ _ => .bl b
theorem xe_non {j pos} : XE X W (.Constant .none j pos) (eC .non) := xe_c pe_non fun _ _ _ => .non
theorem xe_str {x j pos} : XE X W (.Constant (.str x) j pos) (eC (.str x)) := xe_c pe_str fun _ _ _ => .str x
end
/-- what an operation asks and leaves: the store is only read -/
def rO {α : Type} (K : PySem.W.Frag) (mg : Str → Option Value) (R : Hp → Hp → List Addr → Hp → V → α → Prop) (op : D → D → Store → Option α) : R2 := fun x y H Q =>
  ∃ F ι S d e a, Sim K mg F ι S H ∧ Rel K F ι x d ∧ Rel K F ι y e ∧ op d e S = some a ∧ ∀ F' ι' v H', Step F ι H F' ι' H' → Sim K mg F' ι' S H' → R H F' ι' H' v a → Q v H'
def rU1 {α : Type} (K : PySem.W.Frag) (mg : Str → Option Value) (R : Hp → Hp → List Addr → Hp → V → α → Prop) (op : D → Store → Option α) : V → Hp → VK → Prop := fun x H Q =>
  ∃ F ι S d a, Sim K mg F ι S H ∧ Rel K F ι x d ∧ op d S = some a ∧ ∀ F' ι' v H', Step F ι H F' ι' H' → Sim K mg F' ι' S H' → R H F' ι' H' v a → Q v H'
def rCall {α : Type} (K : PySem.W.Frag) (mg : Str → Option Value) (R : Hp → Hp → List Addr → Hp → V → α → Prop) (op : List D → Store → Option α) : List V → Hp → VK → Prop := fun xs H Q =>
  ∃ F ι S ds a, Sim K mg F ι S H ∧ RelAll K F ι xs ds ∧ op ds S = some a ∧ ∀ F' ι' v H', Step F ι H F' ι' H' → Sim K mg F' ι' S H' → R H F' ι' H' v a → Q v H'
def lift {α : Type} : Option α → Store → Out α
  | some a, S => .ok a S
  | none, _ => .stuck
@[simp] theorem lift_some {α : Type} (a : α) (S : Store) : lift (some a) S = .ok a S := rfl
@[simp] theorem lift_none {α : Type} (S : Store) : lift (none : Option α) S = .stuck := rfl
def eBin {α : Type} (op : D → D → Store → Option α) (f g : SemE) : Env → Store → Out α := fun ρ S => (f ρ S).bind fun x S1 => (g ρ S1).bind fun y S2 => lift (op x y S2) S2
def eUn {α : Type} (op : D → Store → Option α) (f : SemE) : Env → Store → Out α := fun ρ S => (f ρ S).bind fun x S1 => lift (op x S1) S1
def eOps {α : Type} (op : List D → Store → Option α) (f : SemA) : Env → Store → Out α := fun ρ S => (f ρ S).bind fun xs S1 => lift (op xs S1) S1
abbrev OpX (X : Cx) (f : Value → Value → Sem Value) (op : D → D → Store → Option D) : Prop := OpR X f (rO X.K X.mg (RV' X.K) op)
abbrev OpXL (X : Cx) (f : Value → Value → Sem Value) (op : D → D → Store → Option (List D)) : Prop := OpR X f (rO X.K X.mg (RL' X.K) op)
abbrev UnX (X : Cx) (f : Value → Sem Value) (op : D → Store → Option D) : Prop := UnR X f (rU1 X.K X.mg (RV' X.K) op)
abbrev CallX (X : Cx) (f : Value) (op : List D → Store → Option D) : Prop := CallR X f (rCall X.K X.mg (RV' X.K) op)
abbrev CallXL (X : Cx) (f : Value) (op : List D → Store → Option (List D)) : Prop := CallR X f (rCall X.K X.mg (RL' X.K) op)
section
variable {X : Cx} {W : WX} {α : Type} {R : Hp → Hp → List Addr → Hp → V → α → Prop} {a b : Expr} {f g : SemE} {pos : Pos}
theorem post_lift {p : Pl} {F H : Hp} {ι : List Addr} {σ : L2.St} {o : Option α} {S : Store} {Q : VK} (h : Post p R F ι H σ (lift o S) Q) : ∃ a, o = some a ∧ ∀ F' ι' v H', Step F ι H F' ι' H' → Sim p.K p.mg F' ι' S H' → R H F' ι' H' v a → Q v H' := by
  cases o with
  | none => exact h.elim
  | some a => exact ⟨a, rfl, h⟩
theorem tG_bin {p : Pl} {op : D → D → Store → Option α} {σ : L2.St} {H : Hp} {Q : VK} (h : tG p R (eBin op f g) σ H Q) (hR : Stays R := by first | exact stV | exact stT | exact stA | exact stL | assumption) : tOp (rO p.K p.mg R op) (tE p f) (tE p g) σ H Q := by
  obtain ⟨F, ι, ρ, S, s, r, q⟩ := h
  refine ⟨F, ι, ρ, S, s, r, post_bind (R := RV' p.K) q fun x S1 F1 ι1 v H1 x1 s1 rv q1 => ?_⟩
  refine ⟨F1, ι1, ρ, S1, s1, r.mono x1, post_bind (R := RV' p.K) q1 fun y S2 F2 ι2 u H2 x2 s2 ru q2 => ?_⟩
  obtain ⟨z, hz, q3⟩ := post_lift q2
  exact ⟨F2, ι2, S2, x, y, z, s2, Rel.mono x2 rv, ru, hz, q3⟩
theorem tG_un {p : Pl} {op : D → Store → Option α} {σ : L2.St} {H : Hp} {Q : VK} (h : tG p R (eUn op f) σ H Q) (hR : Stays R := by first | exact stV | exact stT | exact stA | exact stL | assumption) : tUn (rU1 p.K p.mg R op) (tE p f) σ H Q := by
  obtain ⟨F, ι, ρ, S, s, r, q⟩ := h
  refine ⟨F, ι, ρ, S, s, r, post_bind (R := RV' p.K) q fun x S1 F1 ι1 v H1 x1 s1 rv q1 => ?_⟩
  obtain ⟨z, hz, q3⟩ := post_lift q1
  exact ⟨F1, ι1, S1, x, z, s1, rv, hz, q3⟩
theorem tG_ops {p : Pl} {op : List D → Store → Option α} {fa : SemA} {σ : L2.St} {H : Hp} {Q : VK} (h : tG p R (eOps op fa) σ H Q) (hR : Stays R := by first | exact stV | exact stT | exact stA | exact stL | assumption) : tCB (rCall p.K p.mg R op) (tA p fa) σ H Q := by
  obtain ⟨F, ι, ρ, S, s, r, q⟩ := h
  refine ⟨F, ι, ρ, S, s, r, post_bind (R := RA' p.K) q fun x S1 F1 ι1 v H1 x1 s1 rv q1 => ?_⟩
  obtain ⟨z, hz, q3⟩ := post_lift q1
  exact ⟨F1, ι1, S1, x, z, s1, rv, hz, q3⟩
theorem xe_bin {o : Operator} {op : D → D → Store → Option D} (ho : OpX X (binaryOp o) op) (ha : XE X W a f) (hb : XE X W b g) : XE X W (.BinOp a o b pos) (eBin op f g) := peI (pe_op ho ha hb) fun _ _ _ h => tG_bin h
theorem xl_bin {o : Operator} {op : D → D → Store → Option (List D)} (ho : OpXL X (binaryOp o) op) (ha : XE X W a f) (hb : XE X W b g) : XL X W (.BinOp a o b pos) (eBin op f g) := peI (pe_op ho ha hb) fun _ _ _ h => tG_bin h
theorem xe_un {o : UnaryOp} {op : D → Store → Option D} (ho : UnX X (unaryOp o) op) (ha : XE X W a f) : XE X W (.UnaryOp o a pos) (eUn op f) := peI (pe_un ho ha) fun _ _ _ h => tG_un h
/-- a value as a test -/
def asB : D → Store → Out Bool
  | .bl b, S => .ok b S
  | _, _ => .stuck
def tOfE (f : SemE) : SemT := fun ρ S => (f ρ S).bind asB
theorem rel_bl {K : PySem.W.Frag} {F : Hp} {ι : List Addr} {v : V} {b : Bool} (h : Rel K F ι v (.bl b)) : v = .bl b := by cases h; rfl
theorem rel_int {K : PySem.W.Frag} {F : Hp} {ι : List Addr} {v : V} {i : Int} (h : Rel K F ι v (.int i)) : v = .int i := by cases h; rfl
theorem rel_str {K : PySem.W.Frag} {F : Hp} {ι : List Addr} {v : V} {i : Str} (h : Rel K F ι v (.str i)) : v = .str i := by cases h; rfl
theorem tT_of {p : Pl} {σ : L2.St} {H : Hp} {Q : Bool → Hp → Prop} (h : tT p (tOfE f) σ H Q) : tB (tE p f) σ H Q := by
  obtain ⟨F, ι, ρ, S, s, r, q⟩ := h
  refine ⟨F, ι, ρ, S, s, r, post_bind (R := RV' p.K) q fun x S1 F1 ι1 v H1 x1 s1 rv q1 => ?_⟩
  cases x with
  | bl b => exact ⟨b, rel_bl rv, q1 F1 ι1 b H1 (Step.refl _ _ _) s1 rfl⟩
  | _ => exact q1.elim
theorem xt_cmp {o : CmpOp} {op : D → D → Store → Option D} (ho : OpX X (compareOp o) op) (ha : XE X W a f) (hb : XE X W b g) (hm : behindInMarks o b = false) : XT X W (.Compare a [o] [b] pos) (tOfE (eBin op f g)) := by
  refine ptI (pt_cmpR ho ha hb hm) fun σ H Q h => ?_
  have h' := tT_of h
  exact tG_bin (Q := fun x H1 => ∃ c, x = .bl c ∧ Q c H1) h'
variable {t u : SemT} {c : Expr} {rest : List Expr}
def sAnd (t u : SemT) : SemT := fun ρ S => (t ρ S).bind fun b S1 => if b then u ρ S1 else .ok false S1
def sOr (t u : SemT) : SemT := fun ρ S => (t ρ S).bind fun b S1 => if b then .ok true S1 else u ρ S1
def sNot (t : SemT) : SemT := fun ρ S => (t ρ S).bind fun b S1 => .ok (!b) S1
theorem tT_and {p : Pl} {σ : L2.St} {H : Hp} {Q : Bool → Hp → Prop} (h : tT p (sAnd t u) σ H Q) : tAnd (tT p t) (tT p u) σ H Q := by
  obtain ⟨F, ι, ρ, S, s, r, q⟩ := h
  refine ⟨F, ι, ρ, S, s, r, post_bind (R := RT') q fun x S1 F1 ι1 v H1 x1 s1 rv q1 => ?_⟩
  cases (show v = x from rv)
  cases x with
  | true => exact ⟨F1, ι1, ρ, S1, s1, r.mono x1, q1⟩
  | false => exact q1 F1 ι1 false H1 (Step.refl _ _ _) s1 rfl
theorem tT_or {p : Pl} {σ : L2.St} {H : Hp} {Q : Bool → Hp → Prop} (h : tT p (sOr t u) σ H Q) : tOr (tT p t) (tT p u) σ H Q := by
  obtain ⟨F, ι, ρ, S, s, r, q⟩ := h
  refine ⟨F, ι, ρ, S, s, r, post_bind (R := RT') q fun x S1 F1 ι1 v H1 x1 s1 rv q1 => ?_⟩
  cases (show v = x from rv)
  cases x with
  | false => exact ⟨F1, ι1, ρ, S1, s1, r.mono x1, q1⟩
  | true => exact q1 F1 ι1 true H1 (Step.refl _ _ _) s1 rfl
theorem xw_and1 (ha : XT X W a t) : XW X W (.BoolOp .And [a] pos) t := pw_and1 ha
theorem xw_or1 (ha : XT X W a t) : XW X W (.BoolOp .Or [a] pos) t := pw_or1 ha
theorem xw_and (ha : XT X W a t) (hb : XW X W (.BoolOp .And (b :: rest) pos) u) : XW X W (.BoolOp .And (a :: b :: rest) pos) (sAnd t u) := pwI (pw_and ha hb) fun _ _ _ h => tT_and h
theorem xw_or (ha : XT X W a t) (hb : XW X W (.BoolOp .Or (b :: rest) pos) u) : XW X W (.BoolOp .Or (a :: b :: rest) pos) (sOr t u) := pwI (pw_or ha hb) fun _ _ _ h => tT_or h
theorem xt_w (h : XW X W a t) : XT X W a t := h.pt
def vAnd (f g : SemE) : SemE := fun ρ S => (f ρ S).bind fun x S1 => (asB x S1).bind fun b S2 => if b then g ρ S2 else .ok (.bl false) S2
def vOr (f g : SemE) : SemE := fun ρ S => (f ρ S).bind fun x S1 => (asB x S1).bind fun b S2 => if b then .ok (.bl true) S2 else g ρ S2
def vNot (f : SemE) : SemE := fun ρ S => (f ρ S).bind fun x S1 => (asB x S1).bind fun b S2 => .ok (.bl (!b)) S2
def eIf {α : Type} (t : SemT) (f g : Env → Store → Out α) : Env → Store → Out α := fun ρ S => (t ρ S).bind fun b S1 => if b then f ρ S1 else g ρ S1
theorem xe_if (hc : XT X W c t) (ha : XE X W a f) (hb : XE X W b g) : XE X W (.IfExp c a b pos) (eIf t f g) := by
  refine peI (pe_ifExp hc ha hb) fun σ H Q h => ?_
  obtain ⟨F, ι, ρ, S, s, r, q⟩ := h
  refine ⟨F, ι, ρ, S, s, r, post_bind (R := RT') q fun x S1 F1 ι1 v H1 x1 s1 rv q1 => ?_⟩
  cases (show v = x from rv)
  cases x with
  | true => exact ⟨F1, ι1, ρ, S1, s1, r.mono x1, q1⟩
  | false => exact ⟨F1, ι1, ρ, S1, s1, r.mono x1, q1⟩
def eChain (op op' : D → D → Store → Option D) (f g h : SemE) : SemE := fun ρ S => (f ρ S).bind fun x S1 => (g ρ S1).bind fun y S2 => (lift (op x y S2) S2).bind fun z S3 => (asB z S3).bind fun k S4 =>
  if k then (h ρ S4).bind fun w S5 => lift (op' y w S5) S5 else .ok (.bl false) S4
def aNil : SemA := fun _ S => .ok [] S
def aCons (f : SemE) (g : SemA) : SemA := fun ρ S => (f ρ S).bind fun x S1 => (g ρ S1).bind fun xs S2 => .ok (x :: xs) S2
theorem xa_nil : XA X W [] aNil := paI pa_nil fun σ H Q ⟨F, ι, ρ, S, s, r, q⟩ => q F ι [] H (Step.refl _ _ _) s .nil
theorem xa_cons {es : List Expr} {fa : SemA} (ha : XE X W a f) (hr : XA X W es fa) (hs : starEach (a :: es) X.env = (false, eval a X.env) :: starEach es X.env := by rfl) : XA X W (a :: es) (aCons f fa) := by
  refine paI (pa_cons ha hr hs) fun σ H Q h => ?_
  obtain ⟨F, ι, ρ, S, s, r, q⟩ := h
  refine ⟨F, ι, ρ, S, s, r, post_bind (R := RV' X.K) q fun x S1 F1 ι1 v H1 x1 s1 rv q1 => ?_⟩
  refine ⟨F1, ι1, ρ, S1, s1, r.mono x1, post_bind (R := RA' X.K) q1 fun y S2 F2 ι2 u H2 x2 s2 ru q2 => ?_⟩
  exact q2 F2 ι2 (v :: u) H2 (Step.refl _ _ _) s2 (.cons (Rel.mono x2 rv) ru)
def sz (n : Nat) : Bool := decide (n ≤ 4000000)
theorem sz_le {n : Nat} (h : sz n = true) : n ≤ sizeLine := Nat.le_trans (of_decide_eq_true h) (by decide)
theorem sz_lt {n : Nat} (h : sz n = true) : n < sizeLine := Nat.lt_of_le_of_lt (of_decide_eq_true h) (by decide)
def eTup (fa : SemA) : SemE := fun ρ S => (fa ρ S).bind fun xs S1 => if sz xs.length then .ok (.tup xs) S1 else .stuck
def lDisp (fa : SemA) : SemA := fun ρ S => (fa ρ S).bind fun xs S1 => if sz xs.length then .ok xs S1 else .stuck
theorem ite_stuck {p : Pl} {β : Type} {R : Hp → Hp → List Addr → Hp → β → α → Prop} {F H : Hp} {ι : List Addr} {σ : L2.St} {Q : β → Hp → Prop} {c : Bool} {o : Out α} (h : Post p R F ι H σ (if c then o else .stuck) Q) : c = true ∧ Post p R F ι H σ o Q := by
  cases c with
  | true => exact ⟨rfl, h⟩
  | false => exact h.elim
theorem xe_tup {es : List Expr} {fa : SemA} {k} (h : XA X W es fa) : XE X W (.Tuple es k pos) (eTup fa) := by
  refine peI (pe_tup h) fun σ H Q h => ?_
  obtain ⟨F, ι, ρ, S, s, r, q⟩ := h
  refine ⟨F, ι, ρ, S, s, r, post_bind (R := RA' X.K) q fun x S1 F1 ι1 v H1 x1 s1 rv q1 => ?_⟩
  obtain ⟨hz, q1⟩ := ite_stuck q1
  refine ⟨by rw [RelAll.length rv]; exact sz_le hz, fun p hp => ?_⟩
  obtain ⟨x2, s2⟩ := s1.frozen (o := .tup v) hp
  exact q1 _ _ _ _ x2 s2 (.tup upd_same (RelAll.mono x2 rv))
theorem xl_disp {es : List Expr} {fa : SemA} (h : XA X W es fa) : XL X W (.List es pos) (lDisp fa) := by
  refine peI (pe_lst h) fun σ H Q h => ?_
  obtain ⟨F, ι, ρ, S, s, r, q⟩ := h
  refine ⟨F, ι, ρ, S, s, r, post_bind (R := RA' X.K) q fun x S1 F1 ι1 v H1 x1 s1 rv q1 => ?_⟩
  obtain ⟨hz, q1⟩ := ite_stuck q1
  refine ⟨by rw [RelAll.length rv]; exact sz_le hz, fun p hp => ?_⟩
  obtain ⟨hf, hi⟩ := s1.fresh hp
  obtain ⟨x2, s2⟩ := s1.loose (o := .lst v) hp
  exact q1 _ _ _ _ x2 s2 ⟨p, v, rfl, hp, upd_same, hf, hi, rv⟩
def frz (fa : SemA) : SemE := fun ρ S => (fa ρ S).bind fun xs S1 => .ok (.lst xs) S1
def cellL (fa : SemA) : SemE := fun ρ S => (fa ρ S).bind fun xs S1 => if closedA S1.length xs then .ok (.ref S1.length) (S1 ++ [.lst true xs]) else .stuck
theorem Sim.freezeNew {K : PySem.W.Frag} {mg : Str → Option Value} {F F0 H0 : Hp} {ι ι0 : List Addr} {S : Store} {H : Hp} (s : Sim K mg F ι S H) (st : Step F0 ι0 H0 F ι H) {q : Addr} {o : HO} (h0 : H0 q = none) (hq : H q = some o) (hf : F q = none) (hi : q ∉ ι) (ho : ∀ ps, o ≠ .tbl ps := by intro _ z; cases z) :
    Ext F ι (upd F q o) ι ∧ Step F0 ι0 H0 (upd F q o) ι H ∧ Sim K mg (upd F q o) ι S H := by
  have x : Ext F ι (upd F q o) ι := ⟨same_upd hf, List.prefix_rfl⟩
  refine ⟨x, ⟨st.toExt.trans x, fun b u e1 e2 e3 e4 => ?_, st.dom⟩, fun b u e => ?_, s.len, s.nd, fun n a c ha hc => ?_, s.cl, s.tab, nt_upd s.nt ho, s.tt⟩
  · obtain ⟨k1, k2, k3⟩ := st.keep b u e1 e2 e3 e4
    exact ⟨k1, by rw [upd_ne (ne_of_none e1 h0)]; exact k2, k3⟩
  · by_cases hb : b = q
    · subst hb
      rw [upd_same] at e
      rw [hq]
      exact e
    · rw [upd_ne hb] at e
      exact s.sub b u e
  · have ne : a ≠ q := fun e => hi (e ▸ List.mem_of_getElem? ha)
    exact (s.cell n a c ha hc).mono x (fun e => by rw [upd_ne ne]; exact e) fun o' e => e
theorem xe_frz {fa : SemA} (h : XL X W a fa) : XE X W a (frz fa) := by
  refine peI h fun σ H Q h => ?_
  obtain ⟨F, ι, ρ, S, s, r, q⟩ := h
  refine ⟨F, ι, ρ, S, s, r, ?_⟩
  unfold frz at q
  cases e : fa ρ S with
  | ok x S1 =>
    rw [e] at q
    intro F1 ι1 v H1 x1 s1 rv
    obtain ⟨q', vs, rfl, h0, hq, hf, hi, rr⟩ := rv
    obtain ⟨x0, x2, s2⟩ := s1.freezeNew x1 h0 hq hf hi
    exact q _ _ _ _ x2 s2 (.lst upd_same (RelAll.mono0 x0 rr))
  | exc c fs S1 => rw [e] at q; exact q
  | stuck => rw [e] at q; exact q.elim
theorem xe_cell {fa : SemA} (h : XL X W a fa) : XE X W a (cellL fa) := by
  refine peI h fun σ H Q h => ?_
  obtain ⟨F, ι, ρ, S, s, r, q⟩ := h
  refine ⟨F, ι, ρ, S, s, r, ?_⟩
  unfold cellL at q
  cases e : fa ρ S with
  | ok x S1 =>
    rw [e] at q
    simp only [Out.ok_bind] at q
    obtain ⟨hcl, q⟩ := ite_stuck q
    intro F1 ι1 v H1 x1 s1 rv
    obtain ⟨q', vs, rfl, h0, hq, hf, hi, rr⟩ := rv
    have xx : Ext F1 ι1 F1 (ι1 ++ [q']) := ⟨Same.refl _, List.prefix_append _ _⟩
    obtain ⟨x2, s2⟩ := s1.newCell x1 (c := .lst true x) h0 hi ⟨vs, hq, RelAll.mono0 xx rr, hf⟩ hcl
    exact q _ _ _ _ x2 s2 (.ref (by rw [← s1.len]; simp))
  | exc c fs S1 => rw [e] at q; exact q
  | stuck => rw [e] at q; exact q.elim
end
end Fk
namespace Fk
open PySem PySem.Spec PyProof.Rows L2
def drc (n : Nat) : Option Cell → D
  | some (.lst _ xs) => .lst xs
  | some (.dK kvs) => .dct kvs
  | _ => .ref n
def dr (S : Store) : D → D
  | .ref n => drc n S[n]?
  | d => d
theorem dr_ref (S : Store) (n : Nat) : dr S (.ref n) = drc n S[n]? := rfl
theorem drc_no {n : Nat} {c : Option Cell} {d : D} (h : drc n c = d) : (∃ xs, d = .lst xs) ∨ (∃ xs, d = .dct xs) ∨ d = .ref n := by
  unfold drc at h
  split at h
  · exact .inl ⟨_, h.symm⟩
  · exact .inr (.inl ⟨_, h.symm⟩)
  · exact .inr (.inr h.symm)
section
variable {K : PySem.W.Frag} {mg : Str → Option Value} {F : Hp} {ι : List Addr} {S : Store} {H : Hp} {x : V} {d : D} {ds : List D}
theorem at_lst (s : Sim K mg F ι S H) (r : Rel K F ι x d) (h : dr S d = .lst ds) : ∃ a vs, x = .ref a ∧ H a = some (.lst vs) ∧ RelAll K F ι vs ds := by
  cases r with
  | lst e q =>
    cases (show D.lst _ = D.lst ds from h)
    exact ⟨_, _, rfl, s.sub _ _ e, q⟩
  | @ref n a e =>
    rw [dr_ref] at h
    cases hc : S[n]? with
    | none => rw [hc] at h; cases h
    | some c =>
      rw [hc] at h
      have ok := s.cell n a c e hc
      cases c with
      | lst b xs =>
        cases h
        cases b with
        | true => obtain ⟨vs, h1, h2, _⟩ := ok; exact ⟨_, vs, rfl, h1, h2⟩
        | false => obtain ⟨vs, h1, h2⟩ := ok; exact ⟨_, vs, rfl, s.sub _ _ h1, h2⟩
      | _ => cases h
  | _ => cases h
theorem at_tup (s : Sim K mg F ι S H) (r : Rel K F ι x d) (h : dr S d = .tup ds) : ∃ a vs, x = .ref a ∧ Tp H a vs ∧ Tp F a vs ∧ RelAll K F ι vs ds ∧ d = .tup ds := by
  cases r with
  | tp e q =>
    cases (show D.tup _ = D.tup ds from h)
    exact ⟨_, _, rfl, e.same s.sub, e, q, rfl⟩
  | @ref n a e =>
    rcases drc_no h with ⟨_, z⟩ | ⟨_, z⟩ | z <;> cases z
  | _ => cases h
theorem at_scr (s : Sim K mg F ι S H) (r : Rel K F ι x d) (h : dr S d = .scr ds) : ∃ a vs, x = .ref a ∧ SqL K H a vs ∧ RelAll K F ι vs ds := by
  cases r with
  | scr e q =>
    cases (show D.scr _ = D.scr ds from h)
    exact ⟨_, _, rfl, s.sub.seq e, q⟩
  | @ref n a e =>
    rcases drc_no h with ⟨_, z⟩ | ⟨_, z⟩ | z <;> cases z
  | _ => cases h
theorem at_dct (s : Sim K mg F ι S H) (r : Rel K F ι x d) {kds : List (Key × D)} (h : dr S d = .dct kds) : ∃ a kvs, x = .ref a ∧ H a = some (.dK kvs) ∧ RelKV K F ι kvs kds := by
  cases r with
  | dct e k q =>
    cases (show D.dct _ = D.dct kds from h)
    exact ⟨_, _, rfl, s.sub _ _ e, ⟨k, q⟩⟩
  | @ref n a e =>
    rw [dr_ref] at h
    cases hc : S[n]? with
    | none => rw [hc] at h; cases h
    | some c =>
      rw [hc] at h
      have ok := s.cell n a c e hc
      cases c with
      | dK kvs =>
        cases h
        obtain ⟨kvs, h1, h2, _⟩ := ok
        exact ⟨_, kvs, rfl, h1, h2⟩
      | _ => cases h
  | _ => cases h
theorem at_int (r : Rel K F ι x d) {i : Int} (h : dr S d = .int i) : x = .int i ∧ d = .int i := by
  cases r with
  | int j => cases h; exact ⟨rfl, rfl⟩
  | @ref n a e => rcases drc_no h with ⟨_, z⟩ | ⟨_, z⟩ | z <;> cases z
  | _ => cases h
theorem at_str (r : Rel K F ι x d) {i : Str} (h : dr S d = .str i) : x = .str i ∧ d = .str i := by
  cases r with
  | str j => cases h; exact ⟨rfl, rfl⟩
  | @ref n a e => rcases drc_no h with ⟨_, z⟩ | ⟨_, z⟩ | z <;> cases z
  | _ => cases h
def asInts : List D → Option (List Int)
  | [] => some []
  | .int i :: r => (asInts r).map (i :: ·)
  | _ :: _ => none
@[simp] theorem asInts_map : ∀ ns : List Int, asInts (ns.map D.int) = some ns
  | [] => rfl
  | n :: ns => by rw [List.map_cons, asInts, asInts_map ns]; rfl
theorem rel_ints : ∀ {vs : List V} {ds : List D} {ns : List Int}, RelAll K F ι vs ds → asInts ds = some ns → vs = ns.map V.int
  | _, _, _, .nil, h => by cases h; rfl
  | _, _, _, .cons (.int i) r, h => by
    simp only [asInts, Option.map_eq_some_iff] at h
    obtain ⟨m, h1, rfl⟩ := h
    rw [rel_ints r h1]
    rfl
  | _, _, _, .cons .non _, h => by cases h
  | _, _, _, .cons (.bl _) _, h => by cases h
  | _, _, _, .cons (.str _) _, h => by cases h
  | _, _, _, .cons (.tp _ _) _, h => by cases h
  | _, _, _, .cons (.ktp _ _ _ _) _, h => by cases h
  | _, _, _, .cons (.lst _ _) _, h => by cases h
  | _, _, _, .cons (.scr _ _) _, h => by cases h
  | _, _, _, .cons (.dct _ _ _) _, h => by cases h
  | _, _, _, .cons (.ref _) _, h => by cases h
def asBls : List D → Option (List Bool)
  | [] => some []
  | .bl i :: r => (asBls r).map (i :: ·)
  | _ :: _ => none
@[simp] theorem asBls_map : ∀ ns : List Bool, asBls (ns.map D.bl) = some ns
  | [] => rfl
  | n :: ns => by rw [List.map_cons, asBls, asBls_map ns]; rfl
theorem rel_at {vs : List V} {i : Int} {d : D} (r : RelAll K F ι vs ds) (h : atI ds i = some d) : ∃ v, atI vs i = some v ∧ Rel K F ι v d := by
  unfold atI at h ⊢
  rw [r.length]
  cases e : ixN ds.length i with
  | none => rw [e] at h; cases h
  | some j =>
    rw [e] at h
    exact r.get h
end
def cutD (xs : List D) (lo hi : Option Int) : List D := (xs.drop (HT.sIx xs.length 0 lo)).take (HT.sIx xs.length xs.length hi - HT.sIx xs.length 0 lo)
theorem rel_cut {K : PySem.W.Frag} {F : Hp} {ι : List Addr} {vs : List V} {ds : List D} (r : RelAll K F ι vs ds) (lo hi : Option Int) : RelAll K F ι (cutV vs lo hi) (cutD ds lo hi) := by
  unfold cutV cutD
  rw [r.length]
  exact (r.drop _).take _
def opAdd : D → D → Store → Option D := fun d e S => match dr S d, dr S e with
  | .int i, .int j => some (.int (i + j))
  | .str x, .str y => if sz (x.length + y.length) then some (.str (x ++ y)) else none
  | .tup xs, .tup ys => if sz (xs.length + ys.length) then some (.tup (xs ++ ys)) else none
  | .lst xs, .lst ys => if sz (xs.length + ys.length) then some (.lst (xs ++ ys)) else none
  | _, _ => none
def opCatL : D → D → Store → Option (List D) := fun d e S => match dr S d, dr S e with
  | .lst xs, .lst ys => if sz (xs.length + ys.length) then some (xs ++ ys) else none
  | _, _ => none
def opSub : D → D → Store → Option D := fun d e _ => match d, e with
  | .int i, .int j => some (.int (i - j))
  | _, _ => none
def mulOk (i j : Int) : Bool := decide (i.natAbs.log2 + j.natAbs.log2 < 1000000)
def opMul : D → D → Store → Option D := fun d e _ => match d, e with
  | .int i, .int j => if mulOk i j then some (.int (i * j)) else none
  | .tup xs, .int k => if decide (xs ≠ [] ∧ 2 ≤ k ∧ k ≤ 1000 ∧ xs.length ≤ 1000) then some (.tup (List.replicate k.toNat xs).flatten) else none
  | .lst xs, .int k => if decide (0 ≤ k ∧ k ≤ 100 ∧ xs.length ≤ 1000) then some (.lst (List.replicate k.toNat xs).flatten) else none
  | _, _ => none
def divOk (j : Int) : Bool := decide (0 < j ∧ j.natAbs.log2 < 9000)
def opDiv : D → D → Store → Option D := fun d e _ => match d, e with
  | .int i, .int j => if divOk j then some (.int (i / j)) else none
  | _, _ => none
def opMod : D → D → Store → Option D := fun d e _ => match d, e with
  | .int i, .int j => if decide (0 < j) then some (.int (i % j)) else none
  | _, _ => none
def powOk (i j : Int) : Bool := decide (0 ≤ j ∧ j ≤ 1000 ∧ i.natAbs < 2 ^ 64)
def opPow : D → D → Store → Option D := fun d e _ => match d, e with
  | .int i, .int j => if powOk i j then some (.int (i ^ j.toNat)) else none
  | _, _ => none
def opLt : D → D → Store → Option D := fun d e _ => match d, e with
  | .int i, .int j => some (.bl (decide (i < j)))
  | _, _ => none
def opLe : D → D → Store → Option D := fun d e _ => match d, e with
  | .int i, .int j => some (.bl (decide (i ≤ j)))
  | _, _ => none
def opGt : D → D → Store → Option D := fun d e _ => match d, e with
  | .int i, .int j => some (.bl (decide (j < i)))
  | _, _ => none
def opGe : D → D → Store → Option D := fun d e _ => match d, e with
  | .int i, .int j => some (.bl (decide (j ≤ i)))
  | _, _ => none
def opNeg : D → Store → Option D := fun d _ => match d with
  | .int i => some (.int (-i))
  | _ => none
section
variable {X : Cx}
theorem ox_add : OpX X (binaryOp .Add) opAdd := by
  intro pins s σ H x y v u Q I rx ry h
  obtain ⟨F, ι, S, d, e, a, sm, rd, re, ho, q⟩ := h
  unfold opAdd at ho
  split at ho
  · next i j h1 h2 =>
    cases ho
    obtain ⟨rfl, rfl⟩ := at_int rd h1
    obtain ⟨rfl, rfl⟩ := at_int re h2
    exact op_add pins s σ H _ _ v u Q I rx ry ⟨i, j, rfl, rfl, q F ι _ H (Step.refl _ _ _) sm (.int _)⟩
  · next i j h1 h2 =>
    split at ho
    · next hz =>
      cases ho
      obtain ⟨rfl, rfl⟩ := at_str rd h1
      obtain ⟨rfl, rfl⟩ := at_str re h2
      exact op_add_str pins s σ H _ _ v u Q I rx ry ⟨i, j, rfl, rfl, sz_le hz, q F ι _ H (Step.refl _ _ _) sm (.str _)⟩
    · cases ho
  · next xs ys h1 h2 =>
    split at ho
    · next hz =>
      cases ho
      obtain ⟨p1, vs, rfl, e1, f1, r1, rfl⟩ := at_tup sm rd h1
      obtain ⟨p2, ws, rfl, e2, f2, r2, rfl⟩ := at_tup sm re h2
      refine op_catA pins s σ H _ _ v u Q I rx ry ⟨p1, p2, vs, ws, rfl, rfl, e1.sq, e2.sq, ?_, fun hv => ?_, fun hv hw => ?_, fun hv hw p hp => ?_⟩
      · rw [r1.length, r2.length]; exact sz_le hz
      · subst hv
        cases r1
        exact q F ι _ H (Step.refl _ _ _) sm (.tp f2 r2)
      · subst hw
        cases r2
        rw [List.append_nil] at q
        exact q F ι _ H (Step.refl _ _ _) sm (.tp f1 r1)
      · obtain ⟨x2, s2⟩ := sm.frozen (o := .tup (vs ++ ws)) hp
        exact q _ _ _ _ x2 s2 (.tup upd_same (RelAll.mono x2 (r1.append r2)))
    · cases ho
  · next xs ys h1 h2 =>
    split at ho
    · next hz =>
      cases ho
      obtain ⟨p1, vs, rfl, e1, r1⟩ := at_lst sm rd h1
      obtain ⟨p2, ws, rfl, e2, r2⟩ := at_lst sm re h2
      refine op_cat pins s σ H _ _ v u Q I rx ry ⟨p1, p2, vs, ws, rfl, rfl, e1, e2, ?_, fun p hp => ?_⟩
      · rw [r1.length, r2.length]; exact sz_le hz
      · obtain ⟨x2, s2⟩ := sm.frozen (o := .lst (vs ++ ws)) hp
        exact q _ _ _ _ x2 s2 (.lst upd_same (RelAll.mono x2 (r1.append r2)))
    · cases ho
  · cases ho
theorem oxl_cat : OpXL X (binaryOp .Add) opCatL := by
  intro pins s σ H x y v u Q I rx ry h
  obtain ⟨F, ι, S, d, e, a, sm, rd, re, ho, q⟩ := h
  unfold opCatL at ho
  split at ho
  · next xs ys h1 h2 =>
    split at ho
    · next hz =>
      cases ho
      obtain ⟨p1, vs, rfl, e1, r1⟩ := at_lst sm rd h1
      obtain ⟨p2, ws, rfl, e2, r2⟩ := at_lst sm re h2
      refine op_cat pins s σ H _ _ v u Q I rx ry ⟨p1, p2, vs, ws, rfl, rfl, e1, e2, ?_, fun p hp => ?_⟩
      · rw [r1.length, r2.length]; exact sz_le hz
      · obtain ⟨hf, hi⟩ := sm.fresh hp
        exact q _ _ _ _ (sm.loose hp).1 (sm.loose hp).2 ⟨p, _, rfl, hp, upd_same, hf, hi, r1.append r2⟩
    · cases ho
  · cases ho
/-- an operation on two ints -/
theorem ox_int {f : Value → Value → Sem Value} {C : Int → Int → Prop} {g : Int → Int → V} {g' : Int → Int → D} {op : D → D → Store → Option D} (h : OpR X f (rI C g)) (hg : ∀ i j K F ι, Rel K F ι (g i j) (g' i j))
    (ho : ∀ d e S a, op d e S = some a → ∃ i j, d = .int i ∧ e = .int j ∧ C i j ∧ a = g' i j) : OpX X f op := by
  intro pins s σ H x y v u Q I rx ry hh
  obtain ⟨F, ι, S, d, e, a, sm, rd, re, hop, q⟩ := hh
  obtain ⟨i, j, rfl, rfl, hc, rfl⟩ := ho d e S a hop
  cases rel_int rd
  cases rel_int re
  exact h pins s σ H _ _ v u Q I rx ry ⟨i, j, rfl, rfl, hc, q F ι _ H (Step.refl _ _ _) sm (hg i j _ _ _)⟩
theorem rI_of {f : Value → Value → Sem Value} {g : Int → Int → V} (h : OpR X f (rI0 g)) : OpR X f (rI (fun _ _ => True) g) := fun pins s σ H x y v u Q I rx ry ⟨i, j, a, b, _, q⟩ => h pins s σ H x y v u Q I rx ry ⟨i, j, a, b, q⟩
theorem ox_sub : OpX X (binaryOp .Sub) opSub := ox_int (g' := fun i j => .int (i - j)) (rI_of op_sub) (fun _ _ _ _ _ => .int _) fun d e S a h => by
  unfold opSub at h
  split at h
  · cases h; exact ⟨_, _, rfl, rfl, trivial, rfl⟩
  · cases h
theorem ox_div : OpX X (binaryOp .FloorDiv) opDiv := ox_int (g' := fun i j => .int (i / j)) op_fdivW (fun _ _ _ _ _ => .int _) fun d e S a h => by
  unfold opDiv at h
  split at h
  · next i j =>
    split at h
    · next hz =>
      cases h
      have z : 0 < j ∧ j.natAbs.log2 < 9000 := of_decide_eq_true hz
      exact ⟨_, _, rfl, rfl, z, rfl⟩
    · cases h
  · cases h
theorem ox_mod : OpX X (binaryOp .Mod) opMod := ox_int (g' := fun i j => .int (i % j)) op_mod (fun _ _ _ _ _ => .int _) fun d e S a h => by
  unfold opMod at h
  split at h
  · split at h
    · next hz => cases h; exact ⟨_, _, rfl, rfl, of_decide_eq_true hz, rfl⟩
    · cases h
  · cases h
theorem ox_pow : OpX X (binaryOp .Pow) opPow := ox_int (g' := fun i j => .int (i ^ j.toNat)) op_pow (fun _ _ _ _ _ => .int _) fun d e S a h => by
  unfold opPow at h
  split at h
  · split at h
    · next hz =>
      cases h
      obtain ⟨a, b, c⟩ := of_decide_eq_true hz
      exact ⟨_, _, rfl, rfl, ⟨a, by omega, c⟩, rfl⟩
    · cases h
  · cases h
theorem ox_lt : OpX X (compareOp .Lt) opLt := ox_int (g' := fun i j => .bl (decide (i < j))) (rI_of op_lt) (fun _ _ _ _ _ => .bl _) fun d e S a h => by
  unfold opLt at h
  split at h
  · cases h; exact ⟨_, _, rfl, rfl, trivial, rfl⟩
  · cases h
theorem ox_gt : OpX X (compareOp .Gt) opGt := ox_int (g' := fun i j => .bl (decide (j < i))) (rI_of op_gt) (fun _ _ _ _ _ => .bl _) fun d e S a h => by
  unfold opGt at h
  split at h
  · cases h; exact ⟨_, _, rfl, rfl, trivial, rfl⟩
  · cases h
theorem ox_ge : OpX X (compareOp .GtE) opGe := ox_int (g' := fun i j => .bl (decide (j ≤ i))) (rI_of op_ge) (fun _ _ _ _ _ => .bl _) fun d e S a h => by
  unfold opGe at h
  split at h
  · cases h; exact ⟨_, _, rfl, rfl, trivial, rfl⟩
  · cases h
theorem ux_neg : UnX X (unaryOp .USub) opNeg := by
  intro pins s σ H x v Q I rx hh
  obtain ⟨F, ι, S, d, a, sm, rd, ho, q⟩ := hh
  unfold opNeg at ho
  split at ho
  · next i =>
    cases ho
    cases rel_int rd
    exact un_neg pins s σ H _ v Q I rx ⟨i, rfl, q F ι _ H (Step.refl _ _ _) sm (.int _)⟩
  · cases ho
theorem rel_rep {K : PySem.W.Frag} {F : Hp} {ι : List Addr} {vs : List V} {ds : List D} (r : RelAll K F ι vs ds) : ∀ n : Nat, RelAll K F ι (List.replicate n vs).flatten (List.replicate n ds).flatten
  | 0 => .nil
  | n + 1 => by
    rw [List.replicate_succ, List.replicate_succ, List.flatten_cons, List.flatten_cons]
    exact r.append (rel_rep r n)
theorem ox_mul : OpX X (binaryOp .Mult) opMul := by
  intro pins s σ H x y v u Q I rx ry h
  obtain ⟨F, ι, S, d, e, a, sm, rd, re, ho, q⟩ := h
  unfold opMul at ho
  split at ho
  · next i j =>
    split at ho
    · next hz =>
      cases ho
      cases rel_int rd
      cases rel_int re
      have z : i.natAbs.log2 + j.natAbs.log2 < 1000000 := of_decide_eq_true hz
      exact op_mulW pins s σ H _ _ v u Q I rx ry ⟨i, j, rfl, rfl, z, q F ι _ H (Step.refl _ _ _) sm (.int _)⟩
    · cases ho
  · next xs k =>
    split at ho
    · next hz =>
      cases ho
      obtain ⟨h1, h2, h3, h4⟩ := of_decide_eq_true hz
      cases rel_int re
      obtain ⟨p1, vs, rfl, e1, f1, r1, _⟩ := at_tup sm rd (show dr S (.tup xs) = .tup xs from rfl)
      refine op_repT pins s σ H _ _ v u Q I rx ry ⟨p1, k, vs, rfl, rfl, e1.sq, fun z => ?_, h2, h3, by rw [r1.length]; exact h4, fun p hp => ?_⟩
      · subst z
        cases r1
        exact h1 rfl
      · obtain ⟨x2, s2⟩ := sm.frozen (o := .tup (List.replicate k.toNat vs).flatten) hp
        exact q _ _ _ _ x2 s2 (.tup upd_same (RelAll.mono x2 (rel_rep r1 _)))
    · cases ho
  · next xs k =>
    split at ho
    · next hz =>
      cases ho
      obtain ⟨h1, h2, h3⟩ := of_decide_eq_true hz
      cases rel_int re
      obtain ⟨p1, vs, rfl, e1, r1⟩ := at_lst sm rd (show dr S (.lst xs) = .lst xs from rfl)
      refine op_rep pins s σ H _ _ v u Q I rx ry ⟨p1, k, vs, rfl, rfl, e1, by omega, by omega, ?_, fun p hp => ?_⟩
      · have h4 : k.toNat ≤ 100 := by omega
        have h5 : xs.length * k.toNat ≤ 1000 * 100 := Nat.mul_le_mul h3 h4
        rw [r1.length]
        exact Nat.le_trans h5 (by decide)
      · obtain ⟨x2, s2⟩ := sm.frozen (o := .lst (List.replicate k.toNat vs).flatten) hp
        exact q _ _ _ _ x2 s2 (.lst upd_same (RelAll.mono x2 (rel_rep r1 _)))
    · cases ho
  · cases ho
def opIx : D → D → Store → Option D := fun d e S => match dr S d, e with
  | .lst xs, .int i => atI xs i
  | .tup xs, .int i => atI xs i
  | .str z, .int i => if sz z.length then (atI z.cps.toList i).map fun c => .str ⟨#[c]⟩ else none
  | _, _ => none
theorem ix_any : IxR X (rO X.K X.mg (RV' X.K) opIx) := by
  intro value slice pins s σ H x y v u Q I rx ry h hs
  obtain ⟨F, ι, S, d, e, a, sm, rd, re, ho, q⟩ := h
  unfold opIx at ho
  split at ho
  · next xs i h1 =>
    cases rel_int re
    obtain ⟨p1, vs, rfl, e1, r1⟩ := at_lst sm rd h1
    obtain ⟨z, hz, rz⟩ := rel_at r1 ho
    exact ix_list value slice pins s σ H _ _ v u Q I rx ry ⟨p1, vs, i, z, rfl, rfl, SqL.of e1, hz, q F ι _ H (Step.refl _ _ _) sm rz⟩ hs
  · next xs i h1 =>
    cases rel_int re
    obtain ⟨p1, vs, rfl, e1, f1, r1, _⟩ := at_tup sm rd h1
    obtain ⟨z, hz, rz⟩ := rel_at r1 ho
    exact ix_tup value slice pins s σ H _ _ v u Q I rx ry ⟨p1, vs, i, z, rfl, rfl, e1.sq, hz, q F ι _ H (Step.refl _ _ _) sm rz⟩ hs
  · next z i h1 =>
    split at ho
    · next hz =>
      cases rel_int re
      obtain ⟨rfl, rfl⟩ := at_str rd h1
      obtain ⟨c, hc, rfl⟩ := Option.map_eq_some_iff.mp ho
      exact ix_str value slice pins s σ H _ _ v u Q I rx ry ⟨z, i, c, rfl, rfl, sz_le hz, hc, q F ι _ H (Step.refl _ _ _) sm (.str _)⟩ hs
    · cases ho
  · cases ho
variable {W : WX} {a b e : Expr} {f g : SemE} {pos p2 : Pos}
theorem xe_ix (ha : XE X W a f) (hb : XE X W b g) (hs : PlainIx b) : XE X W (.Subscript a b pos) (eBin opIx f g) := peI (pe_ix ix_any ha hb hs) fun _ _ _ h => tG_bin h
/-- a part of a slice -/
abbrev SemO := Env → Store → Out (Option Int)
abbrev XO (X : Cx) (W : WX) (e : Option Expr) (f : SemO) : Prop := PO X e (tG ⟨X.K, X.mg, W⟩ RO' f)
def oNone : SemO := fun _ S => .ok none S
def asI : D → Store → Out (Option Int)
  | .int i, S => .ok (some i) S
  | _, _ => .stuck
def oSome (f : SemE) : SemO := fun ρ S => (f ρ S).bind asI
theorem poI {e : Option Expr} {t t' : TO} (h : PO X e t) (i : ∀ σ H Q, t' σ H Q → t σ H Q) : PO X e t' := ⟨fun pins s σ H Q I q => h.run pins s σ H Q I (i _ _ _ q)⟩
theorem xo_none : XO X W none oNone := poI po_none fun σ H Q ⟨F, ι, ρ, S, s, r, q⟩ => q F ι none H (Step.refl _ _ _) s rfl
theorem xo_some (ha : XE X W a f) : XO X W (some a) (oSome f) := poI (po_some ha) fun σ H Q ⟨F, ι, ρ, S, s, r, q⟩ => by
  refine ⟨F, ι, ρ, S, s, r, post_bind (R := RV' X.K) q fun x S1 F1 ι1 v H1 x1 s1 rv q1 => ?_⟩
  cases x with
  | int i => exact ⟨i, rel_int rv, q1 F1 ι1 (some i) H1 (Step.refl _ _ _) s1 rfl⟩
  | _ => exact q1.elim
def opSl : D → Option Int → Option Int → Store → Option D := fun d lo hi S => match dr S d with
  | .tup xs => some (.tup (cutD xs lo hi))
  | .str z => if sz z.length then some (.str (cutS z lo hi)) else none
  | .lst xs => some (.lst (cutD xs lo hi))
  | .scr xs => some (.lst (cutD xs lo hi))
  | _ => none
def rS {α : Type} (K : PySem.W.Frag) (mg : Str → Option Value) (R : Hp → Hp → List Addr → Hp → V → α → Prop) (op : D → Option Int → Option Int → Store → Option α) : V → Option Int → Option Int → Hp → VK → Prop := fun x lo hi H Q =>
  ∃ F ι S d a, Sim K mg F ι S H ∧ Rel K F ι x d ∧ op d lo hi S = some a ∧ ∀ F' ι' v H', Step F ι H F' ι' H' → Sim K mg F' ι' S H' → R H F' ι' H' v a → Q v H'
def eSl {α : Type} (op : D → Option Int → Option Int → Store → Option α) (f : SemE) (l h : SemO) : Env → Store → Out α := fun ρ S => (f ρ S).bind fun x S1 => (l ρ S1).bind fun lo S2 => (h ρ S2).bind fun hi S3 => lift (op x lo hi S3) S3
theorem tG_sl {α : Type} {R : Hp → Hp → List Addr → Hp → V → α → Prop} {p : Pl} {op : D → Option Int → Option Int → Store → Option α} {l h : SemO} {σ : L2.St} {H : Hp} {Q : VK} (hh : tG p R (eSl op f l h) σ H Q) (hR : Stays R := by first | exact stV | exact stT | exact stA | exact stL | assumption) :
    tSl (rS p.K p.mg R op) (tE p f) (tG p RO' l) (tG p RO' h) σ H Q := by
  obtain ⟨F, ι, ρ, S, s, r, q⟩ := hh
  refine ⟨F, ι, ρ, S, s, r, post_bind (R := RV' p.K) q fun x S1 F1 ι1 v H1 x1 s1 rv q1 => ?_⟩
  refine ⟨F1, ι1, ρ, S1, s1, r.mono x1, post_bind (R := RO') q1 fun y S2 F2 ι2 u H2 x2 s2 ru q2 => ?_⟩
  refine ⟨F2, ι2, ρ, S2, s2, r.mono (x1.trans x2), post_bind (R := RO') q2 fun z S3 F3 ι3 w H3 x3 s3 rw' q3 => ?_⟩
  obtain ⟨k, hk, q4⟩ := post_lift q3
  cases (show u = y from ru)
  cases (show w = z from rw')
  exact ⟨F3, ι3, S3, x, k, s3, Rel.mono (x2.trans x3) rv, hk, q4⟩
theorem cutD_whole {vs : List D} {lo hi : Option Int} (h : HT.sIx vs.length 0 lo = 0 ∧ HT.sIx vs.length vs.length hi = vs.length) : cutD vs lo hi = vs := by
  unfold cutD
  rw [h.1, h.2, List.drop_zero, Nat.sub_zero, List.take_length]
theorem slx : SlR X (rS X.K X.mg (RV' X.K) opSl) := by
  intro pins s σ H x v vl vu lo hi sl Q I rx hs pl pu h
  obtain ⟨F, ι, S, d, a, sm, rd, ho, q⟩ := h
  unfold opSl at ho
  split at ho
  · next xs h1 =>
    cases ho
    obtain ⟨p1, vs, rfl, e1, f1, r1, rfl⟩ := at_tup sm rd h1
    refine sl_tupA pins s σ H _ v vl vu lo hi sl Q I rx hs pl pu ⟨p1, vs, rfl, e1.sq, fun hw => ?_, fun hw p hp => ?_⟩
    · rw [r1.length] at hw
      rw [cutD_whole hw] at q
      exact q F ι _ H (Step.refl _ _ _) sm rd
    · obtain ⟨x2, s2⟩ := sm.frozen (o := .tup (cutV vs lo hi)) hp
      exact q _ _ _ _ x2 s2 (.tup upd_same (RelAll.mono x2 (rel_cut r1 lo hi)))
  · next z h1 =>
    split at ho
    · next hz =>
      cases ho
      obtain ⟨rfl, rfl⟩ := at_str rd h1
      exact sl_str pins s σ H _ v vl vu lo hi sl Q I rx hs pl pu ⟨z, rfl, sz_le hz, q F ι _ H (Step.refl _ _ _) sm (.str _)⟩
    · cases ho
  · next xs h1 =>
    cases ho
    obtain ⟨p1, vs, rfl, e1, r1⟩ := at_lst sm rd h1
    refine sl_list pins s σ H _ v vl vu lo hi sl Q I rx hs pl pu ⟨p1, vs, rfl, SqL.of e1, fun p hp => ?_⟩
    obtain ⟨x2, s2⟩ := sm.frozen (o := .lst (cutV vs lo hi)) hp
    exact q _ _ _ _ x2 s2 (.lst upd_same (RelAll.mono x2 (rel_cut r1 lo hi)))
  · next xs h1 =>
    cases ho
    obtain ⟨p1, vs, rfl, e1, r1⟩ := at_scr sm rd h1
    refine sl_list pins s σ H _ v vl vu lo hi sl Q I rx hs pl pu ⟨p1, vs, rfl, e1, fun p hp => ?_⟩
    obtain ⟨x2, s2⟩ := sm.frozen (o := .lst (cutV vs lo hi)) hp
    exact q _ _ _ _ x2 s2 (.lst upd_same (RelAll.mono x2 (rel_cut r1 lo hi)))
  · cases ho
theorem xe_sl {lo hi : Option Expr} {l h : SemO} (he : XE X W e f) (hl : XO X W lo l) (hu : XO X W hi h) : XE X W (.Subscript e (.Slice lo hi none p2) pos) (eSl opSl f l h) := peI (pe_slice slx he hl hu) fun _ _ _ h => tG_sl h
end
end Fk
namespace Fk
open PySem PySem.Spec PyProof.Rows L2
def keyD : Key → PyData
  | .inl i => .int i
  | .inr x => .str x
mutual
def dat : D → Option PyData
  | .non => some .none
  | .bl b => some (.bool b)
  | .int i => some (.int i)
  | .str x => some (.str x)
  | .tup xs => (datAll xs).map .tuple
  | .ktp xs => (datAll xs).map .tuple
  | .lst xs => (datAll xs).map .list
  | .scr xs => (datAll xs).map .list
  | .dct kvs => (datKV kvs).map .dict
  | .ref _ => none
  | .exn _ _ _ => none
def datAll : List D → Option (List PyData)
  | [] => some []
  | d :: ds => (dat d).bind fun x => (datAll ds).map (x :: ·)
def datKV : List (Key × D) → Option (List (PyData × PyData))
  | [] => some []
  | (k, d) :: ds => (dat d).bind fun x => (datKV ds).map ((keyD k, x) :: ·)
end
/-- a list of the written part -/
def K0 (X : Cx) (b : Addr) : Prop := ∃ o, X.K.lookup b = some o ∧ o.cls = .type "list"
section
variable {X : Cx} {pins : List (Addr × Obj)} {σ : L2.St} {H : Hp} {s : Shared} {F : Hp} {ι : List Addr}
theorem reads_keys {P : Program} {w : World} {h : Heap} : ∀ {es : List DictEntry} {vs : List (Key × Value)}, Pairs (mixKind P w) es vs → ReadsAll h (es.map (·.key)) (vs.map fun q => keyD q.1) [] := by
  intro es vs hp
  induction hp with
  | nil => exact .nil
  | @cons e k es vs h1 _ h2 ih =>
    refine ReadsAll.cons (as := []) (bs := []) ?_ ih
    have h1' : keyIs k.1 e.key = true := h1
    rcases keyIs_shape h1' with ⟨i, t, hk, hv⟩ | ⟨x, t, hk, hv⟩
    · show Reads h e.key (keyD k.1) []
      rw [hv, hk]
      exact Reads.int i t
    · show Reads h e.key (keyD k.1) []
      rw [hv, hk]
      exact Reads.str x t
theorem pairs_vals {P : Program} {w : World} : ∀ {es : List DictEntry} {vs : List (Key × Value)}, Pairs (mixKind P w) es vs → es.map (·.val) = vs.map (·.2) := by
  intro es vs hp
  induction hp with
  | nil => rfl
  | @cons e k es vs _ h1 h2 ih => rw [List.map_cons, List.map_cons, h1, ih]
theorem kv_vals {kvs : List (Key × V)} {vs : List (Key × Value)} (h : KV kvs vs) : kvs.map (·.1) = vs.map (·.1) ∧ Vals (kvs.map (·.2)) (vs.map (·.2)) := by
  unfold KV at h
  induction h with
  | nil => exact ⟨rfl, .nil⟩
  | @cons p q l1 l2 h1 h2 ih => exact ⟨by rw [List.map_cons, List.map_cons, h1.1, ih.1], .cons h1.2 ih.2⟩
theorem datKV_split : ∀ {kds : List (Key × D)} {ps : List (PyData × PyData)}, datKV kds = some ps → ps.map (·.1) = kds.map (fun q => keyD q.1) ∧ datAll (kds.map (·.2)) = some (ps.map (·.2))
  | [], _, h => by
    simp only [datKV, Option.some.injEq] at h
    subst h
    exact ⟨rfl, by simp [datAll]⟩
  | (k, d) :: r, ps, h => by
    simp only [datKV, Option.bind_eq_some_iff, Option.map_eq_some_iff] at h
    obtain ⟨x, hx, qs, hq, rfl⟩ := h
    obtain ⟨h1, h2⟩ := datKV_split hq
    refine ⟨by rw [List.map_cons, List.map_cons, h1], ?_⟩
    rw [List.map_cons, List.map_cons, datAll, hx, h2]
    rfl
mutual
theorem reads_of (I : Inv X pins σ H s) (sub : Same F H) : ∀ {d : D} {v : V} {u : Value} {y : PyData}, Rel X.K F ι v d → RelV v u → dat d = some y → ∃ as, Reads s.heap u y as ∧ ∀ b ∈ as, ∃ o, H b = some o ∨ K0 X b
  | _, _, _, _, .non, r, h => by
    simp only [dat, Option.some.injEq] at h
    subst h
    cases r
    exact ⟨_, Reads.none, by simp⟩
  | _, _, _, _, .bl b, r, h => by
    simp only [dat, Option.some.injEq] at h
    subst h
    cases r
    exact ⟨_, Reads.bool b, by simp⟩
  | _, _, _, _, .int i, r, h => by
    simp only [dat, Option.some.injEq] at h
    subst h
    obtain ⟨t, rfl⟩ := r
    exact ⟨_, Reads.int i t, by simp⟩
  | _, _, _, _, .str x, r, h => by
    simp only [dat, Option.some.injEq] at h
    subst h
    obtain ⟨t, rfl⟩ := r
    exact ⟨_, Reads.str x t, by simp⟩
  | _, _, _, _, .exn0 _ _, r, h => by simp [dat] at h
  | _, _, _, _, .exn _ _ _ _ _, r, h => by simp [dat] at h
  | _, _, _, _, .ktp hs _ _ ha, r, h => by
    simp only [dat, Option.map_eq_some_iff] at h
    obtain ⟨ys, h, rfl⟩ := h
    cases r
    obtain ⟨its, rv, ⟨o, ho, hc, n, hd⟩, _⟩ := I.tuple (.inl (.inr ⟨_, sub _ _ hs⟩))
    obtain ⟨as, hr, hb⟩ := reads_all I sub ha rv h
    exact ⟨_, Reads.tuple ho hc hd hr, hb⟩
  | _, _, _, _, .tp hs ha, r, h => by
    simp only [dat, Option.map_eq_some_iff] at h
    obtain ⟨ys, h, rfl⟩ := h
    cases r
    obtain ⟨its, rv, ⟨o, ho, hc, n, hd⟩, _⟩ := I.tuple (hs.same sub).sq
    obtain ⟨as, hr, hb⟩ := reads_all I sub ha rv h
    exact ⟨_, Reads.tuple ho hc hd hr, hb⟩
  | _, _, _, _, .lst (a := a) hs ha, r, h => by
    simp only [dat, Option.map_eq_some_iff] at h
    obtain ⟨ys, h, rfl⟩ := h
    cases r
    obtain ⟨its, rv, ⟨o, n, ho, hc, _, hd⟩, _⟩ := I.list (SqL.of (sub _ _ hs))
    obtain ⟨as, hr, hb⟩ := reads_all I sub ha rv h
    refine ⟨_, Reads.list ho hc hd hr, fun b hm => ?_⟩
    rcases List.mem_cons.mp hm with rfl | hm
    · exact ⟨_, .inl (sub _ _ hs)⟩
    · exact hb b hm
  | _, _, _, _, .scr (a := a) hs ha, r, h => by
    simp only [dat, Option.map_eq_some_iff] at h
    obtain ⟨ys, h, rfl⟩ := h
    cases r
    obtain ⟨its, rv, ⟨o, n, ho, hc, _, hd⟩, _⟩ := I.list (sub.seq hs)
    obtain ⟨as, hr, hb⟩ := reads_all I sub ha rv h
    refine ⟨_, Reads.list ho hc hd hr, fun b hm => ?_⟩
    rcases List.mem_cons.mp hm with rfl | hm
    · rcases sub.seq hs with (z | ⟨o, z⟩) | ⟨o, its, n, z, zc, _⟩
      · exact ⟨_, .inl z⟩
      · exact ⟨_, .inl z⟩
      · exact ⟨.lst [], .inr ⟨o, z, zc⟩⟩
    · exact hb b hm
  | _, _, _, _, .dct (a := a) (kvs := kvs) (kds := kds) hs hk ha, r, h => by
    simp only [dat, Option.map_eq_some_iff] at h
    obtain ⟨ys, h, rfl⟩ := h
    cases r
    obtain ⟨_, hsm, vs, hkv, o, es, ep, ho, hx, hd, _, hp, _⟩ := (show ObjOk X.prog X.w H s.heap a (.dK kvs) from I.hok a _ (sub _ _ hs))
    obtain ⟨k1, k2⟩ := kv_vals hkv
    obtain ⟨d1, d2⟩ := datKV_split h
    obtain ⟨as, hr, hb⟩ := reads_all I sub ha k2 d2
    have rk := reads_keys (h := s.heap) hp
    have e1 : (vs.map fun q => keyD q.1) = ys.map (·.1) := by
      rw [d1]
      have e2 : vs.map (·.1) = kds.map (·.1) := k1.symm.trans hk
      have e3 := congrArg (List.map keyD) e2
      rw [List.map_map, List.map_map] at e3
      exact e3
    rw [e1] at rk
    rw [← pairs_vals hp] at hr
    refine ⟨_, Reads.dict ho hx.1 hd rk hr, fun b hm => ?_⟩
    rw [List.cons_append, List.nil_append] at hm
    rcases List.mem_cons.mp hm with rfl | hm
    · exact ⟨_, .inl (sub _ _ hs)⟩
    · exact hb b hm
  | _, _, _, _, .ref _, _, h => by simp [dat] at h
theorem reads_all (I : Inv X pins σ H s) (sub : Same F H) : ∀ {ds : List D} {vs : List V} {us : List Value} {ys : List PyData}, RelAll X.K F ι vs ds → Vals vs us → datAll ds = some ys → ∃ as, ReadsAll s.heap us ys as ∧ ∀ b ∈ as, ∃ o, H b = some o ∨ K0 X b
  | _, _, _, _, .nil, r, h => by
    simp only [datAll, Option.some.injEq] at h
    subst h
    cases r
    exact ⟨_, ReadsAll.nil, by simp⟩
  | _, _, _, _, .cons h1 h2, r, h => by
    simp only [datAll, Option.bind_eq_some_iff, Option.map_eq_some_iff] at h
    obtain ⟨x, hx, qs, hq, rfl⟩ := h
    cases r with
    | cons r1 r2 =>
      obtain ⟨as, q1, b1⟩ := reads_of I sub h1 r1 hx
      obtain ⟨bs, q2, b2⟩ := reads_all I sub h2 r2 hq
      refine ⟨_, ReadsAll.cons q1 q2, fun b hm => ?_⟩
      rcases List.mem_append.mp hm with hm | hm
      · exact b1 b hm
      · exact b2 b hm
end
end
theorem reads_dr {X : Cx} {pins : List (Addr × Obj)} {σ : L2.St} {H : Hp} {s : Shared} {F : Hp} {ι : List Addr} {S : Store} (I : Inv X pins σ H s) (sm : Sim X.K X.mg F ι S H) {d : D} {v : V} {u : Value} {y : PyData} (rd : Rel X.K F ι v d) (r : RelV v u) (h : dat (dr S d) = some y) :
    ∃ as, Reads s.heap u y as ∧ ∀ b ∈ as, ∃ o, H b = some o ∨ K0 X b := by
  by_cases hn : ∃ n, d = .ref n
  · obtain ⟨n, rfl⟩ := hn
    have hz : dr S (.ref n) = dr S (.ref n) := rfl
    cases e : dr S (.ref n) with
    | lst ds =>
      obtain ⟨a, vs, rfl, ha, ra⟩ := at_lst sm rd e
      rw [e] at h
      simp only [dat, Option.map_eq_some_iff] at h
      obtain ⟨ys, h, rfl⟩ := h
      cases r
      obtain ⟨its, rv, ⟨o, m, ho, hc, _, hd⟩, _⟩ := I.list (SqL.of ha)
      obtain ⟨as, hr, hb⟩ := reads_all I sm.sub ra rv h
      refine ⟨_, Reads.list ho hc hd hr, fun b hm => ?_⟩
      rcases List.mem_cons.mp hm with rfl | hm
      · exact ⟨_, .inl ha⟩
      · exact hb b hm
    | dct kds =>
      obtain ⟨a, kvs, rfl, ha, ra⟩ := at_dct sm rd e
      rw [e] at h
      simp only [dat, Option.map_eq_some_iff] at h
      obtain ⟨ys, h, rfl⟩ := h
      cases r
      obtain ⟨_, hsm, vs, hkv, o, es, ep, ho, hx, hd, _, hp, _⟩ := (show ObjOk X.prog X.w H s.heap a (.dK kvs) from I.hok a _ ha)
      obtain ⟨k1, k2⟩ := kv_vals hkv
      obtain ⟨d1, d2⟩ := datKV_split h
      obtain ⟨as, hr, hb⟩ := reads_all I sm.sub ra.vs k2 d2
      have rk := reads_keys (h := s.heap) hp
      have e1 : (vs.map fun q => keyD q.1) = ys.map (·.1) := by
        rw [d1]
        have e2 : vs.map (·.1) = kds.map (·.1) := k1.symm.trans ra.ks
        have e3 := congrArg (List.map keyD) e2
        rw [List.map_map, List.map_map] at e3
        exact e3
      rw [e1] at rk
      rw [← pairs_vals hp] at hr
      refine ⟨_, Reads.dict ho hx.1 hd rk hr, fun b hm => ?_⟩
      rw [List.cons_append, List.nil_append] at hm
      rcases List.mem_cons.mp hm with rfl | hm
      · exact ⟨_, .inl ha⟩
      · exact hb b hm
    | ref m => rw [e] at h; simp [dat] at h
    | _ => rcases drc_no e with ⟨_, z⟩ | ⟨_, z⟩ | z <;> cases z
  · have e : dr S d = d := by
      cases d with
      | ref n => exact absurd ⟨n, rfl⟩ hn
      | _ => rfl
    rw [e] at h
    exact reads_of I sm.sub rd r h
def eqD (d e : D) (S : Store) : Option Bool := match dr S d, dr S e with
  | .tup xs, .tup [] => some xs.isEmpty
  | x, y => (dat x).bind fun a => (dat y).bind fun b => if SeqAt.shaped a && SeqAt.shaped b then some (PyData.eqv a b) else none
def opEq : D → D → Store → Option D := fun d e S => (eqD d e S).map .bl
section
variable {X : Cx}
theorem ox_eq (hu : X.A.units + 64 < cLine) : OpX X (compareOp .Eq) opEq := by
  intro pins s σ H x y v u Q I rx ry h
  obtain ⟨F, ι, S, d, e, a, sm, rd, re, ho, q⟩ := h
  obtain ⟨b, hq, rfl⟩ := Option.map_eq_some_iff.mp ho
  clear ho
  unfold eqD at hq
  split at hq
  · next xs h1 h2 =>
    cases hq
    obtain ⟨p1, vs, rfl, e1, f1, r1, _⟩ := at_tup sm rd h1
    obtain ⟨p2, ws, rfl, e2, f2, r2, _⟩ := at_tup sm re h2
    cases r2
    cases rx
    cases ry
    obtain ⟨its, rv, t1, _⟩ := I.tuple (e1.sq)
    obtain ⟨its2, rv2, t2, _⟩ := I.tuple (e2.sq)
    cases rv2
    have hz := SeqAt.eq_tupleAt (prog := X.prog) (w := X.w) (A := X.A) (E := X.xe) (s := s) (Q := EP X pins σ Q) (l := p1) (b := p2) (items := its.toArray) (items2 := #[]) (e := fun _ => false)
    refine hz t1 t2 (by omega) (fun i h1 h2 => absurd h2 (by simp)) ?_
    have hl : xs.isEmpty = ((List.range (min its.toArray.size (#[] : Array Value).size)).all (fun _ => false) && its.toArray.size == (#[] : Array Value).size) := by
      cases r1 with
      | nil => cases rv; rfl
      | cons _ _ => cases rv; simp
    rw [← hl]
    exact ⟨.bl _, H, I, rfl, q F ι _ H (Step.refl _ _ _) sm (.bl _)⟩
  · simp only [Option.bind_eq_some_iff] at hq
    obtain ⟨da, h1, db, h2, hq⟩ := hq
    split at hq
    · next hz =>
      cases hq
      obtain ⟨z1, z2⟩ := Bool.and_eq_true_iff.mp hz
      obtain ⟨as, r1, _⟩ := reads_dr I sm rd rx h1
      obtain ⟨bs, r2, _⟩ := reads_dr I sm re ry h2
      exact SeqAt.compareEq_shaped r1 r2 z1 z2 hu ⟨.bl _, H, I, rfl, q F ι _ H (Step.refl _ _ _) sm (.bl _)⟩
    · cases hq
def neD (d e : D) (S : Store) : Option Bool := (dat (dr S d)).bind fun a => (dat (dr S e)).bind fun b => if SeqAt.shaped a && SeqAt.shaped b then some (PyData.eqv a b) else none
def opNe : D → D → Store → Option D := fun d e S => (neD d e S).map fun b => .bl (!b)
theorem ox_ne (hu : X.A.units + 64 < cLine) : OpX X (compareOp .NotEq) opNe := by
  intro pins s σ H x y v u Q I rx ry h
  obtain ⟨F, ι, S, d, e, a, sm, rd, re, ho, q⟩ := h
  obtain ⟨b, hq, rfl⟩ := Option.map_eq_some_iff.mp ho
  clear ho
  unfold neD at hq
  simp only [Option.bind_eq_some_iff] at hq
  obtain ⟨da, h1, db, h2, hq⟩ := hq
  split at hq
  · next hz =>
    cases hq
    obtain ⟨z1, z2⟩ := Bool.and_eq_true_iff.mp hz
    obtain ⟨as, r1, _⟩ := reads_dr I sm rd rx h1
    obtain ⟨bs, r2, _⟩ := reads_dr I sm re ry h2
    exact SeqAt.compareNe_shaped r1 r2 z1 z2 hu ⟨.bl _, H, I, rfl, q F ι _ H (Step.refl _ _ _) sm (.bl _)⟩
  · cases hq
def isNon : D → Bool
  | .non => true
  | _ => false
def opIsN : D → D → Store → Option D := fun d e _ => match e with
  | .non => some (.bl (isNon d))
  | _ => none
def opNotN : D → D → Store → Option D := fun d e _ => match e with
  | .non => some (.bl (!isNon d))
  | _ => none
def reprD : List D → Store → Option D
  | [d], S => (dat (dr S d)).bind fun y => if y.showable && decide (y.shown.length ≤ 16000000) && decide (y.depth ≤ 60) then some (.str y.shown) else none
  | _, _ => none
theorem long_le {n : Nat} (h : decide (n ≤ 16000000) = true) : n ≤ sizeLine := Nat.le_trans (of_decide_eq_true h) (by decide)
/-- what is known of sys.modules -/
def SM (X : Cx) : Prop := ∃ o, X.base.get? sysModules = some o ∧ o.cls ≠ .type "list"
theorem SM.out {pins : List (Addr × Obj)} {σ : L2.St} {H : Hp} {s : Shared} (h : SM X) (I : Inv X pins σ H s) {b : Addr} {o : HO} (hb : H b = some o ∨ K0 X b) : b ≠ sysModules := by
  obtain ⟨o', e, hc⟩ := h
  intro z
  subst z
  rcases hb with hb | ⟨o2, h2, c2⟩
  · rw [(I.bs _ _ e).2] at hb
    cases hb
  · have := I.ok.mod.kin _ _ h2
    rw [e] at this
    cases this
    exact hc c2
theorem cx_repr (hg : X.A.guards = some []) (hu : X.A.units + 64 < cLine) (hm : SM X) : CallX X (.builtin "repr") reprD := by
  intro pins s σ H xs us Q I r h
  obtain ⟨F, ι, S, ds, a, sm, rd, ho, q⟩ := h
  unfold reprD at ho
  split at ho
  · next d =>
    simp only [Option.bind_eq_some_iff] at ho
    obtain ⟨y, h1, ho⟩ := ho
    split at ho
    · next hz =>
      cases ho
      obtain ⟨hz, z3⟩ := Bool.and_eq_true_iff.mp hz
      obtain ⟨z1, z2⟩ := Bool.and_eq_true_iff.mp hz
      have z3 := of_decide_eq_true z3
      cases rd with
      | @cons v1 _ _ _ rd1 rd2 =>
        cases rd2
        obtain ⟨u1, rfl, ru⟩ := vals1 r
        obtain ⟨as, rr, hb⟩ := reads_dr I sm rd1 ru h1
        have fin : ∀ (h' : Heap) (t : Tok) (k : Nat), (∀ b o, s.heap.get? b = some o → h'.get? b = some o) → EP X pins σ Q (.str y.shown t) { s with heap := h', toks := k } := fun h' t k hk =>
          ⟨.str y.shown, H, I.kept hk, ⟨t, rfl⟩, q F ι _ H (Step.refl _ _ _) sm (.str _)⟩
        have hall : y.hasDict = true → sysModules ∉ as := fun _ hin => by
          obtain ⟨o, ho⟩ := hb _ hin
          exact hm.out I ho rfl
        cases rr with
        | none => exact PySem.P.repr_of_none (fin s.heap _ _ fun _ _ e => e)
        | bool b => exact PySem.P.repr_of_bool (by rw [PyData.shown_bool] at fin; exact fin s.heap _ _ fun _ _ e => e)
        | int i t =>
          have hi : i.natAbs.log2 < 1920 := by simpa [PyData.showable] using z1
          exact PySem.P.repr_of_int hi (fin s.heap _ _ fun _ _ e => e)
        | str x t => exact PySem.P.repr_of_str (fin s.heap _ _ fun _ _ e => e) (by rw [PyData.shown_str] at z2; exact long_le z2)
        | list a1 a2 a3 a4 => exact repr_of_reads' (Reads.list a1 a2 a3 a4) z1 hall hg (by omega) (fun b o e => e) (fun h' u tk hk => fin h' u tk hk) (long_le z2)
        | tuple a1 a2 a3 a4 => exact repr_of_reads' (Reads.tuple a1 a2 a3 a4) z1 hall hg (by omega) (fun b o e => e) (fun h' u tk hk => fin h' u tk hk) (long_le z2)
        | dict a1 a2 a3 a4 a5 => exact repr_of_reads' (Reads.dict a1 a2 a3 a4 a5) z1 hall hg (by omega) (fun b o e => e) (fun h' u tk hk => fin h' u tk hk) (long_le z2)
    · cases ho
  · cases ho
end
end Fk
namespace Fk
open PySem PySem.Spec PyProof.Rows L2
def lenD : List D → Store → Option D
  | [d], S => match dr S d with
    | .lst xs => some (.int xs.length)
    | .tup xs => some (.int xs.length)
    | .scr xs => some (.int xs.length)
    | .str x => if sz x.length then some (.int x.length) else none
    | .dct kvs => some (.int kvs.length)
    | _ => none
  | _, _ => none
def absD : List D → Store → Option D
  | [.int i], _ => some (.int (if i < 0 then -i else i))
  | _, _ => none
def intD : List D → Store → Option D
  | [.int i], _ => some (.int i)
  | [.bl b], _ => some (.int (if b then 1 else 0))
  | _, _ => none
def maxL : List Int → Int
  | [] => 0
  | [x] => x
  | x :: y :: r => if maxL (y :: r) > x then maxL (y :: r) else x
def minL : List Int → Int
  | [] => 0
  | [x] => x
  | x :: y :: r => if minL (y :: r) < x then minL (y :: r) else x
theorem maxL_mem : ∀ {xs : List Int}, xs ≠ [] → maxL xs ∈ xs
  | [], h => absurd rfl h
  | [x], _ => by simp [maxL]
  | x :: y :: r, _ => by
    rw [maxL]
    split
    · exact List.mem_cons_of_mem _ (maxL_mem (by simp))
    · exact List.mem_cons_self
theorem maxL_le : ∀ {xs : List Int} {z : Int}, z ∈ xs → z ≤ maxL xs
  | [x], z, h => by simp at h; simp [maxL, h]
  | x :: y :: r, z, h => by
    rw [maxL]
    rcases List.mem_cons.mp h with rfl | h
    · split <;> omega
    · have := maxL_le (xs := y :: r) h
      split <;> omega
theorem minL_mem : ∀ {xs : List Int}, xs ≠ [] → minL xs ∈ xs
  | [], h => absurd rfl h
  | [x], _ => by simp [minL]
  | x :: y :: r, _ => by
    rw [minL]
    split
    · exact List.mem_cons_of_mem _ (minL_mem (by simp))
    · exact List.mem_cons_self
theorem minL_le : ∀ {xs : List Int} {z : Int}, z ∈ xs → minL xs ≤ z
  | [x], z, h => by simp at h; simp [minL, h]
  | x :: y :: r, z, h => by
    rw [minL]
    rcases List.mem_cons.mp h with rfl | h
    · split <;> omega
    · have := minL_le (xs := y :: r) h
      split <;> omega
theorem maxL_unique {xs : List Int} {m : Int} (h : m ∈ xs) (hm : ∀ y ∈ xs, y ≤ m) : m = maxL xs := by
  have h1 := maxL_le h
  have h2 := hm _ (maxL_mem (List.ne_nil_of_mem h))
  omega
theorem minL_unique {xs : List Int} {m : Int} (h : m ∈ xs) (hm : ∀ y ∈ xs, m ≤ y) : m = minL xs := by
  have h1 := minL_le h
  have h2 := hm _ (minL_mem (List.ne_nil_of_mem h))
  omega
def maxD : List D → Store → Option D
  | [d], S => match dr S d with
    | .lst xs => (asInts xs).bind fun ns => if ns.isEmpty then none else some (.int (maxL ns))
    | _ => none
  | [.int i, .int j], _ => some (.int (if j > i then j else i))
  | _, _ => none
def minD : List D → Store → Option D
  | [d], S => match dr S d with
    | .lst xs => (asInts xs).bind fun ns => if ns.isEmpty then none else some (.int (minL ns))
    | _ => none
  | [.int i, .int j], _ => some (.int (if j < i then j else i))
  | _, _ => none
def tupD : List D → Store → Option D
  | [d], S => match dr S d with
    | .lst xs => some (.tup xs)
    | .tup xs => some (.tup xs)
    | _ => none
  | _, _ => none
def lstD : List D → Store → Option (List D)
  | [d], S => match dr S d with
    | .lst xs => some xs
    | .tup xs => some xs
    | .scr xs => some xs
    | _ => none
  | _, _ => none
section
variable {X : Cx}
theorem rel1 {K : PySem.W.Frag} {F : Hp} {ι : List Addr} {xs : List V} {d : D} (r : RelAll K F ι xs [d]) : ∃ x, xs = [x] ∧ Rel K F ι x d := by
  cases r with
  | cons h t => cases t; exact ⟨_, rfl, h⟩
theorem rel2 {K : PySem.W.Frag} {F : Hp} {ι : List Addr} {xs : List V} {d e : D} (r : RelAll K F ι xs [d, e]) : ∃ x y, xs = [x, y] ∧ Rel K F ι x d ∧ Rel K F ι y e := by
  cases r with
  | cons h t =>
    obtain ⟨y, rfl, h2⟩ := rel1 t
    exact ⟨_, _, rfl, h, h2⟩
theorem cx_len : CallX X (.builtin "len") lenD := by
  intro pins s σ H xs us Q I r h
  obtain ⟨F, ι, S, ds, a, sm, rd, ho, q⟩ := h
  unfold lenD at ho
  split at ho
  · obtain ⟨x, rfl, rx⟩ := rel1 rd
    split at ho
    · next xs h1 =>
      cases ho
      obtain ⟨p, vs, rfl, e1, r1⟩ := at_lst sm rx h1
      refine call_len pins s σ H _ us Q I r ⟨_, vs.length, rfl, .inl ⟨vs, SqL.of e1, rfl⟩, ?_⟩
      rw [r1.length]
      exact q F ι _ H (Step.refl _ _ _) sm (.int _)
    · next xs h1 =>
      cases ho
      obtain ⟨p, vs, rfl, e1, _, r1, _⟩ := at_tup sm rx h1
      refine call_len pins s σ H _ us Q I r ⟨_, vs.length, rfl, .inr ⟨vs, e1.sq, rfl⟩, ?_⟩
      rw [r1.length]
      exact q F ι _ H (Step.refl _ _ _) sm (.int _)
    · next xs h1 =>
      cases ho
      obtain ⟨p, vs, rfl, e1, r1⟩ := at_scr sm rx h1
      refine call_len pins s σ H _ us Q I r ⟨_, vs.length, rfl, .inl ⟨vs, e1, rfl⟩, ?_⟩
      rw [r1.length]
      exact q F ι _ H (Step.refl _ _ _) sm (.int _)
    · next z h1 =>
      split at ho
      · next hz =>
        cases ho
        obtain ⟨rfl, _⟩ := at_str rx h1
        exact call_len pins s σ H _ us Q I r ⟨_, z.length, rfl, ⟨sz_le hz, rfl⟩, q F ι _ H (Step.refl _ _ _) sm (.int _)⟩
      · cases ho
    · next kvs h1 =>
      cases ho
      obtain ⟨p, vs, rfl, e1, r1⟩ := at_dct sm rx h1
      refine call_lenD pins s σ H _ us Q I r ⟨_, vs, rfl, e1, ?_⟩
      have hl : vs.length = kvs.length := by
        have := congrArg List.length r1.ks
        simpa using this
      rw [hl]
      exact q F ι _ H (Step.refl _ _ _) sm (.int _)
    · cases ho
  · cases ho
theorem cx_abs : CallX X (.builtin "abs") absD := by
  intro pins s σ H xs us Q I r h
  obtain ⟨F, ι, S, ds, a, sm, rd, ho, q⟩ := h
  unfold absD at ho
  split at ho
  · next i =>
    cases ho
    obtain ⟨x, rfl, rx⟩ := rel1 rd
    cases rel_int rx
    exact call_abs pins s σ H _ us Q I r ⟨i, rfl, q F ι _ H (Step.refl _ _ _) sm (.int _)⟩
  · cases ho
theorem cx_int : CallX X (.type "int") intD := by
  intro pins s σ H xs us Q I r h
  obtain ⟨F, ι, S, ds, a, sm, rd, ho, q⟩ := h
  unfold intD at ho
  split at ho
  · next i =>
    cases ho
    obtain ⟨x, rfl, rx⟩ := rel1 rd
    cases rel_int rx
    exact call_int1 pins s σ H _ us Q I r (.inl ⟨i, rfl, q F ι _ H (Step.refl _ _ _) sm (.int _)⟩)
  · next b =>
    cases ho
    obtain ⟨x, rfl, rx⟩ := rel1 rd
    cases rel_bl rx
    exact call_int1 pins s σ H _ us Q I r (.inr ⟨b, rfl, q F ι _ H (Step.refl _ _ _) sm (.int _)⟩)
  · cases ho
theorem cx_max (hc : X.calm = true) : CallX X (.builtin "max") maxD := by
  intro pins s σ H xs us Q I r h
  obtain ⟨F, ι, S, ds, a, sm, rd, ho, q⟩ := h
  unfold maxD at ho
  split at ho
  · obtain ⟨x, rfl, rx⟩ := rel1 rd
    split at ho
    · next xs h1 =>
      obtain ⟨ns, h2, ho⟩ := Option.bind_eq_some_iff.mp ho
      split at ho
      · cases ho
      · next hz =>
        cases ho
        obtain ⟨p, vs, rfl, e1, r1⟩ := at_lst sm rx h1
        cases rel_ints r1 h2
        refine cr_max hc pins s σ H _ us Q I r ⟨p, ns, rfl, SqL.of e1, ?_, fun m h1 h2 => ?_⟩
        · cases ns with
          | nil => exact absurd rfl hz
          | cons _ _ => exact Nat.succ_pos _
        · rw [maxL_unique h1 h2]
          exact q F ι _ H (Step.refl _ _ _) sm (.int _)
    · cases ho
  · next i j =>
    cases ho
    obtain ⟨x, y, rfl, rx, ry⟩ := rel2 rd
    cases rel_int rx
    cases rel_int ry
    exact call_max2 hc pins s σ H _ us Q I r ⟨i, j, rfl, q F ι _ H (Step.refl _ _ _) sm (.int _)⟩
  · cases ho
theorem cx_min (hc : X.calm = true) : CallX X (.builtin "min") minD := by
  intro pins s σ H xs us Q I r h
  obtain ⟨F, ι, S, ds, a, sm, rd, ho, q⟩ := h
  unfold minD at ho
  split at ho
  · obtain ⟨x, rfl, rx⟩ := rel1 rd
    split at ho
    · next xs h1 =>
      obtain ⟨ns, h2, ho⟩ := Option.bind_eq_some_iff.mp ho
      split at ho
      · cases ho
      · next hz =>
        cases ho
        obtain ⟨p, vs, rfl, e1, r1⟩ := at_lst sm rx h1
        cases rel_ints r1 h2
        refine cr_min hc pins s σ H _ us Q I r ⟨p, ns, rfl, SqL.of e1, ?_, fun m h1 h2 => ?_⟩
        · cases ns with
          | nil => exact absurd rfl hz
          | cons _ _ => exact Nat.succ_pos _
        · rw [minL_unique h1 h2]
          exact q F ι _ H (Step.refl _ _ _) sm (.int _)
    · cases ho
  · next i j =>
    cases ho
    obtain ⟨x, y, rfl, rx, ry⟩ := rel2 rd
    cases rel_int rx
    cases rel_int ry
    exact call_min2 hc pins s σ H _ us Q I r ⟨i, j, rfl, q F ι _ H (Step.refl _ _ _) sm (.int _)⟩
  · cases ho
theorem cx_tup : CallX X (.type "tuple") tupD := by
  intro pins s σ H xs us Q I r h
  obtain ⟨F, ι, S, ds, a, sm, rd, ho, q⟩ := h
  unfold tupD at ho
  split at ho
  · obtain ⟨x, rfl, rx⟩ := rel1 rd
    split at ho
    · next xs h1 =>
      cases ho
      obtain ⟨p, vs, rfl, e1, r1⟩ := at_lst sm rx h1
      refine call_tuple_of pins s σ H _ us Q I r ⟨p, vs, rfl, .inl ⟨SqL.of e1, fun l hl => ?_⟩⟩
      obtain ⟨x2, s2⟩ := sm.frozen (o := .tup vs) hl
      exact q _ _ _ _ x2 s2 (.tup upd_same (RelAll.mono x2 r1))
    · next xs h1 =>
      cases ho
      obtain ⟨p, vs, rfl, e1, f1, r1, _⟩ := at_tup sm rx h1
      exact call_tuple_of pins s σ H _ us Q I r ⟨p, vs, rfl, .inr ⟨e1.sq, q F ι _ H (Step.refl _ _ _) sm (.tp f1 r1)⟩⟩
    · cases ho
  · cases ho
theorem cxl_list : CallXL X (.type "list") lstD := by
  intro pins s σ H xs us Q I r h
  obtain ⟨F, ι, S, ds, a, sm, rd, ho, q⟩ := h
  unfold lstD at ho
  split at ho
  · obtain ⟨x, rfl, rx⟩ := rel1 rd
    split at ho
    · next xs h1 =>
      cases ho
      obtain ⟨p, vs, rfl, e1, r1⟩ := at_lst sm rx h1
      refine call_list_of pins s σ H _ us Q I r ⟨p, vs, rfl, .inl (SqL.of e1), fun l hl => ?_⟩
      obtain ⟨hf, hi⟩ := sm.fresh hl
      exact q _ _ _ _ (sm.loose hl).1 (sm.loose hl).2 ⟨l, vs, rfl, hl, upd_same, hf, hi, r1⟩
    · next xs h1 =>
      cases ho
      obtain ⟨p, vs, rfl, e1, f1, r1, _⟩ := at_tup sm rx h1
      refine call_list_of pins s σ H _ us Q I r ⟨p, vs, rfl, .inr (e1.sq), fun l hl => ?_⟩
      obtain ⟨hf, hi⟩ := sm.fresh hl
      exact q _ _ _ _ (sm.loose hl).1 (sm.loose hl).2 ⟨l, vs, rfl, hl, upd_same, hf, hi, r1⟩
    · next xs h1 =>
      cases ho
      obtain ⟨p, vs, rfl, e1, r1⟩ := at_scr sm rx h1
      refine call_list_of pins s σ H _ us Q I r ⟨p, vs, rfl, .inl e1, fun l hl => ?_⟩
      obtain ⟨hf, hi⟩ := sm.fresh hl
      exact q _ _ _ _ (sm.loose hl).1 (sm.loose hl).2 ⟨l, vs, rfl, hl, upd_same, hf, hi, r1⟩
    · cases ho
  · cases ho
variable {W : WX} {x : Str} {p pos : Pos} {e : Expr} {es : List Expr} {fa : SemA} {id T : String}
theorem xe_callB {op : List D → Store → Option D} (hc : CallX X (.builtin id) op) (hg : Gl X x) (hm : X.mg x = none) (hv : bootBuiltins x = some (.builtin id)) (ha : XA X W (e :: es) fa) (hn : x ≠ "__name__" := by decide) (hdb : (x == ("__debug__" : Str)) = false := by decide)
    (he : starEach (e :: es) X.env = (false, eval e X.env) :: starEach es X.env := by rfl) (hpl : (backTo pos (starEach es X.env)).any (·.1) = false := by rfl) : XE X W (.Call (.Name x p) (e :: es) [] pos) (eOps op fa) := peI (pe_callB hc hg hm hv ha hn hdb he hpl) fun _ _ _ h => tG_ops h
theorem xe_callTy {op : List D → Store → Option D} (hc : CallX X (.type T) op) (hg : Gl X x) (hm : X.mg x = none) (hv : bootBuiltins x = some (.type T)) (ha : XA X W (e :: es) fa) (hn : x ≠ "__name__" := by decide) (hdb : (x == ("__debug__" : Str)) = false := by decide)
    (he : starEach (e :: es) X.env = (false, eval e X.env) :: starEach es X.env := by rfl) (hpl : (backTo pos (starEach es X.env)).any (·.1) = false := by rfl) : XE X W (.Call (.Name x p) (e :: es) [] pos) (eOps op fa) := peI (pe_callTy hc hg hm hv ha hn hdb he hpl) fun _ _ _ h => tG_ops h
theorem xl_callTy {op : List D → Store → Option (List D)} (hc : CallXL X (.type T) op) (hg : Gl X x) (hm : X.mg x = none) (hv : bootBuiltins x = some (.type T)) (ha : XA X W (e :: es) fa) (hn : x ≠ "__name__" := by decide) (hdb : (x == ("__debug__" : Str)) = false := by decide)
    (he : starEach (e :: es) X.env = (false, eval e X.env) :: starEach es X.env := by rfl) (hpl : (backTo pos (starEach es X.env)).any (·.1) = false := by rfl) : XL X W (.Call (.Name x p) (e :: es) [] pos) (eOps op fa) := peI (pe_callTy hc hg hm hv ha hn hdb he hpl) fun _ _ _ h => tG_ops h
def tyOf (S : Store) (d : D) : Option String := match dr S d with
  | .non => some "NoneType"
  | .bl _ => some "bool"
  | .int _ => some "int"
  | .str _ => some "str"
  | .tup _ => some "tuple"
  | .lst _ => some "list"
  | .dct _ => some "dict"
  | _ => none
def isiD (T : String) : D → Store → Option D := fun d S => (tyOf S d).bind fun t => (kitB t T).map .bl
end
end Fk
namespace Fk
open PySem PySem.Spec PyProof.Rows L2
def toS {α : Type} (o : Out α) (ρ : Env) (k : α → Store → OutS) : OutS := match o with
  | .ok a S => k a S
  | .exc c fs S => .exc c fs ρ S
  | .stuck => .stuck
@[simp] theorem toS_ok {α : Type} (a : α) (S : Store) (ρ : Env) (k : α → Store → OutS) : toS (.ok a S) ρ k = k a S := rfl
@[simp] theorem toS_exc {α : Type} (c : Str) (fs : List (Str × D)) (S : Store) (ρ : Env) (k : α → Store → OutS) : toS (.exc c fs S : Out α) ρ k = .exc c fs ρ S := rfl
@[simp] theorem toS_stuck {α : Type} (ρ : Env) (k : α → Store → OutS) : toS (.stuck : Out α) ρ k = .stuck := rfl
def sNext : SemS := fun ρ S => .nx ρ S
def sAsg (i : Nat) (f : SemE) : SemS := fun ρ S => toS (f ρ S) ρ fun d S1 => .nx (ρ.set i (some d)) S1
def sExp (f : SemE) : SemS := fun ρ S => toS (f ρ S) ρ fun _ S1 => .nx ρ S1
def sRet (f : SemE) : SemS := fun ρ S => toS (f ρ S) ρ fun d S1 => .rt d S1
def sRetN : SemS := fun _ S => .rt .non S
def sSeq (g h : SemS) : SemS := fun ρ S => match g ρ S with
  | .nx ρ1 S1 => h ρ1 S1
  | o => o
def sIf (t : SemT) (g h : SemS) : SemS := fun ρ S => toS (t ρ S) ρ fun b S1 => if b then g ρ S1 else h ρ S1
section
variable {p : Pl} {α β : Type} {R : Hp → Hp → List Addr → Hp → β → α → Prop} {F H : Hp} {ι : List Addr} {σ : L2.St} {ρ : Env} {Dn : Ends}
theorem post_toS {o : Out α} {k : α → Store → OutS} {Q : β → Hp → Prop} (r : REnv p.K F ι σ ρ) (h : PostS p F ι H (toS o ρ k) Dn)
    (hk : ∀ a S F' ι' v H', Step F ι H F' ι' H' → Sim p.K p.mg F' ι' S H' → R H F' ι' H' v a → PostS p F' ι' H' (k a S) Dn → Q v H') : Post p R F ι H σ o Q := by
  cases o with
  | ok a S => exact fun F' ι' v H' x s rv => hk a S F' ι' v H' x s rv (PostS.ext x h)
  | exc c fs S => exact fun F' ι' C d H' x s m xd => h F' ι' C d σ H' x s (r.mono x) m xd
  | stuck => exact h.elim
end
section
variable {X : Cx} {W : WX} {st : Stmt} {rest : List Stmt} {g h : SemS} {e : Expr} {f : SemE} {pos : Pos}
theorem xss_nil : XSs X W [] sNext := pssI pss_nil fun Dn σ H ⟨F, ι, ρ, S, s, r, q⟩ => q F ι σ H (Step.refl _ _ _) s r
theorem tS_seq {p : Pl} {Dn : Ends} {σ : L2.St} {H : Hp} (hh : tS p (sSeq g h) Dn σ H) : tSeq (tS p g) (tS p h) Dn σ H := by
  obtain ⟨F, ι, ρ, S, s, r, q⟩ := hh
  refine ⟨F, ι, ρ, S, s, r, ?_⟩
  unfold sSeq at q
  cases e : g ρ S with
  | nx ρ1 S1 =>
    rw [e] at q
    exact fun F' ι' σ' H' x s' r' => ⟨F', ι', ρ1, S1, s', r', PostS.ext x q⟩
  | rt d S1 => rw [e] at q; exact q
  | bk ρ1 S1 => rw [e] at q; exact q
  | ct ρ1 S1 => rw [e] at q; exact q
  | exc c fs ρ1 S1 => rw [e] at q; exact q
  | stuck => rw [e] at q; exact q.elim
theorem xss_cons (h1 : XS X W st g) (h2 : XSs X W rest h) : XSs X W (st :: rest) (sSeq g h) := pssI (pss_cons h1 h2) fun _ _ _ hh => tS_seq hh
theorem xss_one (h1 : XS X W st g) : XSs X W [st] g := pss_one h1
theorem xs_expr (he : XE X W e f) (hs : swapsWith e none pos.line X.env = pure false := by rfl) : XS X W (.Expr e pos) (sExp f) := by
  refine psI (ps_expr he hs) fun Dn σ H hh => ?_
  obtain ⟨F, ι, ρ, S, s, r, q⟩ := hh
  exact ⟨F, ι, ρ, S, s, r, post_toS r q fun d S1 F1 ι1 v H1 x1 s1 rv q1 => q1 F1 ι1 σ H1 (Step.refl _ _ _) s1 (r.mono x1)⟩
theorem xs_ret (he : XE X W e f) : XS X W (.Return (some e) pos) (sRet f) := by
  refine psI (ps_ret he) fun Dn σ H hh => ?_
  obtain ⟨F, ι, ρ, S, s, r, q⟩ := hh
  exact ⟨F, ι, ρ, S, s, r, post_toS r q fun d S1 F1 ι1 v H1 x1 s1 rv q1 => q1 F1 ι1 v H1 (Step.refl _ _ _) s1 rv⟩
theorem tS_asg {p : Pl} {Dn : Ends} {σ : L2.St} {H : Hp} {i : Nat} (hh : tS p (sAsg i f) Dn σ H) : tAsg (tE p f) (gName i) Dn σ H := by
  obtain ⟨F, ι, ρ, S, s, r, q⟩ := hh
  exact ⟨F, ι, ρ, S, s, r, post_toS r q fun d S1 F1 ι1 v H1 x1 s1 rv q1 => q1 F1 ι1 _ H1 (Step.refl _ _ _) s1 ((r.mono x1).set i rv)⟩
theorem xs_set {i : Nat} {x : Str} {pos' : Pos} (hN : X.N.Nodup) (hi : X.N[i]? = some x) (hx : Loc X.env.scope x) (he : XE X W e f) (hs : swapsWith e (some (.Name x pos')) pos.line X.env = pure false := by rfl)
    (hf : X.fn x = true ∨ X.env.scope.names.lookup x = some .local := by first | exact .inl rfl | exact .inr rfl | assumption) : XS X W (.Assign [.Name x pos'] e pos) (sAsg i f) := psI (ps_set hN hi hx he hs hf) fun _ _ _ hh => tS_asg hh
theorem xs_if {c : Expr} {a b : List Stmt} {t : SemT} (hc : XT X W c t) (ha : XSs X W a g) (hb : XSs X W b h) : XS X W (.If c a b pos) (sIf t g h) := by
  refine psI (ps_if hc ha hb) fun Dn σ H hh => ?_
  obtain ⟨F, ι, ρ, S, s, r, q⟩ := hh
  refine ⟨F, ι, ρ, S, s, r, post_toS r q fun x S1 F1 ι1 v H1 x1 s1 rv q1 => ?_⟩
  cases (show v = x from rv)
  cases x with
  | true => exact ⟨F1, ι1, ρ, S1, s1, r.mono x1, q1⟩
  | false => exact ⟨F1, ι1, ρ, S1, s1, r.mono x1, q1⟩
abbrev SemG := D → Env → Store → Option Env
def gN (i : Nat) : SemG := fun d ρ _ => some (ρ.set i (some d))
def gT (gs : List SemG) : SemG := fun d ρ S => match d with
  | .tup ds => if ds.length = gs.length then (gs.zip ds).foldl (fun o q => o.bind fun ρ' => q.1 q.2 ρ' S) (some ρ) else none
  | _ => none
/-- a target without effects on the heap -/
theorem wipe_get (σ : L2.St) : ∀ (ws : List Nat) (j : Nat), (wipe σ ws)[j]? = if j ∈ ws then (if j < σ.length then some none else none) else σ[j]?
  | [], j => by simp [wipe]
  | w :: ws, j => by
    unfold wipe
    by_cases hj : j = w
    · subst hj
      by_cases hl : j < σ.length
      · rw [List.getElem?_set_self (by rw [wipe_length]; exact hl)]
        simp [hl]
      · rw [List.getElem?_eq_none (by rw [List.length_set, wipe_length]; omega)]
        simp [hl]
    · rw [List.getElem?_set_ne (Ne.symm hj), wipe_get σ ws j]
      simp [hj]
theorem wipe_set (σ : L2.St) {ws : List Nat} {i : Nat} (h : i ∈ ws) (x : Option V) : wipe (σ.set i x) ws = wipe σ ws := by
  apply List.ext_getElem?
  intro j
  rw [wipe_get, wipe_get, List.length_set]
  by_cases hj : j ∈ ws
  · rw [if_pos hj, if_pos hj]
  · rw [if_neg hj, if_neg hj, List.getElem?_set_ne]
    intro e
    exact hj (e ▸ h)
theorem wipe_wipe (σ : L2.St) (ws : List Nat) : wipe (wipe σ ws) ws = wipe σ ws := by
  apply List.ext_getElem?
  intro j
  rw [wipe_get, wipe_length, wipe_get]
  by_cases hj : j ∈ ws
  · rw [if_pos hj, if_pos hj]
  · rw [if_neg hj, if_neg hj]
def tPG (K : PySem.W.Frag) (mg : Str → Option Value) (g : SemG) (vs : List Nat) : TG := fun v σ H Q => ∃ F ι ρ S d ρ', Sim K mg F ι S H ∧ REnv K F ι σ ρ ∧ Rel K F ι v d ∧ g d ρ S = some ρ' ∧ ∀ σ', REnv K F ι σ' ρ' → (∀ ws, (∀ i ∈ vs, i ∈ ws) → wipe σ' ws = wipe σ ws) → Q σ' H
def PGD (X : Cx) (tg : Expr) (g : SemG) (vs : List Nat) : Prop := PG X tg (tPG X.K X.mg g vs)
theorem pgI {tg : Expr} {t t' : TG} (h : PG X tg t) (i : ∀ v σ H Q, t' v σ H Q → t v σ H Q) : PG X tg t' := ⟨fun pins s σ H v u Q I r q => h.run pins s σ H v u Q I r (i _ _ _ _ q)⟩
theorem gd_name {i : Nat} {x : Str} (hN : X.N.Nodup) (hi : X.N[i]? = some x) (hx : Loc X.env.scope x) (hf : X.fn x = true ∨ X.env.scope.names.lookup x = some .local := by first | exact .inl rfl | exact .inr rfl | assumption) : PGD X (.Name x pos) (gN i) [i] := by
  refine pgI (pg_name hN hi hx hf) fun v σ H Q ⟨F, ι, ρ, S, d, ρ', s, r, rv, hg, q⟩ => ?_
  cases hg
  exact q _ (r.set i rv) fun ws hw => wipe_set σ (hw i (by simp)) _
def PGDs (X : Cx) (ts : List Expr) (gs : List SemG) (vs' : List Nat) : Prop := PGs X ts fun vs σ H Q => ∃ F ι ρ S ds ρ', Sim X.K X.mg F ι S H ∧ REnv X.K F ι σ ρ ∧ RelAll X.K F ι vs ds ∧ ds.length = gs.length ∧ (gs.zip ds).foldl (fun o q => o.bind fun ρ' => q.1 q.2 ρ' S) (some ρ) = some ρ' ∧ ∀ σ', REnv X.K F ι σ' ρ' → (∀ ws, (∀ i ∈ vs', i ∈ ws) → wipe σ' ws = wipe σ ws) → Q σ' H
theorem pgsI {tg : List Expr} {t t' : TGs} (h : PGs X tg t) (i : ∀ v σ H Q, t' v σ H Q → t v σ H Q) : PGs X tg t' := ⟨fun pins s σ H v u Q I r q => h.run pins s σ H v u Q I r (i _ _ _ _ q)⟩
theorem fold_none {S : Store} : ∀ (l : List (SemG × D)), l.foldl (fun o q => o.bind fun ρ' => q.1 q.2 ρ' S) (none : Option Env) = none
  | [] => rfl
  | _ :: r => fold_none r
theorem gds_nil : PGDs X [] [] [] := by
  refine pgsI pgs_nil fun vs σ H Q ⟨F, ι, ρ, S, ds, ρ', s, r, rv, hl, hg, q⟩ => ?_
  cases ds with
  | nil =>
    cases rv
    cases hg
    exact ⟨rfl, q σ r fun _ _ => rfl⟩
  | cons _ _ => cases hl
theorem gds_cons {tg : Expr} {ts : List Expr} {g : SemG} {gs : List SemG} {v1 v2 : List Nat} (h1 : PGD X tg g v1) (h2 : PGDs X ts gs v2) (hs : (assignEach (tg :: ts) X.env).map (·.2) = assign tg X.env :: (assignEach ts X.env).map (·.2) := by rfl) : PGDs X (tg :: ts) (g :: gs) (v1 ++ v2) := by
  refine pgsI (pgs_cons h1 h2 hs) fun vs σ H Q ⟨F, ι, ρ, S, ds, ρ', s, r, rv, hl, hg, q⟩ => ?_
  cases ds with
  | nil => cases hl
  | cons d ds =>
    cases rv with
    | @cons v vs _ _ rv rvs =>
      rw [List.zip_cons_cons, List.foldl_cons] at hg
      cases hz : g d ρ S with
      | none =>
        have : ((some ρ : Option Env).bind fun ρ' => g d ρ' S) = none := hz
        rw [this, fold_none] at hg
        cases hg
      | some ρ1 =>
        have hz' : ((some ρ : Option Env).bind fun ρ' => g d ρ' S) = some ρ1 := hz
        rw [hz'] at hg
        refine ⟨v, vs, rfl, F, ι, ρ, S, d, ρ1, s, r, rv, hz, fun σ1 r1 w1 => ?_⟩
        exact ⟨F, ι, ρ1, S, ds, ρ', s, r1, rvs, by simpa using hl, hg, fun σ2 r2 w2 => q σ2 r2 fun ws hw => (w2 ws fun i hi => hw i (List.mem_append_right _ hi)).trans (w1 ws fun i hi => hw i (List.mem_append_left _ hi))⟩
theorem gd_tup {ts : List Expr} {gs : List SemG} {k : Nat} {vs' : List Nat} (hc : X.calm = true) (h : PGDs X ts gs vs') (hn : (assignEach ts X.env).length = gs.length := by rfl) (hst : (assignEach ts X.env).findIdx? (·.1) = none := by rfl) : PGD X (.Tuple ts k pos) (gT gs) vs' := by
  refine pgI (pg_tup hc h hn hst) fun v σ H Q ⟨F, ι, ρ, S, d, ρ', s, r, rv, hg, q⟩ => ?_
  unfold gT at hg
  split at hg
  · next ds =>
    split at hg
    · next hl =>
      obtain ⟨a, vs, rfl, e1, _, r1, _⟩ := at_tup s rv (show dr S (.tup ds) = .tup ds from rfl)
      exact ⟨a, vs, rfl, e1.sq, by rw [r1.length]; exact hl, F, ι, ρ, S, ds, ρ', s, r, r1, hl, hg, q⟩
    · cases hg
  · cases hg
def sAsgT (g : SemG) (f : SemE) : SemS := fun ρ S => toS (f ρ S) ρ fun d S1 => match g d ρ S1 with
  | some ρ1 => .nx ρ1 S1
  | none => .stuck
theorem xs_asgT {tg : Expr} {g : SemG} {vs' : List Nat} (he : XE X W e f) (hg : PGD X tg g vs') (hs : swapsWithSole [tg] e pos.line X.env = pure false := by rfl) (hw : swappedStores [tg] e X.env = pure none := by rfl)
    (h1 : (assignEach [tg] X.env).map (·.2) = [assign tg X.env] := by rfl) : XS X W (.Assign [tg] e pos) (sAsgT g f) := by
  refine psI (ps_asg he hg hs hw h1) fun Dn σ H hh => ?_
  obtain ⟨F, ι, ρ, S, s, r, q⟩ := hh
  refine ⟨F, ι, ρ, S, s, r, post_toS r q fun d S1 F1 ι1 v H1 x1 s1 rv q1 => ?_⟩
  cases hz : g d ρ S1 with
  | none => rw [hz] at q1; exact q1.elim
  | some ρ1 =>
    rw [hz] at q1
    exact ⟨F1, ι1, ρ, S1, d, ρ1, s1, r.mono x1, rv, hz, fun σ' r' _ => q1 F1 ι1 σ' H1 (Step.refl _ _ _) s1 r'⟩
/-- a, b = e1, e2 -/
def sPar (i j : Nat) (fa : SemA) : SemS := fun ρ S => toS (fa ρ S) ρ fun ds S1 => match ds with
  | [d, e] => .nx ((ρ.set i (some d)).set j (some e)) S1
  | _ => .stuck
theorem xs_par {i j : Nat} {x y : Str} {a b : Expr} {fa : SemA} {px py pt : Pos} {kt k2 pt2} (hc : X.calm = true) (hN : X.N.Nodup) (hi : X.N[i]? = some x) (hj : X.N[j]? = some y) (hij : i ≠ j)
    (hx : X.env.scope.names.lookup x = some .local) (hy : X.env.scope.names.lookup y = some .local) (ha : XA X W [a, b] fa)
    (hw : swappedStores [.Tuple [.Name x px, .Name y py] kt pt] (.Tuple [a, b] k2 pt2) X.env = pure (some [x, y]))
    (hs : swapsWithSole [.Tuple [.Name x px, .Name y py] kt pt] (.Tuple [a, b] k2 pt2) pos.line X.env = pure false := by rfl) :
    XS X W (.Assign [.Tuple [.Name x px, .Name y py] kt pt] (.Tuple [a, b] k2 pt2) pos) (sPar i j fa) := by
  refine psI (ps_par hc hN hi hj hij hx hy ha hw hs) fun Dn σ H hh => ?_
  obtain ⟨F, ι, ρ, S, s, r, q⟩ := hh
  refine ⟨F, ι, ρ, S, s, r, post_toS r q fun ds S1 F1 ι1 v H1 x1 s1 rv q1 => ?_⟩
  cases rv with
  | nil => exact q1.elim
  | cons r1 t1 =>
    cases t1 with
    | nil => exact q1.elim
    | cons r2 t2 =>
      cases t2 with
      | nil => exact ⟨_, _, rfl, q1 F1 ι1 _ H1 (Step.refl _ _ _) s1 (((r.mono x1).set i r1).set j r2)⟩
      | cons _ _ => exact q1.elim
/-- x += e, ints -/
def sAug (i : Nat) (op : Int → Int → Int) (f : SemE) : SemS := fun ρ S => match ρ[i]? with
  | some (some (.int a)) => toS (f ρ S) ρ fun d S1 => match d with
    | .int b => .nx (ρ.set i (some (.int (op a b)))) S1
    | _ => .stuck
  | _ => .stuck
end
def Yl (K : PySem.W.Frag) (F : Hp) (ι : List Addr) (H : Hp) (x : V) (H' : Hp) (d : D) : Prop :=
  (H' = H ∧ Rel K F ι x d) ∨ ∃ T vs ds, x = .ref T ∧ H T = none ∧ H' = upd H T (.tup vs) ∧ d = .tup ds ∧ RelAll K F ι vs ds
structure Walks (K : PySem.W.Frag) (F : Hp) (ι : List Addr) (J : It) (xs : List D) : Prop where
  go : ∀ H i, Same F H → i < xs.length → J.go i H
  yld : ∀ H i x H', Same F H → i < xs.length → J.yld i H x H' → ∃ d, xs[i]? = some d ∧ Yl K F ι H x H' d
  stop : ∀ H i, Same F H → xs.length ≤ i → J.stop i H
theorem Yl.sim {K : PySem.W.Frag} {mg : Str → Option Value} {F : Hp} {ι : List Addr} {S : Store} {H H' : Hp} {x : V} {d : D} (y : Yl K F ι H x H' d) {F1 H0 : Hp} {ι1 : List Addr} (e : Step F ι H0 F1 ι1 H) (s : Sim K mg F1 ι1 S H) : ∃ F2, Step F1 ι1 H F2 ι1 H' ∧ Sim K mg F2 ι1 S H' ∧ Rel K F2 ι1 x d := by
  rcases y with ⟨rfl, r⟩ | ⟨T, vs, ds, rfl, hT, rfl, rfl, r⟩
  · exact ⟨F1, Step.refl _ _ _, s, Rel.mono e r⟩
  · obtain ⟨x2, s2⟩ := s.frozen (o := .tup vs) hT
    exact ⟨_, x2, s2, .tup upd_same (RelAll.mono (e.trans x2) r)⟩
def RI' (K : PySem.W.Frag) : Hp → Hp → List Addr → Hp → It → List D → Prop := fun _ F ι _ J xs => Walks K F ι J xs
theorem stI {K : PySem.W.Frag} : Stays (RI' K) := fun _ r => r
abbrev XI (X : Cx) (W : WX) (tg e : Expr) (f : SemA) : Prop := PI X tg e (tG ⟨X.K, X.mg, W⟩ (RI' X.K) f)
def forL (b : D → Env → Store → OutS) : List D → Env → Store → OutS
  | [], ρ, S => .nx ρ S
  | x :: xs, ρ, S => match b x ρ S with
    | .nx ρ1 S1 => forL b xs ρ1 S1
    | .ct ρ1 S1 => forL b xs ρ1 S1
    | .bk ρ1 S1 => .nx ρ1 S1
    | .rt d S1 => .rt d S1
    | .exc c fs ρ1 S1 => .exc c fs ρ1 S1
    | .stuck => .stuck
def sFor (it : SemA) (g : SemG) (b : SemS) : SemS := fun ρ S => toS (it ρ S) ρ fun xs S1 => forL (fun x ρ S => match g x ρ S with
  | some ρ1 => b ρ1 S
  | none => .stuck) xs ρ S1
section
variable {X : Cx} {W : WX} {tg iter : Expr} {body : List Stmt} {pos : Pos} {fi : SemA} {g : SemG} {b : SemS} {vs' : List Nat}
theorem xs_for (hp : PassesOwn (model X.prog X.w) X.A X.env X.xe) (hc : X.calm = true) (hi : XI X W tg iter fi) (hg : PGD X tg g vs') (hb : XSs X W body b) (hs : ∀ x, foldedSetIterable iter X.env x = pure x := by intro _; rfl) : XS X W (.For tg iter body [] pos) (sFor fi g b) := by
  refine psI (ps_for hp hc hi hg hb hs) fun Dn σ H hh => ?_
  obtain ⟨F, ι, ρ, S, s, r, q⟩ := hh
  refine ⟨F, ι, ρ, S, s, r, post_toS (R := RI' X.K) r q fun xs S1 F1 ι1 J H1 x1 s1 wk q1 => ?_⟩
  have wk : Walks X.K F1 ι1 J xs := wk
  refine ⟨fun i m σ' H' => i + m = xs.length ∧ ∃ F' ι' ρ' S', Step F1 ι1 H1 F' ι' H' ∧ Sim X.K X.mg F' ι' S' H' ∧ REnv X.K F' ι' σ' ρ' ∧ PostS ⟨X.K, X.mg, W⟩ F' ι' H' (forL (fun x ρ S => match g x ρ S with
    | some ρ1 => b ρ1 S
    | none => .stuck) (xs.drop i) ρ' S') Dn, ⟨xs.length, by omega, F1, ι1, ρ, S1, Step.refl _ _ _, s1, r.mono x1, by simpa using q1⟩, fun i m σ' H' hW => ?_⟩
  obtain ⟨hm, F2, ι2, ρ2, S2, x2, s2, r2, q2⟩ := hW
  by_cases hlt : i < xs.length
  · refine .inr ⟨wk.go H' i (x2.same.trans s2.sub) hlt, fun σ3 H3 => ∃ F' ι' ρ' S', Step F1 ι1 H1 F' ι' H3 ∧ Sim X.K X.mg F' ι' S' H3 ∧ REnv X.K F' ι' σ3 ρ' ∧ PostS ⟨X.K, X.mg, W⟩ F' ι' H3 (forL (fun x ρ S => match g x ρ S with
      | some ρ1 => b ρ1 S
      | none => .stuck) (xs.drop (i + 1)) ρ' S') Dn, fun σ3 H3 h3 => ⟨m - 1, by omega, by omega, h3⟩, fun x H3 hy => ?_⟩
    obtain ⟨d, hd, y⟩ := wk.yld H' i x H3 (x2.same.trans s2.sub) hlt hy
    obtain ⟨F3, x3, s3, r3⟩ := y.sim x2 s2
    have hdrop : xs.drop i = d :: xs.drop (i + 1) := by
      rw [List.drop_eq_getElem_cons hlt]
      congr 1
      rw [List.getElem?_eq_getElem hlt] at hd
      exact Option.some.inj hd
    rw [hdrop] at q2
    have q3 := PostS.ext x3 q2
    unfold forL at q3
    cases hz : g d ρ2 S2 with
    | none =>
      rw [hz] at q3
      exact q3.elim
    | some ρ3 =>
      rw [hz] at q3
      refine ⟨F3, ι2, ρ2, S2, d, ρ3, s3, r2.mono x3, r3, hz, fun σ4 r4 _ => ⟨F3, ι2, ρ3, S2, s3, r4, ?_⟩⟩
      dsimp only at q3
      cases hbz : b ρ3 S2 with
      | nx ρ4 S4 =>
        rw [hbz] at q3
        exact fun F4 ι4 σ5 H5 x4 s4 r5 => ⟨F4, ι4, ρ4, S4, (x2.trans x3).trans x4, s4, r5, PostS.ext x4 q3⟩
      | ct ρ4 S4 =>
        rw [hbz] at q3
        exact fun F4 ι4 σ5 H5 x4 s4 r5 => ⟨F4, ι4, ρ4, S4, (x2.trans x3).trans x4, s4, r5, PostS.ext x4 q3⟩
      | bk ρ4 S4 => rw [hbz] at q3; exact q3
      | rt d4 S4 => rw [hbz] at q3; exact q3
      | exc c fs ρ4 S4 => rw [hbz] at q3; exact q3
      | stuck => rw [hbz] at q3; exact q3.elim
  · refine .inl ⟨wk.stop H' i (x2.same.trans s2.sub) (by omega), ?_⟩
    rw [List.drop_of_length_le (by omega)] at q2
    exact q2 F2 ι2 σ' H' (Step.refl _ _ _) s2 r2
end
def whileN (t : SemT) (b : SemS) : Nat → SemS
  | 0, _, _ => .stuck
  | n + 1, ρ, S => toS (t ρ S) ρ fun k S1 => if k then (match b ρ S1 with
    | .nx ρ1 S2 => whileN t b n ρ1 S2
    | .ct ρ1 S2 => whileN t b n ρ1 S2
    | .bk ρ1 S2 => .nx ρ1 S2
    | o => o) else .nx ρ S1
open Classical in
noncomputable def sWhile (t : SemT) (b : SemS) : SemS := fun ρ S => if h : ∃ n, whileN t b n ρ S ≠ .stuck then whileN t b (Classical.choose h) ρ S else .stuck
section
variable {t : SemT} {b : SemS}
theorem whileN_mono : ∀ {n m : Nat} {ρ : Env} {S : Store}, whileN t b n ρ S ≠ .stuck → n ≤ m → whileN t b m ρ S = whileN t b n ρ S
  | 0, _, _, _, h, _ => absurd rfl h
  | n + 1, 0, _, _, _, hm => absurd hm (by omega)
  | n + 1, m + 1, ρ, S, h, hm => by
    unfold whileN at h ⊢
    cases e : t ρ S with
    | ok k S1 =>
      rw [e] at h
      simp only [toS_ok] at h ⊢
      cases k with
      | false => rfl
      | true =>
        simp only [if_true] at h ⊢
        cases e2 : b ρ S1 with
        | nx ρ1 S2 => rw [e2] at h; exact whileN_mono h (by omega)
        | ct ρ1 S2 => rw [e2] at h; exact whileN_mono h (by omega)
        | _ => rfl
    | exc c fs S1 => rfl
    | stuck => rfl
theorem sWhile_eq {n : Nat} {ρ : Env} {S : Store} {o : OutS} (h : whileN t b n ρ S = o) (ho : o ≠ .stuck) : sWhile t b ρ S = o := by
  have hx : ∃ n, whileN t b n ρ S ≠ .stuck := ⟨n, by rw [h]; exact ho⟩
  unfold sWhile
  rw [dif_pos hx]
  have h1 := Classical.choose_spec hx
  rcases Nat.le_total n (Classical.choose hx) with hl | hl
  · rw [whileN_mono (by rw [h]; exact ho) hl, h]
  · rw [← whileN_mono h1 hl, h]
end
section
variable {X : Cx} {W : WX} {c : Expr} {body : List Stmt} {pos : Pos} {t : SemT} {b : SemS}
theorem xs_while (hp : PassesOwn (model X.prog X.w) X.A X.env X.xe) (hc : XT X W c t) (hb : XSs X W body b) : XS X W (.While c body [] pos) (sWhile t b) := by
  refine psI (ps_while hp hc hb) fun Dn σ H hh => ?_
  obtain ⟨F, ι, ρ, S, s, r, q⟩ := hh
  unfold sWhile at q
  split at q
  · next hx =>
    refine ⟨fun m σ' H' => ∃ F' ι' ρ' S', Sim X.K X.mg F' ι' S' H' ∧ REnv X.K F' ι' σ' ρ' ∧ PostS ⟨X.K, X.mg, W⟩ F' ι' H' (whileN t b m ρ' S') Dn, ⟨_, F, ι, ρ, S, s, r, q⟩, fun m σ' H' hW => ?_⟩
    obtain ⟨F1, ι1, ρ1, S1, s1, r1, q1⟩ := hW
    cases m with
    | zero => exact q1.elim
    | succ m =>
      unfold whileN at q1
      refine ⟨F1, ι1, ρ1, S1, s1, r1, post_toS r1 q1 fun k S2 F2 ι2 v H2 x2 s2 rv q2 => ?_⟩
      cases (show v = k from rv)
      cases k with
      | false => exact q2 F2 ι2 σ' H2 (Step.refl _ _ _) s2 (r1.mono x2)
      | true =>
        simp only [if_true] at q2
        refine ⟨fun σ3 H3 => ∃ F' ι' ρ' S', Sim X.K X.mg F' ι' S' H3 ∧ REnv X.K F' ι' σ3 ρ' ∧ PostS ⟨X.K, X.mg, W⟩ F' ι' H3 (whileN t b m ρ' S') Dn, fun σ3 H3 h3 => ⟨m, by omega, h3⟩, F2, ι2, ρ1, S2, s2, r1.mono x2, ?_⟩
        cases hbz : b ρ1 S2 with
        | nx ρ4 S4 =>
          rw [hbz] at q2
          exact fun F4 ι4 σ5 H5 x4 s4 r5 => ⟨F4, ι4, ρ4, S4, s4, r5, PostS.ext x4 q2⟩
        | ct ρ4 S4 =>
          rw [hbz] at q2
          exact fun F4 ι4 σ5 H5 x4 s4 r5 => ⟨F4, ι4, ρ4, S4, s4, r5, PostS.ext x4 q2⟩
        | bk ρ4 S4 => rw [hbz] at q2; exact q2
        | rt d4 S4 => rw [hbz] at q2; exact q2
        | exc c fs ρ4 S4 => rw [hbz] at q2; exact q2
        | stuck => rw [hbz] at q2; exact q2.elim
  · exact q.elim
end
end Fk
namespace Fk
open PySem PySem.Spec PyProof.Rows L2
def itC (n : Nat) (S : Store) : Option Cell → Out (List D)
  | some (.lst true xs) => .ok xs (S.set n (.lst false xs))
  | some (.lst false xs) => .ok xs S
  | _ => .stuck
def itOf : D → Store → Out (List D)
  | .lst xs, S => .ok xs S
  | .tup xs, S => .ok xs S
  | .scr xs, S => .ok xs S
  | .ref n, S => itC n S S[n]?
  | _, _ => .stuck
def itSeq (f : SemE) : SemA := fun ρ S => (f ρ S).bind itOf
section
variable {K : PySem.W.Frag} {F : Hp} {ι : List Addr}
theorem walks_list {a : Addr} {vs : List V} {ds : List D} (h : SqL K F a vs) (r : RelAll K F ι vs ds) : Walks K F ι (Itl K a) ds := by
  refine ⟨fun H i s hi => ?_, fun H i x H' s hi y => ?_, fun H i s hi => ⟨vs, s.seq h, by rw [r.length]; exact hi⟩⟩
  · have hv : i < vs.length := by rw [r.length]; exact hi
    exact ⟨vs, vs[i], s.seq h, by simp [hv]⟩
  · obtain ⟨rfl, y⟩ := y
    obtain ⟨d, hd, rd⟩ := r.getV (y vs (s.seq h))
    exact ⟨d, hd, .inl ⟨rfl, rd⟩⟩
theorem walks_tup {a : Addr} {vs : List V} {ds : List D} (h : Tp F a vs) (r : RelAll K F ι vs ds) : Walks K F ι (Itt K a) ds := by
  refine ⟨fun H i s hi => ?_, fun H i x H' s hi y => ?_, fun H i s hi => ⟨vs, (h.same s).sq, by rw [r.length]; exact hi⟩⟩
  · have hv : i < vs.length := by rw [r.length]; exact hi
    exact ⟨vs, vs[i], (h.same s).sq, by simp [hv]⟩
  · obtain ⟨rfl, y⟩ := y
    obtain ⟨d, hd, rd⟩ := r.getV (y vs ((h.same s).sq))
    exact ⟨d, hd, .inl ⟨rfl, rd⟩⟩
end
section
variable {X : Cx} {W : WX} {tg e : Expr} {f : SemE} {pos : Pos}
theorem iter_L {pins : List (Addr × Obj)} {σ : L2.St} {H1 : Hp} {s1 : Shared} {a : Addr} {xs : List V} {R : It → Hp → Prop} (I1 : Inv X pins σ H1 s1) (hq : SqL X.K H1 a xs) (q : R (Itl X.K a) H1) : wpAny (model X.prog X.w) X.A (pyIter (.ref a)) (PIE X pins σ tg R) X.xe s1 := by
  obtain ⟨its, rv, p, hz⟩ := I1.list hq
  refine wpAny_pyIter_list p.isList ⟨s1.heap.objs.size, [s1.heap.objs.size], _, _, H1, rfl, I1.kept (t' := s1.toks) fun b o e => Heap.get?_push_of_some _ e, turn_list a _, ⟨_, Heap.get?_push_size _ rfl, rfl, rfl⟩, fun b hb => ?_, q⟩
  cases List.mem_singleton.mp hb
  exact I1.fpOk (Nat.le_refl _) (I1.hok.fresh (Nat.le_refl _))
theorem iter_T {pins : List (Addr × Obj)} {σ : L2.St} {H1 : Hp} {s1 : Shared} {a : Addr} {xs : List V} {R : It → Hp → Prop} (I1 : Inv X pins σ H1 s1) (hq : SqT X.K H1 a xs) (q : R (Itt X.K a) H1) : wpAny (model X.prog X.w) X.A (pyIter (.ref a)) (PIE X pins σ tg R) X.xe s1 := by
  obtain ⟨its, rv, p, hz⟩ := I1.tuple hq
  refine wpAny_pyIter_tuple (show s1.heap.IsTuple a its.toArray from p) ⟨s1.heap.objs.size, [s1.heap.objs.size], _, _, H1, rfl, I1.kept (t' := s1.toks) fun b o e => Heap.get?_push_of_some _ e, turn_tuple a _, ⟨_, Heap.get?_push_size _ rfl, rfl, rfl⟩, fun b hb => ?_, q⟩
  cases List.mem_singleton.mp hb
  exact I1.fpOk (Nat.le_refl _) (I1.hok.fresh (Nat.le_refl _))
theorem xi_seq (he : XE X W e f) : XI X W tg e (itSeq f) := by
  refine ⟨fun pins s σ H R I h => ?_⟩
  obtain ⟨F, ι, ρ, S, sm, r, q⟩ := h
  have key : tE ⟨X.K, X.mg, W⟩ f σ H fun x H1 => ∃ a, x = .ref a ∧ ((∃ xs, SqL X.K H1 a xs ∧ R (Itl X.K a) H1) ∨ ∃ xs, SqT X.K H1 a xs ∧ R (Itt X.K a) H1) := by
    refine ⟨F, ι, ρ, S, sm, r, post_bind (R := RV' X.K) q (fun x S1 F1 ι1 v H1 x1 s1 rv q1 => ?_) stI⟩
    have rv : Rel X.K F1 ι1 v x := rv
    cases rv with
    | @lst a vs ds h1 h2 => exact ⟨a, rfl, .inl ⟨vs, SqL.of (s1.sub _ _ h1), q1 F1 ι1 _ H1 (Step.refl _ _ _) s1 (walks_list (SqL.of h1) h2)⟩⟩
    | @scr a vs ds h1 h2 => exact ⟨a, rfl, .inl ⟨vs, s1.sub.seq h1, q1 F1 ι1 _ H1 (Step.refl _ _ _) s1 (walks_list h1 h2)⟩⟩
    | @tp a vs ds h1 h2 => exact ⟨a, rfl, .inr ⟨vs, (h1.same s1.sub).sq, q1 F1 ι1 _ H1 (Step.refl _ _ _) s1 (walks_tup h1 h2)⟩⟩
    | @ref n a h1 =>
      have q1 : Post ⟨X.K, X.mg, W⟩ (RI' X.K) F1 ι1 H1 σ (itC n S1 S1[n]?) R := q1
      cases hc : S1[n]? with
      | none => rw [hc] at q1; exact q1.elim
      | some c =>
        rw [hc] at q1
        cases c with
        | lst b xs =>
          cases b with
          | true =>
            obtain ⟨vs, g1, g2, g3⟩ := s1.cell n a _ h1 hc
            obtain ⟨x2, s2⟩ := s1.freeze h1 g3 g1 g2 (s1.cl n _ hc)
            exact ⟨a, rfl, .inl ⟨vs, SqL.of g1, q1 _ _ _ H1 x2 s2 (walks_list (SqL.of upd_same) (RelAll.mono x2 g2))⟩⟩
          | false =>
            obtain ⟨vs, g1, g2⟩ := s1.cell n a _ h1 hc
            exact ⟨a, rfl, .inl ⟨vs, SqL.of (s1.sub _ _ g1), q1 _ _ _ H1 (Step.refl _ _ _) s1 (walks_list (SqL.of g1) g2)⟩⟩
        | _ => exact q1.elim
    | _ => exact q1.elim
  refine thn (he.run pins s σ H _ I key) fun v s1 ⟨x, H1, I1, r1, q1⟩ => ?_
  obtain ⟨a, rfl, q1⟩ := q1
  cases r1
  rcases q1 with ⟨xs, h1, h2⟩ | ⟨xs, h1, h2⟩
  · exact iter_L I1 h1 h2
  · exact iter_T I1 h1 h2
def rng (lo : Int) (n : Nat) : List D := (List.range n).map fun (i : Nat) => .int (lo + (i : Int))
theorem rng_length (lo : Int) (n : Nat) : (rng lo n).length = n := by simp [rng]
def okR (i : Int) : Bool := decide (-(2 ^ 62) ≤ i ∧ i < 2 ^ 62)
def itR1 (fa : SemA) : SemA := fun ρ S => (fa ρ S).bind fun ds S1 => match ds with
  | [.int j] => if okR j then .ok (rng 0 j.toNat) S1 else .stuck
  | _ => .stuck
def itR2 (fa : SemA) : SemA := fun ρ S => (fa ρ S).bind fun ds S1 => match ds with
  | [.int i, .int j] => if okR i && okR j then .ok (rng i (j - i).toNat) S1 else .stuck
  | _ => .stuck
theorem walks_rng {K : PySem.W.Frag} {F : Hp} {ι : List Addr} (lo : Int) (n : Nat) : Walks K F ι (Itr lo n) (rng lo n) := by
  refine ⟨fun H i _ hi => by rw [rng_length] at hi; exact hi, fun H i x H' _ hi y => ?_, fun H i _ hi => by rw [rng_length] at hi; exact hi⟩
  obtain ⟨rfl, rfl⟩ := y
  rw [rng_length] at hi
  exact ⟨.int (lo + i), by simp [rng, hi], .inl ⟨rfl, .int _⟩⟩
theorem piI {tg e : Expr} {t t' : TI} (h : PI X tg e t) (i : ∀ σ H Q, t' σ H Q → t σ H Q) : PI X tg e t' := ⟨fun pins s σ H Q I q => h.run pins s σ H Q I (i _ _ _ q)⟩
theorem xi_range1 {a : Expr} {fa : SemA} {p pos : Pos} (hg : Gl X "range") (hm : X.mg "range" = none) (ha : XA X W [a] fa) (hs : starEach [a] X.env = [(false, eval a X.env)] := by rfl) : XI X W tg (.Call (.Name "range" p) [a] [] pos) (itR1 fa) := by
  refine piI (pi_range1 hg hm ha hs) fun σ H R h => ?_
  obtain ⟨F, ι, ρ, S, sm, r, q⟩ := h
  refine ⟨F, ι, ρ, S, sm, r, post_bind (R := RA' X.K) q (fun x S1 F1 ι1 v H1 x1 s1 rv q1 => ?_) stI⟩
  split at q1
  · next j =>
    obtain ⟨hz, q1⟩ := ite_stuck q1
    obtain ⟨z1, z2⟩ := of_decide_eq_true hz
    obtain ⟨y, rfl, ry⟩ := rel1 rv
    cases rel_int ry
    exact ⟨j, rfl, z1, z2, q1 F1 ι1 _ H1 (Step.refl _ _ _) s1 (walks_rng _ _)⟩
  · exact q1.elim
def zipL (xs ys : List D) : List D := (xs.zip ys).map fun q => .tup [q.1, q.2]
def itZip (fa : SemA) : SemA := fun ρ S => (fa ρ S).bind fun ds S1 => match ds with
  | [.lst xs, .lst ys] => .ok (zipL xs ys) S1
  | [.tup xs, .tup ys] => .ok (zipL xs ys) S1
  | [.lst xs, .tup ys] => .ok (zipL xs ys) S1
  | [.tup xs, .lst ys] => .ok (zipL xs ys) S1
  | _ => .stuck
theorem zipL_len (xs ys : List D) : (zipL xs ys).length = min xs.length ys.length := by simp [zipL]
end
end Fk
namespace Fk
open PySem PySem.Spec PyProof.Rows L2
def wipeD (ρ : Env) : List Nat → Env
  | [] => ρ
  | v :: vs => (wipeD ρ vs).set v none
theorem wipeD_length (ρ : Env) : ∀ vs : List Nat, (wipeD ρ vs).length = ρ.length
  | [] => rfl
  | v :: vs => by unfold wipeD; rw [List.length_set, wipeD_length ρ vs]
theorem wipeD_get (ρ : Env) : ∀ (ws : List Nat) (j : Nat), (wipeD ρ ws)[j]? = if j ∈ ws then (if j < ρ.length then some none else none) else ρ[j]?
  | [], j => by simp [wipeD]
  | w :: ws, j => by
    unfold wipeD
    by_cases hj : j = w
    · subst hj
      by_cases hl : j < ρ.length
      · rw [List.getElem?_set_self (by rw [wipeD_length]; exact hl)]
        simp [hl]
      · rw [List.getElem?_eq_none (by rw [List.length_set, wipeD_length]; omega)]
        simp [hl]
    · rw [List.getElem?_set_ne (Ne.symm hj), wipeD_get ρ ws j]
      simp [hj]
theorem REnv.wipe {K : PySem.W.Frag} {F : Hp} {ι : List Addr} {σ : L2.St} {ρ : Env} (r : REnv K F ι σ ρ) (ws : List Nat) : REnv K F ι (L2.wipe σ ws) (wipeD ρ ws) := by
  refine ⟨by rw [wipe_length, wipeD_length, r.len], fun i d h => ?_⟩
  rw [wipeD_get] at h
  by_cases hi : i ∈ ws
  · rw [if_pos hi] at h
    split at h <;> cases h
  · rw [if_neg hi] at h
    rw [wipe_get, if_neg hi]
    exact r.at' i d h
def noX {α : Type} : Out α → Out α
  | .ok a S => .ok a S
  | _ => .stuck
@[simp] theorem noX_ok {α : Type} (a : α) (S : Store) : noX (.ok a S) = .ok a S := rfl
def compGo (f : D → Store → Out (Option D)) : List D → List D → Store → Out (List D)
  | [], acc, S => .ok acc S
  | x :: xs, acc, S => (f x S).bind fun o S1 => match o with
    | some y => if sz acc.length then compGo f xs (acc ++ [y]) S1 else .stuck
    | none => compGo f xs acc S1
def sYes : SemT := fun _ S => .ok true S
def compStep (g : SemG) (t : SemT) (e : SemE) (ρ : Env) : D → Store → Out (Option D) := fun x S => match g x ρ S with
  | some ρ1 => (noX (t ρ1 S)).bind fun b S2 => if b then (noX (e ρ1 S2)).bind fun y S3 => .ok (some y) S3 else .ok none S2
  | none => .stuck
def lComp (it : SemA) (g : SemG) (t : SemT) (e : SemE) (vs : List Nat) : SemA := fun ρ S => (it ρ S).bind fun xs S1 => compGo (compStep g t e (wipeD ρ vs)) xs [] S1
abbrev WF : WX := fun _ _ _ _ => False
section
variable {X : Cx} {W : WX}
def XTs (X : Cx) (ifs : List Expr) (t : SemT) : Prop := PTs X ifs (tT ⟨X.K, X.mg, WF⟩ t)
theorem xts_nil : XTs X [] sYes := ⟨fun pins s σ H Q I ⟨F, ι, ρ, S, sm, r, q⟩ => (pts_nil (X := X)).run pins s σ H Q I (q F ι true H (Step.refl _ _ _) sm rfl)⟩
theorem xts_one {c : Expr} {t : SemT} (h : XT X WF c t) : XTs X [c] t := ⟨fun pins s σ H Q I q => (pts_one h).run pins s σ H Q I q⟩
theorem tG_comp {p : Pl} {fi : SemA} {g : SemG} {t : SemT} {e : SemE} {vs : List Nat} {vs' : List Nat} (hvs : ∀ i ∈ vs', i ∈ vs) {σ : L2.St} {H : Hp} {Q : VK} (h : tG p (RL' p.K) (lComp fi g t e vs) σ H Q) :
    tLc (tG p (RI' p.K) fi) (tPG p.K p.mg g vs')
      (tT ⟨p.K, p.mg, WF⟩ t) (tE ⟨p.K, p.mg, WF⟩ e) vs σ H Q := by
  obtain ⟨F, ι, ρ, S, sm, r, q⟩ := h
  refine ⟨F, ι, ρ, S, sm, r, post_bind (R := RI' p.K) q fun xs S1 F1 ι1 J H1 x1 s1 wk q1 => ?_⟩
  have wk : Walks p.K F1 ι1 J xs := wk
  intro Dl hD
  refine ⟨fun i m H' => i + m = xs.length ∧ ∃ F' ι' S' acc vs1, Step F1 ι1 H1 F' ι' H' ∧ Sim p.K p.mg F' ι' S' H' ∧ H' Dl = some (.lst vs1) ∧ F' Dl = none ∧ Dl ∉ ι' ∧ RelAll p.K F' ι' vs1 acc ∧ Post p (RL' p.K) F1 ι1 H1 σ (compGo (compStep g t e (wipeD ρ vs)) (xs.drop i) acc S') Q,
    ⟨xs.length, by omega, F1, ι1, S1, [], [], (s1.loose hD).1, (s1.loose hD).2, upd_same, (s1.fresh hD).1, (s1.fresh hD).2, .nil, by simpa using q1⟩, fun i m H' hW => ?_⟩
  obtain ⟨hm, F2, ι2, S2, acc, vs1, x2, s2, hH, hF, hI, ra, q2⟩ := hW
  by_cases hlt : i < xs.length
  · refine .inr ⟨wk.go H' i (x2.same.trans s2.sub) hlt, fun H3 => ∃ F' ι' S' acc vs1, Step F1 ι1 H1 F' ι' H3 ∧ Sim p.K p.mg F' ι' S' H3 ∧ H3 Dl = some (.lst vs1) ∧ F' Dl = none ∧ Dl ∉ ι' ∧ RelAll p.K F' ι' vs1 acc ∧ Post p (RL' p.K) F1 ι1 H1 σ (compGo (compStep g t e (wipeD ρ vs)) (xs.drop (i + 1)) acc S') Q, fun H3 h3 => ⟨m - 1, by omega, by omega, h3⟩, fun x H3 hy => ?_⟩
    obtain ⟨d, hd, y⟩ := wk.yld H' i x H3 (x2.same.trans s2.sub) hlt hy
    obtain ⟨F3, x3, s3, r3⟩ := y.sim x2 s2
    have hdrop : xs.drop i = d :: xs.drop (i + 1) := by
      rw [List.drop_eq_getElem_cons hlt]
      congr 1
      rw [List.getElem?_eq_getElem hlt] at hd
      exact Option.some.inj hd
    rw [hdrop] at q2
    unfold compGo at q2
    obtain ⟨hH3, hF3, hI3⟩ := x3.keep Dl _ hH hF hI trivial
    cases hz : g d (wipeD ρ vs) S2 with
    | none =>
      unfold compStep at q2
      rw [hz] at q2
      exact q2.elim
    | some ρ1 =>
      unfold compStep at q2
      rw [hz] at q2
      refine ⟨F3, ι2, wipeD ρ vs, S2, d, ρ1, s3, ((r.mono ((x1.trans x2).trans x3)).wipe vs), r3, hz, fun σ4 r4 w4 => ⟨?_, F3, ι2, ρ1, S2, s3, r4, ?_⟩⟩
      · rw [w4 vs hvs, wipe_wipe]
      · cases ht : t ρ1 S2 with
        | exc c fs S3 =>
          simp only [ht, noX, Out.stuck_bind] at q2
          exact q2.elim
        | stuck =>
          simp only [ht, noX, Out.stuck_bind] at q2
          exact q2.elim
        | ok b S3 =>
          intro F4 ι4 b' H4 x4 s4 rb
          cases (show b' = b from rb)
          simp only [ht, noX_ok, Out.ok_bind] at q2
          obtain ⟨hH4, hF4, hI4⟩ := x4.keep Dl _ hH3 hF3 hI3 trivial
          cases b with
          | false =>
            simp only [Bool.false_eq_true, if_false, Out.ok_bind] at q2
            exact ⟨F4, ι4, S3, acc, vs1, (x2.trans x3).trans x4, s4, hH4, hF4, hI4, RelAll.mono (x3.trans x4) ra, q2⟩
          | true =>
            simp only [if_true] at q2
            refine ⟨F4, ι4, ρ1, S3, s4, r4.mono x4, ?_⟩
            cases he : e ρ1 S3 with
            | exc c fs S4 =>
              simp only [he, noX, Out.stuck_bind] at q2
              exact q2.elim
            | stuck =>
              simp only [he, noX, Out.stuck_bind] at q2
              exact q2.elim
            | ok y S4 =>
              intro F5 ι5 w H5 x5 s5 rw'
              have rw' : Rel p.K F5 ι5 w y := rw'
              simp only [he, noX_ok, Out.ok_bind] at q2
              obtain ⟨hz2, q3⟩ := ite_stuck q2
              obtain ⟨hH5, hF5, hI5⟩ := x5.keep Dl _ hH4 hF4 hI4 trivial
              have ra5 := RelAll.mono ((x3.trans x4).trans x5) ra
              refine ⟨vs1, hH5, by rw [ra5.length]; exact sz_lt hz2, F5, ι5, S4, acc ++ [y], vs1 ++ [w], ?_, ?_, upd_same, hF5, hI5, ra5.append (.cons rw' .nil), q3⟩
              · have st := ((x2.trans x3).trans x4).trans x5
                refine ⟨st.toExt, fun b o e1 e2 e3 e4 => ?_, fun b hb => st.dom b (upd_dom hb)⟩
                obtain ⟨k1, k2, k3⟩ := st.keep b o e1 e2 e3 e4
                exact ⟨by rw [upd_ne (ne_of_none e1 hD)]; exact k1, k2, k3⟩
              · refine ⟨fun b o e1 => ?_, s5.len, s5.nd, fun n a c ha hc => ?_, s5.cl, s5.tab.upd hH5 trivial, s5.nt, tt_upd s5.tt (by intro _ z; cases z)⟩
                · rw [upd_ne (ne_of_none e1 hF5)]
                  exact s5.sub b o e1
                · exact (s5.cell n a c ha hc).mono (Ext.refl _ _) (fun z => z) fun o z => by
                    rw [upd_ne (show a ≠ Dl from fun z2 => hI5 (by rw [← z2]; exact List.mem_of_getElem? ha))]
                    exact z
  · refine .inl ⟨wk.stop H' i (x2.same.trans s2.sub) (by omega), ?_⟩
    rw [List.drop_of_length_le (by omega)] at q2
    exact q2 F2 ι2 _ H' x2 s2 ⟨Dl, vs1, rfl, hD, hH, hF, hI, ra⟩
variable {elt tg iter : Expr} {ifs : List Expr} {scope : Scope} {own : List (Str × Nat)} {pos : Pos} {fi : SemA} {g : SemG} {t : SemT} {e : SemE} {vs' : List Nat}
theorem xl_comp (hc : X.calm = true) (hN : X.N.Nodup) (hi : XI X W tg iter fi) (ok : BlkOk X.N X.env.scope scope own) (hvs : ∀ i ∈ vs', i ∈ own.map (·.2))
    (hg : ∀ (s : Shared) (H : Hp) (C : Addr) (cl : List (Str × Addr)) (fp : List Addr), PGD (X.blk s H scope (compEnvC scope cl C X.env) fp) tg g vs') (ht : ∀ (s : Shared) (H : Hp) (C : Addr) (cl : List (Str × Addr)) (fp : List Addr), XTs (X.blk s H scope (compEnvC scope cl C X.env) fp) ifs t)
    (he : ∀ (s : Shared) (H : Hp) (C : Addr) (cl : List (Str × Addr)) (fp : List Addr), XE (X.blk s H scope (compEnvC scope cl C X.env) fp) WF elt e) (hs : ∀ x, foldedSetIterable iter X.env x = pure x := by intro _; rfl) :
    XL X W (.ListComp elt [⟨tg, iter, ifs, 0⟩] scope pos) (lComp fi g t e (own.map (·.2))) := peI (pe_lc (g := tPG X.K X.mg g vs') (tt := tT ⟨X.K, X.mg, WF⟩ t) (te := tE ⟨X.K, X.mg, WF⟩ e) hc hN hi ok hg ht he hs) fun _ _ _ h => tG_comp hvs h
/-- name = [..] on one line -/
theorem xs_setLc {i : Nat} {y : Str} {py spos : Pos} (hc : X.calm = true) (hN : X.N.Nodup) (hy : X.N[i]? = some y) (hyl : X.env.scope.names.lookup y = some .local)
    (hsw : swapsWith (.ListComp elt [⟨tg, iter, ifs, 0⟩] scope pos) (some (.Name y py)) spos.line X.env = pure true) (hi : XI X W tg iter fi) (ok : BlkOk X.N X.env.scope scope own) (hvs : ∀ i ∈ vs', i ∈ own.map (·.2))
    (hg : ∀ (s : Shared) (H : Hp) (C : Addr) (cl : List (Str × Addr)) (fp : List Addr), PGD (X.blk s H scope (compEnvC scope cl C X.env) fp) tg g vs') (ht : ∀ (s : Shared) (H : Hp) (C : Addr) (cl : List (Str × Addr)) (fp : List Addr), XTs (X.blk s H scope (compEnvC scope cl C X.env) fp) ifs t)
    (he : ∀ (s : Shared) (H : Hp) (C : Addr) (cl : List (Str × Addr)) (fp : List Addr), XE (X.blk s H scope (compEnvC scope cl C X.env) fp) WF elt e) (hs : ∀ x, foldedSetIterable iter X.env x = pure x := by intro _; rfl) :
    ∀ {f : SemE}, (∀ p : Pl, ∀ σ H Q, tE p f σ H Q → tL p (lComp fi g t e (own.map (·.2))) σ H Q) → XS X W (.Assign [.Name y py] (.ListComp elt [⟨tg, iter, ifs, 0⟩] scope pos) spos) (sAsg i f) := fun hf =>
  psI (ps_setLc (g := tPG X.K X.mg g vs') (tt := tT ⟨X.K, X.mg, WF⟩ t) (te := tE ⟨X.K, X.mg, WF⟩ e) hc hN hy hyl hsw hi ok hg ht he hs) fun Dn σ H hh => tG_comp hvs (hf _ _ _ _ (tS_asg hh))
/-- the two ways a new list is kept -/
theorem tE_frz {p : Pl} {fa : SemA} {σ : L2.St} {H : Hp} {Q : VK} (h : tE p (frz fa) σ H Q) : tL p fa σ H Q := by
  obtain ⟨F, ι, ρ, S, s, r, q⟩ := h
  refine ⟨F, ι, ρ, S, s, r, ?_⟩
  unfold frz at q
  cases e : fa ρ S with
  | ok x S1 =>
    rw [e] at q
    intro F1 ι1 v H1 x1 s1 rv
    obtain ⟨q', vs, rfl, h0, hq, hf, hi, rr⟩ := rv
    obtain ⟨x0, x2, s2⟩ := s1.freezeNew x1 h0 hq hf hi
    exact q _ _ _ _ x2 s2 (.lst upd_same (RelAll.mono0 x0 rr))
  | exc c fs S1 => rw [e] at q; exact q
  | stuck => rw [e] at q; exact q.elim
theorem xs_setLF {i : Nat} {y : Str} {py spos : Pos} (hc : X.calm = true) (hN : X.N.Nodup) (hy : X.N[i]? = some y) (hyl : X.env.scope.names.lookup y = some .local)
    (hsw : swapsWith (.ListComp elt [⟨tg, iter, ifs, 0⟩] scope pos) (some (.Name y py)) spos.line X.env = pure true := by rfl) (hi : XI X W tg iter fi) (ok : BlkOk X.N X.env.scope scope own) (hvs : ∀ i ∈ vs', i ∈ own.map (·.2))
    (hg : ∀ (s : Shared) (H : Hp) (C : Addr) (cl : List (Str × Addr)) (fp : List Addr), PGD (X.blk s H scope (compEnvC scope cl C X.env) fp) tg g vs') (ht : ∀ (s : Shared) (H : Hp) (C : Addr) (cl : List (Str × Addr)) (fp : List Addr), XTs (X.blk s H scope (compEnvC scope cl C X.env) fp) ifs t)
    (he : ∀ (s : Shared) (H : Hp) (C : Addr) (cl : List (Str × Addr)) (fp : List Addr), XE (X.blk s H scope (compEnvC scope cl C X.env) fp) WF elt e) (hs : ∀ x, foldedSetIterable iter X.env x = pure x := by intro _; rfl) :
    XS X W (.Assign [.Name y py] (.ListComp elt [⟨tg, iter, ifs, 0⟩] scope pos) spos) (sAsg i (frz (lComp fi g t e (own.map (·.2))))) := xs_setLc hc hN hy hyl hsw hi ok hvs hg ht he hs fun _ _ _ _ h => tE_frz h
end
end Fk
namespace Fk
open PySem PySem.Spec PyProof.Rows L2
def isL (S : Store) (d : D) : Bool := match dr S d with
  | .lst _ => true
  | _ => false
def cellAt (S : Store) : D → Option (Nat × List D)
  | .ref n => match S[n]? with
    | some (.lst true xs) => some (n, xs)
    | _ => none
  | _ => none
theorem cellAt_eq {S : Store} {d : D} {n : Nat} {xs : List D} (h : cellAt S d = some (n, xs)) : d = .ref n ∧ S[n]? = some (.lst true xs) := by
  unfold cellAt at h
  split at h
  · split at h
    · next hc => cases h; exact ⟨rfl, hc⟩
    · cases h
  · cases h
theorem rel_ref {K : PySem.W.Frag} {F : Hp} {ι : List Addr} {v : V} {n : Nat} (h : Rel K F ι v (.ref n)) : ∃ a, v = .ref a ∧ ι[n]? = some a := by
  cases h with
  | ref e => exact ⟨_, rfl, e⟩
def appC (x y : D) (S : Store) : Out D := match cellAt S x with
  | some (n, xs) => if sz xs.length && closed n y then .ok .non (S.set n (.lst true (xs ++ [y]))) else .stuck
  | none => .stuck
def eApp (f g : SemE) : SemE := fun ρ S => (f ρ S).bind fun x S1 => if isL S1 x then (g ρ S1).bind fun y S2 => appC x y S2 else .stuck
def extC (x y : D) (S : Store) : Out D := match cellAt S x, dr S y with
  | some (n, xs), .lst ys => if sz (xs.length + ys.length) && closedA n ys then .ok .non (S.set n (.lst true (xs ++ ys))) else .stuck
  | _, _ => .stuck
def eExt (f g : SemE) : SemE := fun ρ S => (f ρ S).bind fun x S1 => if isL S1 x then (g ρ S1).bind fun y S2 => extC x y S2 else .stuck
def popC (x : D) (S : Store) : Out D := match cellAt S x with
  | some (n, xs) => match xs[xs.length - 1]? with
    | some y => .ok y (S.set n (.lst true xs.dropLast))
    | none => .stuck
  | none => .stuck
def ePop (f : SemE) : SemE := fun ρ S => (f ρ S).bind fun x S1 => popC x S1
section
variable {X : Cx} {W : WX} {o e : Expr} {f g : SemE} {apos cpos pos : Pos}
theorem isL_ty {mg : Str → Option Value} {K : PySem.W.Frag} {F : Hp} {ι : List Addr} {S : Store} {H : Hp} {v : V} {x : D} (s : Sim K mg F ι S H) (r : Rel K F ι v x) (h : isL S x = true) : tyV K "list" v H := by
  unfold isL at h
  split at h
  · next xs h1 =>
    obtain ⟨a, vs, rfl, e1, _⟩ := at_lst s r h1
    exact .inl ⟨rfl, vs, SqL.of e1⟩
  · cases h
theorem xe_app (ho : XE X W o f) (he : XE X W e g) (hbase : attributeBase o "append" X.env (eval o X.env) = eval o X.env := by rfl)
    (hfew : ((backTo cpos (starEach [e] X.env)).all (fun x => !x.1) && (backToKw cpos (keywordEach [] X.env)).all (fun x => x.1.isSome) && decide ([e].length + ([] : List Keyword).length + (if ([] : List Keyword).isEmpty then 0 else 1) < 30)) = true := by rfl)
    (hline : (apos.endLine == cpos.line) = true := by rfl) (hs : starEach [e] X.env = (false, eval e X.env) :: starEach [] X.env := by rfl) (hpl : (backTo cpos (starEach [] X.env)).any (·.1) = false := by rfl) :
    XE X W (.Call (.Attribute o "append" apos) [e] [] cpos) (eApp f g) := by
  refine peI (pe_bm PySem.F.plainAttrs_list PySem.F.slot_list_append PySem.F.type_list_append mt_append ho (pa_cons he pa_nil hs) hbase hfew hline hs hpl) fun σ H Q h => ?_
  obtain ⟨F, ι, ρ, S, sm, r, q⟩ := h
  refine ⟨F, ι, ρ, S, sm, r, post_bind (R := RV' X.K) q fun x S1 F1 ι1 v H1 x1 s1 rv q1 => ?_⟩
  obtain ⟨hL, q1⟩ := ite_stuck q1
  refine ⟨isL_ty s1 rv hL, F1, ι1, ρ, S1, s1, r.mono x1, post_bind (R := RV' X.K) q1 fun y S2 F2 ι2 u H2 x2 s2 ru q2 => ?_⟩
  unfold appC at q2
  split at q2
  · next n xs hc =>
    obtain ⟨hz, q2⟩ := ite_stuck q2
    obtain ⟨rfl, hc2⟩ := cellAt_eq hc
    obtain ⟨a, rfl, ha⟩ := rel_ref (Rel.mono x2 rv)
    obtain ⟨vs, g1, g2, g3⟩ := s2.cell n a _ ha hc2
    obtain ⟨hz, hcl⟩ := Bool.and_eq_true_iff.mp hz
    refine ⟨a, vs, u, rfl, rfl, g1, by rw [g2.length]; exact sz_lt hz, ?_⟩
    obtain ⟨x3, s3⟩ := s2.write (c := .lst true (xs ++ [y])) (o := .lst (vs ++ [u])) ha g3 ⟨_, upd_same, g2.append (.cons ru .nil), g3⟩ (by
      have := s2.cl n _ hc2
      simp only [closedC] at this ⊢
      rw [closedA_append, this]
      simp [hcl])
    exact q2 F2 ι2 _ _ x3 s3 .non
  · exact q2.elim
theorem xe_ext (ho : XE X W o f) (he : XE X W e g) (hbase : attributeBase o "extend" X.env (eval o X.env) = eval o X.env := by rfl)
    (hfew : ((backTo cpos (starEach [e] X.env)).all (fun x => !x.1) && (backToKw cpos (keywordEach [] X.env)).all (fun x => x.1.isSome) && decide ([e].length + ([] : List Keyword).length + (if ([] : List Keyword).isEmpty then 0 else 1) < 30)) = true := by rfl)
    (hline : (apos.endLine == cpos.line) = true := by rfl) (hs : starEach [e] X.env = (false, eval e X.env) :: starEach [] X.env := by rfl) (hpl : (backTo cpos (starEach [] X.env)).any (·.1) = false := by rfl) :
    XE X W (.Call (.Attribute o "extend" apos) [e] [] cpos) (eExt f g) := by
  refine peI (pe_bm PySem.F.plainAttrs_list PySem.F.slot_list_extend PySem.F.type_list_extend mt_extend ho (pa_cons he pa_nil hs) hbase hfew hline hs hpl) fun σ H Q h => ?_
  obtain ⟨F, ι, ρ, S, sm, r, q⟩ := h
  refine ⟨F, ι, ρ, S, sm, r, post_bind (R := RV' X.K) q fun x S1 F1 ι1 v H1 x1 s1 rv q1 => ?_⟩
  obtain ⟨hL, q1⟩ := ite_stuck q1
  refine ⟨isL_ty s1 rv hL, F1, ι1, ρ, S1, s1, r.mono x1, post_bind (R := RV' X.K) q1 fun y S2 F2 ι2 u H2 x2 s2 ru q2 => ?_⟩
  unfold extC at q2
  split at q2
  · next n xs ys hc hy =>
    obtain ⟨hz, q2⟩ := ite_stuck q2
    obtain ⟨rfl, hc2⟩ := cellAt_eq hc
    obtain ⟨a, rfl, ha⟩ := rel_ref (Rel.mono x2 rv)
    obtain ⟨vs, g1, g2, g3⟩ := s2.cell n a _ ha hc2
    obtain ⟨b, ws, rfl, e1, e2⟩ := at_lst s2 ru hy
    obtain ⟨hz, hcl⟩ := Bool.and_eq_true_iff.mp hz
    refine ⟨a, b, vs, ws, rfl, rfl, g1, e1, by rw [g2.length, e2.length]; exact sz_le hz, ?_⟩
    obtain ⟨x3, s3⟩ := s2.write (c := .lst true (xs ++ ys)) (o := .lst (vs ++ ws)) ha g3 ⟨_, upd_same, g2.append e2, g3⟩ (by
      have := s2.cl n _ hc2
      simp only [closedC] at this ⊢
      rw [closedA_append, this, hcl]
      rfl)
    exact q2 F2 ι2 _ _ x3 s3 .non
  · exact q2.elim
/-- o[i] = e, o a list -/
def setC (x i y : D) (S : Store) : Option Store := match cellAt S x, i with
  | some (n, xs), .int k => if closed n y then (ixN xs.length k).map fun j => S.set n (.lst true (xs.set j y)) else none
  | _, _ => none
def sSetI (fo fi fe : SemE) : SemS := fun ρ S => toS (fe ρ S) ρ fun y S1 => toS (fo ρ S1) ρ fun x S2 => toS (fi ρ S2) ρ fun i S3 => match setC x i y S3 with
  | some S4 => .nx ρ S4
  | none => .stuck
theorem xs_setI {i : Expr} {fo fi fe : SemE} {pos' : Pos} (ho : XE X W o fo) (hi : XE X W i fi) (he : XE X W e fe)
    (ha : ∀ v, assign (.Subscript o i pos') X.env v = (do
      let ov ← holding [v] (eval o X.env)
      let iv ← holding [v, ov] (eval i X.env)
      standAt pos'
      holding [v, ov, iv] (setItem ov iv v)
      release [v, ov, iv] []) := by intro _; rfl)
    (hs : swapsWithSole [.Subscript o i pos'] e pos.line X.env = pure false := by rfl) (hw : swappedStores [.Subscript o i pos'] e X.env = pure none := by rfl)
    (h1 : (assignEach [.Subscript o i pos'] X.env).map (·.2) = [assign (.Subscript o i pos') X.env] := by rfl) : XS X W (.Assign [.Subscript o i pos'] e pos) (sSetI fo fi fe) := by
  refine psI (ps_asg he (pg_sub ho hi set_list ha) hs hw h1) fun Dn σ H hh => ?_
  obtain ⟨F, ι, ρ, S, s, r, q⟩ := hh
  refine ⟨F, ι, ρ, S, s, r, post_toS r q fun y S1 F1 ι1 v H1 x1 s1 rv q1 => ?_⟩
  refine ⟨F1, ι1, ρ, S1, s1, r.mono x1, post_toS (r.mono x1) q1 fun x S2 F2 ι2 u H2 x2 s2 ru q2 => ?_⟩
  refine ⟨F2, ι2, ρ, S2, s2, (r.mono x1).mono x2, post_toS ((r.mono x1).mono x2) q2 fun k S3 F3 ι3 w H3 x3 s3 rw' q3 => ?_⟩
  cases hz : setC x k y S3 with
  | none => rw [hz] at q3; exact q3.elim
  | some S4 =>
    rw [hz] at q3
    unfold setC at hz
    split at hz
    · next n xs k' hc =>
      have hcl : closed n y = true := by
        cases hq : closed n y with
        | true => rfl
        | false => rw [hq] at hz; cases hz
      rw [hcl, if_pos rfl] at hz
      obtain ⟨j, hj, rfl⟩ := Option.map_eq_some_iff.mp hz
      obtain ⟨rfl, hc2⟩ := cellAt_eq hc
      obtain ⟨a, rfl, ha'⟩ := rel_ref (Rel.mono x3 ru)
      cases rel_int rw'
      obtain ⟨vs, g1, g2, g3⟩ := s3.cell n a _ ha' hc2
      refine ⟨a, vs, k', j, rfl, rfl, g1, by rw [g2.length]; exact hj, ?_⟩
      obtain ⟨x4, s4⟩ := s3.write (c := .lst true (xs.set j y)) (o := .lst (vs.set j v)) ha' g3 ⟨_, upd_same, g2.set (Rel.mono (x2.trans x3) rv) j, g3⟩ (by
        have := s3.cl n _ hc2
        simp only [closedC] at this ⊢
        refine closedA_mem.mpr fun z hz => ?_
        rcases List.mem_or_eq_of_mem_set hz with hz | rfl
        · exact closedA_mem.mp this z hz
        · exact hcl)
      exact q3 F3 ι3 σ _ x4 s4 (((r.mono x1).mono x2).mono x3)
    · cases hz
def keyOf : D → Option Key
  | .int i => some (.inl i)
  | .str x => some (.inr x)
  | _ => none
def lookD {κ : Type} [DecidableEq κ] (kds : List (κ × D)) (k : κ) : Option D := (kds.find? fun q => decide (q.1 = k)).map (·.2)
def putD {κ : Type} [DecidableEq κ] (kds : List (κ × D)) (k : κ) (d : D) : List (κ × D) :=
  if (kds.any fun q => decide (q.1 = k)) = true then kds.map (fun q => if q.1 = k then (q.1, d) else q) else kds ++ [(k, d)]
theorem RelKV.nil {κ : Type} {K : PySem.W.Frag} {F : Hp} {ι : List Addr} : RelKV (κ := κ) K F ι [] [] := ⟨rfl, .nil⟩
theorem RelKV.cons {κ : Type} {K : PySem.W.Frag} {F : Hp} {ι : List Addr} {k : κ} {v : V} {d : D} {kvs : List (κ × V)} {kds : List (κ × D)} (r : Rel K F ι v d) (h : RelKV K F ι kvs kds) : RelKV K F ι ((k, v) :: kvs) ((k, d) :: kds) := ⟨by simp [h.ks], .cons r h.vs⟩
theorem RelKV.append {κ : Type} {K : PySem.W.Frag} {F : Hp} {ι : List Addr} {kvs kws : List (κ × V)} {kds kes : List (κ × D)} (h : RelKV K F ι kvs kds) (g : RelKV K F ι kws kes) : RelKV K F ι (kvs ++ kws) (kds ++ kes) := ⟨by simp [h.ks, g.ks], by
  rw [List.map_append, List.map_append]
  exact h.vs.append g.vs⟩
def opDget : D → D → Store → Option D := fun d e S => match dr S d, keyOf e with
  | .dct kds, some k => lookD kds k
  | _, _ => none
def dputC (x k y : D) (S : Store) : Option Store := match x, keyOf k with
  | .ref n, some k' => match S[n]? with
    | some (.dK kds) => if sz kds.length && closed n y then some (S.set n (.dK (putD kds k' y))) else none
    | _ => none
  | _, _ => none
def sDPut (fo fi fe : SemE) : SemS := fun ρ S => toS (fe ρ S) ρ fun y S1 => toS (fo ρ S1) ρ fun x S2 => toS (fi ρ S2) ρ fun i S3 => match dputC x i y S3 with
  | some S4 => .nx ρ S4
  | none => .stuck
abbrev SemP := Env → Store → Out (List (Key × D))
def pNil : SemP := fun _ S => .ok [] S
def pCons (k : Key) (f : SemE) (g : SemP) : SemP := fun ρ S => (f ρ S).bind fun x S1 => (g ρ S1).bind fun xs S2 => .ok ((k, x) :: xs) S2
def mergeD (kds : List (Key × D)) : List (Key × D) := kds.foldl (fun acc q => putD acc q.1 q.2) []
def eDct (g : SemP) : SemE := fun ρ S => (g ρ S).bind fun kds S1 => if decide (kds.length ≤ 15) then .ok (.dct (mergeD kds)) S1 else .stuck
def eDctC (g : SemP) : SemE := fun ρ S => (g ρ S).bind fun kds S1 => if decide (kds.length ≤ 15) && closedV S1.length (mergeD kds) then .ok (.ref S1.length) (S1 ++ [.dK (mergeD kds)]) else .stuck
/-- the pairs of a display -/
structure XP (X : Cx) (W : WX) (pos : Pos) (keys : List (Option Expr)) (values : List Expr) (g : SemP) : Prop where
  pp : ∃ trs, PPs X pos keys values trs ∧ ∀ (σ : L2.St) (H : Hp) (F : Hp) (ι : List Addr) (ρ : Env) (S : Store) (Q : List (V × V) → Hp → Prop), Sim X.K X.mg F ι S H → REnv X.K F ι σ ρ →
    Post ⟨X.K, X.mg, W⟩ (fun _ F' ι' _ (ps : List (V × V)) (kds : List (Key × D)) => ∃ kvs : List (Key × V), ps = kvs.map (fun kv => (kV kv.1, kv.2)) ∧ RelKV X.K F' ι' kvs kds) F ι H σ (g ρ S) Q → tPairs trs σ H Q
/-- only displays whose parts raise nothing -/
def noXP (g : SemP) : SemP := fun ρ S => noX (g ρ S)
end
end Fk
namespace Fk
open PySem PySem.Spec PyProof.Rows L2
abbrev FSem := List D → Store → Out D
def startD (n : Nat) (ds : List D) : Env := ds.map some ++ List.replicate (n - ds.length) none
def endOf : OutS → Out D
  | .nx _ S => .ok .non S
  | .rt d S => .ok d S
  | .exc c fs _ S => .exc c fs S
  | _ => .stuck
def gc (n : Nat) : Out D → Out D
  | .ok d S => if closed n d then .ok d (S.take n) else .ok d S
  | .exc c fs S => if closedV n fs then .exc c fs (S.take n) else .exc c fs S
  | .stuck => .stuck
/-- a def of so many names, with this body -/
def fnD (n : Nat) (g : SemS) : FSem := fun ds S => gc S.length (endOf (g (startD n ds) S))
/-- its promise -/
def spD (K : PySem.W.Frag) (mg : Str → Option Value) (n : Nat) (fs : FSem) : Sp := fun vs H Q E =>
  ∃ F ι ds S, Sim K mg F ι S H ∧ RelAll K F ι vs ds ∧ ds.length = n ∧ Post ⟨K, mg, fun c d _ H => E c d H⟩ (RV' K) F ι H [] (fs ds S) Q
/-- a def that keeps its promise where no repr is under way -/
structure FnG (P : Program) (w : World) (K : PySem.W.Frag) (mg : Str → Option Value) (base : Heap) (k : Nat) (f : Addr) (fd : FuncData) (ps : List Str) (sp : Sp) : Prop where
  len : ∀ vs H Q E, sp vs H Q E → vs.length = ps.length
  run : ∀ (A : Around) (outer : List PySem.Env) (s : Shared) (H : Hp) (args : Args) (us : List Value) (vs : List V) (Q : VK) (E : XK), A.guards = some [] → Room k A → Env0 P w K mg base A outer s H → BindsTo s fd args (ps.zip us) → Vals vs us → sp vs H Q E →
    codeAny (model P w) A (.call (.ref f) args) (CR (L2N.CX P w) outer P w H s Q E) s
theorem FnG.mono {P : Program} {w : World} {K : PySem.W.Frag} {mg : Str → Option Value} {base : Heap} {j k : Nat} {f : Addr} {fd : FuncData} {ps : List Str} {sp : Sp} (F : FnG P w K mg base j f fd ps sp) (h : j ≤ k) : FnG P w K mg base k f fd ps sp :=
  ⟨F.len, fun A outer s H args us vs Q E hg hr => F.run A outer s H args us vs Q E hg (hr.mono h)⟩
section
variable {P : Program} {w : World} {K : PySem.W.Frag} {mg : Str → Option Value} {base : Heap} {x qual : Str} {params : Arguments} {body : List Stmt} {scope : Scope} {dvs : List V} {kws : List (Str × V)} {f : Addr} {fd : FuncData}
/-- from a def's body to its promise -/
theorem fnG_of {N ps : List Str} {k : Nat} {sp : Sp} (F : FunD K x qual params body scope dvs kws f fd) (S : FnScope N ps scope) (len : ∀ vs H Q E, sp vs H Q E → vs.length = ps.length)
    (hb : ∀ (cdv : Value) (A : Around) (outer : List PySem.Env) (s : Shared) (H : Hp) (vs : List V) (Q : VK) (E : XK), codeOf K f = some cdv → A.guards = some [] → Room k (A.deeper (envOfC qual scope s.heap.objs.size f cdv)) → sp vs H Q E →
      ∃ t, PSs (cxOf (L2N.CX P w) P w K mg base N qual scope f cdv A outer s H E) body t ∧ t { nx := fun _ H' => Q .non H', rt := Q } (start N vs) H) : FnG P w K mg base (k + 1) f fd ps sp := by
  obtain ⟨oc, od, dV, kV, doc, pm, an, cdv, ct, osl, rfl, lk, hcd, _, _⟩ := F.ex
  refine ⟨len, fun A outer s H args us vs Q E hg hr e0 hbi r hsp => ?_⟩
  have kin : K.In s.heap := e0.mod.kin.keeps fun b o e => (e0.bs b o e).1
  have free : s.heap.NoLimit := e0.mod.nolimit.keeps fun b o e => (e0.bs b o e).1
  have hkind : ∀ y ∈ ps.zip us, scope.names.lookup y.1 = some .local ∨ (scope.names.lookup y.1 = some .cell ∧ ((cellsFrom (s.heap.objs.size + 1) scope.names []).lookup y.1).isSome = true) := by
    rintro ⟨n, v⟩ hy
    rcases S.par n (List.of_mem_zip hy).1 with q | q
    · exact .inl q
    · exact .inr ⟨q, PySem.W.cellsFrom_some _ _ _ (.inl q)⟩
  refine codeAny_call_function hr.depth (kin _ _ lk) rfl S.co S.gen rfl (PySem.W.codeRec_of kin hcd) (hbi _ _ _ _ ?_)
  refine wpAny_newFunctionEnv_cells S.kind hkind fun env he s1 ic => ?_
  subst he
  refine ⟨free.keeps ic.toInCall.keep, codeAny_func ?_⟩
  obtain ⟨t, ht, hq⟩ := hb cdv A outer s H vs Q E (by unfold codeOf; rw [lk] <;> rfl) hg (hr.deeper _) hsp
  have I := inv_start (CX := L2N.CX P w) (E := E) S hr.hd e0 (len _ _ _ _ hsp) r ic
  refine wpAny_mono (ht.run [] s1 (start N vs) H _ I hq) (fun fl s' hs => ?_) fun e s' hs => hs
  cases fl with
  | ret u =>
    obtain ⟨v, σ', H', J, rv, q⟩ := hs
    exact ⟨v, H', J.os, J.bare, J.base, J.hok, rv, q⟩
  | next =>
    obtain ⟨σ', H', J, q⟩ := hs
    exact ⟨.non, H', J.os, J.bare, J.base, J.hok, rfl, q⟩
  | brk => obtain ⟨_, _, _, q⟩ := hs; exact False.elim q
  | cont => obtain ⟨_, _, _, q⟩ := hs; exact False.elim q
theorem REnv.start {F : Hp} {ι : List Addr} {vs : List V} {ds : List D} (r : RelAll K F ι vs ds) (N : List Str) : REnv K F ι (start N vs) (startD N.length ds) := by
  unfold L2.start startD
  refine ⟨by simp [r.length], fun i d h => ?_⟩
  by_cases hi : i < ds.length
  · rw [List.getElem?_append_left (by simpa using hi), List.getElem?_map] at h
    rw [List.getElem?_append_left (by simpa [r.length] using hi), List.getElem?_map]
    obtain ⟨d', h1, h2⟩ := Option.map_eq_some_iff.mp h
    cases h2
    obtain ⟨v, hv, rv⟩ := r.get h1
    exact ⟨v, by rw [hv]; rfl, rv⟩
  · rw [List.getElem?_append_right (by simpa using hi), List.getElem?_replicate] at h
    split at h <;> cases h
/-- at a return the cells of the def are let go -/
theorem Sim.back {F F' H H' : Hp} {ι ι' : List Addr} {S S' : Store} (s : Sim K mg F ι S H) (x : Step F ι H F' ι' H') (s' : Sim K mg F' ι' S' H') : Step F ι H F' ι H' ∧ Sim K mg F' ι (S'.take S.length) H' ∧ ι = ι'.take S.length := by
  have e : ι = ι'.take S.length := by
    obtain ⟨t, rfl⟩ := x.pre
    rw [← s.len, List.take_left']
    rfl
  have hle : S.length ≤ ι'.length := by
    obtain ⟨t, rfl⟩ := x.pre
    rw [← s.len, List.length_append]
    exact Nat.le_add_right _ _
  have hl : S.length ≤ S'.length := by rw [← s'.len]; exact hle
  refine ⟨⟨⟨x.same, List.prefix_rfl⟩, fun b o e1 e2 e3 e4 => let ⟨k1, k2, _⟩ := x.keep b o e1 e2 e3 e4; ⟨k1, k2, e3⟩, x.dom⟩, ⟨s'.sub, by rw [s.len, List.length_take]; omega, s.nd, fun n a c ha hc => ?_, fun n c hc => ?_, s'.tab, s'.nt, s'.tt⟩, e⟩
  · have hn : n < S.length := by rw [← s.len]; exact (List.getElem?_eq_some_iff.mp ha).1
    rw [List.getElem?_take_of_lt hn] at hc
    have ha' : ι'[n]? = some a := by
      rw [e, List.getElem?_take_of_lt hn] at ha
      exact ha
    have ok := s'.cell n a c ha' hc
    have hcl := s'.cl n c hc
    have mono : ∀ {vs : List V} {ds : List D}, RelAll K F' ι' vs ds → closedA n ds = true → RelAll K F' ι vs ds := fun {vs ds} r q => by
      rw [e]
      exact r.back hle (closedA_mem.mpr fun z hz => by
        have := closedA_mem.mp q z hz
        exact closed_mono (by omega) this)
    cases c with
    | lst b ds =>
      cases b with
      | true => obtain ⟨vs, h, r, f⟩ := ok; exact ⟨vs, h, mono r hcl, f⟩
      | false => obtain ⟨vs, h, r⟩ := ok; exact ⟨vs, h, mono r hcl⟩
    | dK kds => obtain ⟨vs, h, r, f⟩ := ok; exact ⟨vs, h, ⟨r.ks, mono r.vs hcl⟩, f⟩
    | dT kds => obtain ⟨vs, h, r, f⟩ := ok; exact ⟨vs, h, ⟨r.ks, mono r.vs hcl⟩, f⟩
    | ins c fs => obtain ⟨C, dx, fv, m, h, r, f⟩ := ok; exact ⟨C, dx, fv, m, h, ⟨r.ks, mono r.vs hcl⟩, f⟩
    | fT kds => obtain ⟨o, kvs, h, r⟩ := ok; exact ⟨o, kvs, h, ⟨r.ks, mono r.vs hcl⟩⟩
    | fK kds => obtain ⟨o, kvs, h, r⟩ := ok; exact ⟨o, kvs, h, ⟨r.ks, mono r.vs hcl⟩⟩
    | fn q d =>
      obtain ⟨v, h, r⟩ := ok
      have hcl : closed n d = true := hcl
      have r1 := mono (RelAll.one r) (by simp [closedA, hcl])
      cases r1 with
      | cons r2 _ => exact ⟨v, h, r2⟩
    | gone => exact ok
  · by_cases hn : n < S.length
    · rw [List.getElem?_take_of_lt hn] at hc
      exact s'.cl n c hc
    · rw [List.getElem?_eq_none (by rw [List.length_take]; omega)] at hc
      cases hc
theorem gcP {Q : VK} {F1 H : Hp} {ι : List Addr} {E : XK} {n : Nat} {d : D} {S' : Store} (q : Post ⟨K, mg, fun c d _ H => E c d H⟩ (RV' K) F1 ι H [] (gc n (.ok d S')) Q) :
    if closed n d then Post ⟨K, mg, fun c d _ H => E c d H⟩ (RV' K) F1 ι H [] (.ok d (S'.take n)) Q else Post ⟨K, mg, fun c d _ H => E c d H⟩ (RV' K) F1 ι H [] (.ok d S') Q := by
  by_cases h : closed n d = true
  · rw [if_pos h]; simpa only [gc, if_pos h] using q
  · rw [if_neg h]; simpa only [gc, if_neg h] using q
theorem gcX {Q : VK} {F1 H : Hp} {ι : List Addr} {E : XK} {n : Nat} {c : Str} {fs : List (Str × D)} {S' : Store} (q : Post ⟨K, mg, fun c d _ H => E c d H⟩ (RV' K) F1 ι H [] (gc n (.exc c fs S')) Q) :
    if closedV n fs then Post ⟨K, mg, fun c d _ H => E c d H⟩ (RV' K) F1 ι H [] (.exc c fs (S'.take n)) Q else Post ⟨K, mg, fun c d _ H => E c d H⟩ (RV' K) F1 ι H [] (.exc c fs S') Q := by
  by_cases h : closedV n fs = true
  · rw [if_pos h]; simpa only [gc, if_pos h] using q
  · rw [if_neg h]; simpa only [gc, if_neg h] using q
/-- THE RULE for a def: its body as it is read by this layer -/
theorem fn_okC {N ps : List Str} {k : Nat} {g : SemS} (F : FunD K x qual params body scope dvs kws f fd) (S : FnScope N ps scope)
    (hb : ∀ (cdv : Value) (A : Around) (outer : List PySem.Env) (s : Shared) (H : Hp) (E : XK), codeOf K f = some cdv → A.guards = some [] → Room k (A.deeper (envOfC qual scope s.heap.objs.size f cdv)) →
      XSs (cxOf (L2N.CX P w) P w K mg base N qual scope f cdv A outer s H E) (fun c d _ H => E c d H) body g) : FnG P w K mg base (k + 1) f fd ps (spD K mg ps.length (fnD N.length g)) := by
  refine fnG_of F S (fun vs H Q E ⟨F, ι, ds, S, s, r, hl, _⟩ => by rw [r.length]; exact hl) fun cdv A outer s H vs Q E hcc hg hr hsp => ⟨_, hb cdv A outer s H E hcc hg hr, ?_⟩
  obtain ⟨F1, ι, ds, St, sm, r, hl, q⟩ := hsp
  refine ⟨F1, ι, startD N.length ds, St, sm, REnv.start r N, ?_⟩
  unfold fnD at q
  have fin : ∀ d S', Post ⟨K, mg, fun c d _ H => E c d H⟩ (RV' K) F1 ι H [] (gc St.length (.ok d S')) Q → ∀ F' ι' v H', Step F1 ι H F' ι' H' → Sim K mg F' ι' S' H' → Rel K F' ι' v d → Q v H' := fun d S' q F' ι' v H' x s' rv => by
    have q := gcP q
    split at q
    · next hc =>
      obtain ⟨x2, s2, e2⟩ := sm.back x s'
      have hle : St.length ≤ ι'.length := by
        obtain ⟨t, rfl⟩ := x.pre
        rw [← sm.len, List.length_append]
        exact Nat.le_add_right _ _
      exact q F' ι v H' x2 s2 (by
        show Rel K F' ι v d
        rw [e2]
        exact rv.back hle hc)
    · exact q F' ι' v H' x s' rv
  cases e : g (startD N.length ds) St with
  | nx ρ S' => rw [e] at q; exact fun F' ι' σ' H' x s' _ => fin .non S' q F' ι' .non H' x s' .non
  | rt d S' => rw [e] at q; exact fin d S' q
  | bk ρ S' => rw [e] at q; exact q.elim
  | ct ρ S' => rw [e] at q; exact q.elim
  | stuck => rw [e] at q; exact q.elim
  | exc c fs ρ S' =>
    rw [e] at q
    intro F' ι' C d σ' H' x s' _ hm xd
    have q : Post ⟨K, mg, fun c d _ H => E c d H⟩ (RV' K) F1 ι H [] (gc St.length (.exc c fs S')) Q := q
    have q := gcX q
    split at q
    · next hc =>
      obtain ⟨x2, s2, e2⟩ := sm.back x s'
      have hle : St.length ≤ ι'.length := by
        obtain ⟨t, rfl⟩ := x.pre
        rw [← sm.len, List.length_append]
        exact Nat.le_add_right _ _
      refine q F' ι C d H' x2 s2 hm ?_
      rcases xd with xd | ⟨h1, dx, fv, h2, h0, hF, hi, h3, h4⟩
      · exact .inl xd
      · exact .inr ⟨h1, dx, fv, h2, h0, hF, fun z => hi (by rw [e2] at z; exact List.mem_of_mem_take z), h3, ⟨h4.ks, by
          rw [e2]
          exact h4.vs.back hle hc⟩⟩
    · exact q F' ι' C d H' x s' hm xd
theorem fn_ok {N ps : List Str} {k : Nat} {g : SemS} (F : FunD K x qual params body scope dvs kws f fd) (S : FnScope N ps scope)
    (hb : ∀ (cdv : Value) (A : Around) (outer : List PySem.Env) (s : Shared) (H : Hp) (E : XK), A.guards = some [] → Room k (A.deeper (envOfC qual scope s.heap.objs.size f cdv)) →
      XSs (cxOf (L2N.CX P w) P w K mg base N qual scope f cdv A outer s H E) (fun c d _ H => E c d H) body g) : FnG P w K mg base (k + 1) f fd ps (spD K mg ps.length (fnD N.length g)) :=
  fn_okC F S fun cdv A outer s H E _ => hb cdv A outer s H E
end
def eCall (fs : FSem) (dd : List D) (fa : SemA) : SemE := fun ρ S => (fa ρ S).bind fun ds S1 => fs (ds ++ dd) S1
section
variable {X : Cx} {W : WX} {k : Nat} {f : Addr} {fd : FuncData} {ps : List Str} {fs : FSem} {dvs : List V} {ds : List Value} {dd : List D} {x : Str} {p pos : Pos} {e : Expr} {es : List Expr} {fa : SemA}
theorem xe_call (F : FnG X.prog X.w X.K X.mg X.base k f fd ps (spD X.K X.mg ps.length fs)) (hG : X.A.guards = some []) (hr : Room k X.A) (hg : Gl X x) (hm : X.mg x = some (.ref f)) (hk : PySem.W.keepIn X.K (.ref f) = true) (hb : Binds X.K fd ps ds) (hd : Vals dvs ds)
    (hD : ∀ K F ι, RelAll K F ι dvs dd) (tk : L2N.Takes X W) (ha : XA X W (e :: es) fa) (hl : (e :: es).length + dd.length = ps.length := by rfl) (hlen : ∀ ρ S xs S', fa ρ S = .ok xs S' → xs.length = (e :: es).length) (hdb : (x == ("__debug__" : Str)) = false := by decide)
    (he : starEach (e :: es) X.env = (false, eval e X.env) :: starEach es X.env := by rfl) (hpl : (backTo pos (starEach es X.env)).any (·.1) = false := by rfl) : XE X W (.Call (.Name x p) (e :: es) [] pos) (eCall fs dd fa) := by
  refine ⟨fun pins s σ H Q I h => ?_⟩
  refine wpAny_Call_Name_kw (ld_glob I hg hm ?_ hdb)
  obtain ⟨F0, ι0, ρ, S, sm, r, q⟩ := h
  have key : tA ⟨X.K, X.mg, W⟩ fa σ H fun vs H1 => spD X.K X.mg ps.length fs (vs ++ dvs) H1 Q fun c d H' => W c d σ H' := by
    refine ⟨F0, ι0, ρ, S, sm, r, ?_⟩
    unfold eCall at q
    cases ex : fa ρ S with
    | exc c fl S1 => rw [ex] at q; exact q
    | stuck => rw [ex] at q; exact q.elim
    | ok xs S1 =>
      rw [ex] at q
      intro F1 ι1 vs H1 x1 s1 rv
      have q1 := Post.ext x1 q stV
      simp only [Out.ok_bind] at q1
      refine ⟨F1, ι1, xs ++ dd, S1, s1, RelAll.append rv (hD _ _ _), by rw [List.length_append, hlen _ _ _ _ ex]; exact hl, ?_⟩
      cases eo : fs (xs ++ dd) S1 with
      | ok d S2 => rw [eo] at q1; exact q1
      | exc c fl S2 => rw [eo] at q1; exact q1
      | stuck => rw [eo] at q1; exact q1.elim
  refine PySem.W.callWith_K (h₀ := X.base) I.ok.mod.kin hk (thn (ha.run pos pins s σ H _ I key) fun us s1 ⟨vs, H1, I1, rv, q1⟩ => ⟨I1.kIn, ?_⟩) he hpl
  have r2 : Vals (vs ++ dvs) (us ++ ds) := rv.append hd
  have hl2 : (us ++ ds).length = ps.length := by rw [← r2.length]; exact F.len _ _ _ _ q1
  refine wpAny_call (codeAny_mono (F.run X.A X.stack s1 H1 ⟨us, []⟩ (us ++ ds) (vs ++ dvs) Q _ hG hr I1.env0 (hb s1 us I1.kIn hl2) r2 q1) fun r s' hq => ?_)
  cases r with
  | error ev => exact tk _ _ (L2N.XE.of_call I1 (fun _ _ _ h => h) hq)
  | ok fl =>
    cases fl with
    | ret u => exact I1.after hq
    | next => exact False.elim hq
    | brk => exact False.elim hq
    | cont => exact False.elim hq
theorem alen_nil : ∀ ρ S xs S', aNil ρ S = .ok xs S' → xs.length = 0 := fun _ _ _ _ h => by cases h; rfl
theorem alen_cons {g : SemE} {n : Nat} (h : ∀ ρ S xs S', fa ρ S = .ok xs S' → xs.length = n) : ∀ ρ S xs S', aCons g fa ρ S = .ok xs S' → xs.length = n + 1 := fun ρ S xs S' hh => by
  unfold aCons at hh
  cases e1 : g ρ S with
  | ok d S1 =>
    rw [e1] at hh
    simp only [Out.ok_bind] at hh
    cases e2 : fa ρ S1 with
    | ok ds S2 =>
      rw [e2] at hh
      cases hh
      rw [List.length_cons, h _ _ _ _ e2]
    | exc c fl S2 => rw [e2] at hh; cases hh
    | stuck => rw [e2] at hh; cases hh
  | exc c fl S1 => rw [e1] at hh; cases hh
  | stuck => rw [e1] at hh; cases hh
end
end Fk
namespace Fk
open PySem PySem.Spec PyProof.Rows L2
section
variable {X : Cx} {W : WX} {e : Expr} {f g : SemE}
def fzC (n : Nat) (S : Store) : Option Cell → Out D
  | some (.lst true xs) => .ok (.lst xs) (S.set n (.lst false xs))
  | some (.lst false xs) => .ok (.lst xs) S
  | _ => .stuck
def fzO : D → Store → Out D
  | .ref n, S => fzC n S S[n]?
  | d, S => .ok d S
def eFz (f : SemE) : SemE := fun ρ S => (f ρ S).bind fzO
end
structure CxE (X : Cx) (W : WX) (k : Nat) : Prop where
  nd : X.N.Nodup
  calm : X.calm = true
  g : X.A.guards = some []
  room : Room k X.A
  tk : L2N.Takes X W
  sm : SM X
theorem takes_F {X : Cx} : L2N.Takes X WF := fun u s' ⟨a, B, sI, pins, σ, H, cls, d, e, I, nb, up, sky, na, os, ag, w⟩ => w.elim
theorem CxE.blk {X : Cx} {W : WX} {k : Nat} (c : CxE X W k) (s : Shared) (H : Hp) (scope : Scope) (cenv : PySem.Env) (fp : List Addr) : CxE (X.blk s H scope cenv fp) WF k := ⟨c.nd, c.calm, c.g, c.room, takes_F, c.sm⟩
theorem CxE.u64 {X : Cx} {W : WX} {k : Nat} (c : CxE X W k) : X.A.units + 64 < cLine := by have := c.room.un; omega
section
variable {P : Program} {w : World} {K : PySem.W.Frag} {mg : Str → Option Value} {base : Heap} {N : List Str} {qual : Str} {scope : Scope} {f : Addr} {cdv : Value} {A : Around} {outer : List PySem.Env} {s : Shared} {H : Hp} {E : XK} {k : Nat}
theorem cxe_of (hN : N.Nodup) (hg : A.guards = some []) (hr : Room k (A.deeper (envOfC qual scope s.heap.objs.size f cdv))) (hb : ∃ o, base.get? sysModules = some o ∧ o.cls ≠ .type "list") :
    CxE (cxOf (L2N.CX P w) P w K mg base N qual scope f cdv A outer s H E) (fun c d _ H => E c d H) k := ⟨hN, rfl, hg, hr, L2N.takes_of rfl rfl rfl rfl, hb⟩
theorem own_of : PassesOwn (model P w) (A.deeper (envOfC qual scope s.heap.objs.size f cdv)) (envOfC qual scope s.heap.objs.size f cdv) (cxOf (L2N.CX P w) P w K mg base N qual scope f cdv A outer s H E).xe := passes_of (X := cxOf (L2N.CX P w) P w K mg base N qual scope f cdv A outer s H E) rfl
end
structure Fn (P : Program) (w : World) (K : PySem.W.Frag) (mg : Str → Option Value) (base : Heap) (k : Nat) (x : Str) (ps : List Str) (dd : List D) (fs : FSem) : Prop where
  ex : ∃ (f : Addr) (fd : FuncData) (dvs : List V) (ds : List Value), mg x = some (.ref f) ∧ PySem.W.keepIn K (.ref f) = true ∧ FnG P w K mg base k f fd ps (spD K mg ps.length fs) ∧ Binds K fd ps ds ∧ Vals dvs ds ∧ ∀ K F ι, RelAll K F ι dvs dd
section
variable {X : Cx} {W : WX} {j k : Nat} {ps : List Str} {fs : FSem} {dd : List D} {x : Str} {p pos : Pos} {e : Expr} {es : List Expr} {fa : SemA}
theorem xe_fn (F : Fn X.prog X.w X.K X.mg X.base j x ps dd fs) (c : CxE X W k) (hj : j ≤ k) (hg : Gl X x) (ha : XA X W (e :: es) fa) (hlen : ∀ ρ S xs S', fa ρ S = .ok xs S' → xs.length = (e :: es).length) (hl : (e :: es).length + dd.length = ps.length := by rfl) (hdb : (x == ("__debug__" : Str)) = false := by decide)
    (he : starEach (e :: es) X.env = (false, eval e X.env) :: starEach es X.env := by rfl) (hpl : (backTo pos (starEach es X.env)).any (·.1) = false := by rfl) : XE X W (.Call (.Name x p) (e :: es) [] pos) (eCall fs dd fa) := by
  obtain ⟨f, fd, dvs, ds, hm, hk, hF, hb, hv, hd⟩ := F.ex
  exact xe_call (hF.mono hj) c.g c.room hg hm hk hb hv hd c.tk ha hl hlen hdb he hpl
end
section
variable {P : Program} {w : World} {K : PySem.W.Frag} {mg : Str → Option Value} {base : Heap} {x qual : Str} {params : Arguments} {body : List Stmt} {scope : Scope} {kws : List (Str × V)} {f : Addr} {fd : FuncData} {ps : List Str} {k : Nat} {fs : FSem}
theorem Fn.all (F : FunD K x qual params body scope [] kws f fd) (hm : mg x = some (.ref f)) (G : FnG P w K mg base k f fd ps (spD K mg ps.length fs))
    (h : ∀ (kV doc pm : Value) (an : Option Addr) (cdv ct : Value) (us : List Value), us.length = ps.length → bindArgs (PySem.W.fnOf x qual params body scope .none kV doc pm an cdv ct) ⟨us, []⟩ = pure (ps.zip us)) : Fn P w K mg base k x ps [] fs :=
  ⟨f, fd, [], [], hm, F.kp, G, F.bindsN h, .nil, fun _ _ _ => .nil⟩
end
/-- at the law's call: the script, perhaps; the empty tables; nothing else -/
structure Begin (K : PySem.W.Frag) (h : Heap) (cs : List (Addr × Addr)) (a : Addr) (H : Hp) : Prop where
  all : ∀ b u, H b = some u → (b ∈ cs.map Prod.snd ∧ u = .tbl #[]) ∨ (b = a ∧ b ∉ cs.map Prod.snd ∧ K.lookup b = none ∧ ∃ o xs, u = .frz o (.lst xs))
  tb : ∀ b ∈ cs.map Prod.snd, H b = some (.tbl #[])
abbrev tabO : Obj := { cls := .none, data := .fields #[] }
theorem law_callG {P : Program} {w : World} {K : PySem.W.Frag} {mg mb : Str → Option Value} {k : Nat} {fa a : Addr} {fd : FuncData} {x : Str} {sp : Sp} {s₁ : Shared} {vs : List Value} {ns : List Int} {cs : List (Addr × Addr)}
    (KX : K.In s₁.heap) (hns : s₁.heap.Ns mainGlobals mg) (hb : s₁.heap.Ns builtinsNs mb) (hbb : ∀ x : Str, x ≠ "__name__" → mb x = bootBuiltins x) (hlim : s₁.heap.NoLimit) (hg : s₁.gens = #[])
    (ht : ∀ p ∈ cs, s₁.heap.get? p.2 = some tabO) (hnt : ∀ p ∈ cs, K.lookup p.2 = none) (hcd : ∀ p ∈ cs, PySem.W.CodeHd s₁.heap p.1 p.2)
    (hbm : ∃ (m : Addr) (om : Obj), mg "__builtins__" = some (.ref m) ∧ m ≠ builtinsNs ∧ s₁.heap.get? m = some om ∧ om.cls = .type "module" ∧ om.dict = some builtinsNs ∧ om.data = .plain)
    (ha : s₁.heap.get? a = some { cls := .type "list", data := .seq vs.toArray }) (hi : IntsAre vs ns) (hl : ns.length ≤ sizeLine) (hr : Room k callerA)
    (F : ∀ base : Heap, K.In base → base.Ns mainGlobals mg → (∀ p ∈ cs, LamX.TabB base mg p.1 p.2) → FnG P w K mg base k fa fd [x] sp) (hbind : ∀ (s : Shared) (u : Value), BindsTo s fd ⟨[u], []⟩ [(x, u)])
    (hsp : ∀ H : Hp, Begin K s₁.heap cs a H → SqL K H a (ns.map V.int) → sp [.ref a] H (fun v _ => v = .bl true) fun _ _ _ => False) :
    codeAny (model P w) callerA (.call (.ref fa) ⟨[.ref a], []⟩) (fun r s' => r = .ok (.ret (.bool true)) ∧ OldK s₁.heap s'.heap ∧ s'.os = s₁.os ∧ AllBare s'.gens) s₁ := by
  have rv := vals_ints hi
  have hT : ∀ b ∈ cs.map Prod.snd, s₁.heap.get? b = some tabO ∧ K.lookup b = none := fun b z => by
    obtain ⟨p, hp, rfl⟩ := List.mem_map.mp z
    exact ⟨ht p hp, hnt p hp⟩
  have naT : a ∉ cs.map Prod.snd := fun z => by
    have q := ha.symm.trans (hT a z).1
    injection q with q
    injection q with _ _ q _
    cases q
  have inT : ∀ p ∈ cs, p.2 ∈ cs.map Prod.snd := fun p hp => List.mem_map_of_mem hp
  /- an abstract heap that tells of the script, or not, and of the tables -/
  have go : ∀ H : Hp, Begin K s₁.heap cs a H → SqL K H a (ns.map V.int) → HOk P w H s₁.heap →
      codeAny (model P w) callerA (.call (.ref fa) ⟨[.ref a], []⟩) (fun r s' => r = .ok (.ret (.bool true)) ∧ OldK s₁.heap s'.heap ∧ s'.os = s₁.os ∧ AllBare s'.gens) s₁ := fun H hO hS hok => by
    /- what is neither is told of by nothing -/
    have nn : ∀ {b : Addr} {o : Obj}, s₁.heap.get? b = some o → (∀ z n, o.data ≠ .seq z n) → o.data ≠ .fields #[] → H b = none := fun {b o} e h1 h2 => Option.eq_none_iff_forall_ne_some.mpr fun u z => by
      rcases hO.all b u z with ⟨q, _⟩ | ⟨rfl, _⟩
      · rw [(hT b q).1] at e
        cases e
        exact h2 rfl
      · rw [ha] at e
        cases e
        exact h1 _ _ rfl
    have nK : ∀ {b : Addr} {o : Obj}, K.lookup b = some o → H b = none := fun {b o} e => Option.eq_none_iff_forall_ne_some.mpr fun u z => by
      rcases hO.all b u z with ⟨q, _⟩ | ⟨_, _, q, _⟩
      · rw [(hT b q).2] at e
        cases e
      · rw [q] at e
        cases e
    have nD : ∀ {b : Addr} {o : Obj} {es : Array DictEntry} {ep : Nat}, s₁.heap.get? b = some o → o.data = .dict es ep → H b = none := fun {b o es ep} e d => nn e (fun _ _ z => by rw [d] at z; cases z) (fun z => by rw [d] at z; cases z)
    have ns' : ∀ {b : Addr} {m : Str → Option Value}, s₁.heap.Ns b m → (hidT s₁.heap H).Ns b m := fun {b m} ⟨o, es, ep, e, d, r⟩ => ⟨o, es, ep, hidT_get e (nD e d), d, r⟩
    have kb : K.In (hidT s₁.heap H) := fun b o e => hidT_get (KX b o e) (nK e)
    obtain ⟨mc, l1, l2⟩ := hlim
    have tb : ∀ p ∈ cs, LamX.TabB (hidT s₁.heap H) mg p.1 p.2 := fun p hp => by
      have e2 := ht p hp
      have ng : mainGlobals ≠ p.2 := fun z => by
        obtain ⟨o, es, ep, e, d, _⟩ := hns
        rw [z, e2] at e
        cases e
        cases d
      refine ⟨?_, ?_, ng⟩
      · obtain ⟨o, us, fl, tf, gs, tg, iF, tx, tt, e1, c1, c2, c3, rest⟩ := hcd p hp
        refine ⟨o, us, fl, tf, gs, tg, iF, tx, tt, hidT_get e1 (nn e1 (fun _ _ z => by rw [c2] at z; cases z) fun z => ?_), c1, c2, c3, rest⟩
        rw [c2] at z
        cases z
        simp at c3
      · obtain ⟨m, om, b1, b2, b3, b4, b5, b6⟩ := hbm
        refine ⟨m, om, b1, b2, fun z => ?_, fun z => ?_, hidT_get b3 (nn b3 (fun _ _ z => by rw [b6] at z; cases z) fun z => by rw [b6] at z; cases z), b4, b5, b6⟩
        · obtain ⟨o, es, ep, e, d, _⟩ := hns
          rw [z, e] at b3
          cases b3
          rw [d] at b6
          cases b6
        · rw [z, e2] at b3
          cases b3
          cases b6
    have e0 : Env0 P w K mg (hidT s₁.heap H) callerA [] s₁ H := ⟨rfl, ⟨kb, ns' hns, ⟨mb, ns' hb, hbb⟩, ⟨mc, ns' l1, l2⟩⟩, fun b o e => of_hidT e, Nat.le_of_eq (hidT_size _ _), trivial, fun b hb => (List.not_mem_nil hb).elim, hok, .of_eq hg⟩
    refine codeAny_mono ((F _ kb (ns' hns) tb).run callerA [] s₁ H ⟨[.ref a], []⟩ [.ref a] [.ref a] _ _ rfl hr e0 (hbind s₁ (.ref a)) (.cons rfl .nil) (hsp H hO hS)) fun r s' h => ?_
    match r, h with
    | .error e, ⟨_, _, _, _, _, _, _, _, _, _, _, _, z⟩ => exact z.elim
    | .ok .next, h => exact False.elim h
    | .ok .brk, h => exact False.elim h
    | .ok .cont, h => exact False.elim h
    | .ok (.ret u), ⟨v, H', os, bare, un, hok', r', q⟩ =>
      have q : v = .bl true := q
      subst q
      obtain rfl : u = Value.bool true := r'
      have old : ∀ b o, b ∉ cs.map Prod.snd → s₁.heap.get? b = some o → s'.heap.get? b = some o := fun b o nb e => by
        cases z : H b with
        | none => exact un.keep b o e z (fun y => (List.not_mem_nil y).elim) (by simp)
        | some u =>
          rcases hO.all b u z with ⟨q, _⟩ | ⟨_, _, _, ob, xs, rfl⟩
          · exact absurd q nb
          · obtain ⟨e1, _⟩ := hok b _ z
            obtain ⟨e2, _⟩ := hok' b _ (un.frzs b ob _ z)
            rw [e] at e1
            cases e1
            exact e2
      have grow : ∀ b ∈ cs.map Prod.snd, ∃ m : Array Value, s'.heap.get? b = some { cls := .none, data := .fields m } := fun b nb => by
        obtain ⟨m, z⟩ := un.tbls b #[] (hO.tb b nb)
        exact ⟨_, hok' b _ z⟩
      refine ⟨rfl, ⟨fun b o e => ?_, fun b o e => ?_⟩, os, bare⟩
      · by_cases nb : b ∈ cs.map Prod.snd
        · obtain ⟨m, hm⟩ := grow b nb
          obtain ⟨p, hp, rfl⟩ := List.mem_map.mp nb
          have e3 := e.symm.trans (ht p hp)
          cases e3
          refine .inr (.inl ⟨((hcd p hp).tab (ht p hp)).isCodeTable, rfl, #[], m, rfl, ?_⟩)
          rw [Array.empty_append]
          exact hm
        · exact .inl (old b o nb e)
      · by_cases nb : b ∈ cs.map Prod.snd
        · obtain ⟨m, hm⟩ := grow b nb
          exact ⟨_, hm⟩
        · exact ⟨o, old b o nb e⟩
  have lv : vs.length ≤ sizeLine := by rw [hi.length]; exact hl
  cases hk : K.lookup a with
  | some o =>
    have e := KX a o hk
    rw [ha] at e
    cases e
    have hH : ∀ b u, (if b ∈ cs.map Prod.snd then some (HO.tbl #[]) else none) = some u → b ∈ cs.map Prod.snd ∧ u = .tbl #[] := fun b u z => by
      split at z
      · next q => cases z; exact ⟨q, rfl⟩
      · cases z
    refine go (fun b => if b ∈ cs.map Prod.snd then some (.tbl #[]) else none) ⟨fun b u z => .inl (hH b u z), fun b z => if_pos z⟩ (.inr ⟨_, vs.toArray, _, hk, rfl, rfl, rfl, by simpa using lv, by simpa using rv⟩) fun b u z => ?_
    obtain ⟨q, rfl⟩ := hH b u z
    exact (hT b q).1
  | none =>
    have hH : ∀ b u, (if b = a then some (HO.frz { cls := .type "list", data := .seq vs.toArray } (.lst (ns.map V.int))) else if b ∈ cs.map Prod.snd then some (HO.tbl #[]) else none) = some u →
        (b ∈ cs.map Prod.snd ∧ u = .tbl #[]) ∨ (b = a ∧ u = .frz { cls := .type "list", data := .seq vs.toArray } (.lst (ns.map V.int))) := fun b u z => by
      split at z
      · next e => cases z; exact .inr ⟨e, rfl⟩
      · split at z
        · next q => cases z; exact .inl ⟨q, rfl⟩
        · cases z
    refine go (fun b => if b = a then some (.frz { cls := .type "list", data := .seq vs.toArray } (.lst (ns.map V.int))) else if b ∈ cs.map Prod.snd then some (.tbl #[]) else none) ⟨fun b u z => ?_, fun b z => ?_⟩ (.inl (.inr ⟨_, if_pos rfl⟩)) fun b u z => ?_
    · rcases hH b u z with q | ⟨rfl, rfl⟩
      · exact .inl q
      · exact .inr ⟨rfl, naT, hk, _, _, rfl⟩
    · exact (if_neg (show ¬ b = a from fun e => naT (e ▸ z))).trans (if_pos z)
    · rcases hH b u z with ⟨q, rfl⟩ | ⟨rfl, rfl⟩
      · exact (hT b q).1
      · exact ⟨ha, by simpa using hl, vs, _, rv, ha⟩
def tbB (tn : List Str) (K : PySem.W.Frag) : Bool := tabN.all fun x => tn.contains x || (tabOf K x).isEmpty
theorem tabAt_ok {K : PySem.W.Frag} {c P : Addr} (h : tabAt K c = some P) : K.lookup P = none ∧ ∃ e dd vs sl, K.lookup c = some ⟨e, dd, .fields vs, sl⟩ ∧ vs[11]? = some (.ref P) := by
  unfold tabAt at h
  split at h
  · next e dd vs sl e1 =>
    split at h
    · next P' e2 =>
      split at h
      · next e3 => cases h; exact ⟨e3, _, _, _, _, e1, e2⟩
      · cases h
    · cases h
  · cases h
theorem tabOf_ok {K : PySem.W.Frag} {x : Str} {p : Addr × Addr × Str} (h : p ∈ tabOf K x) : ∃ f, PySem.W.nsIn K mainGlobals x = some (some (.ref f)) ∧ codeOf K f = some (.ref p.1) ∧ tabAt K p.1 = some p.2.1 := by
  unfold tabOf at h
  split at h
  · next f e =>
    split at h
    · next c e2 =>
      split at h
      · next P e3 =>
        cases List.mem_singleton.mp h
        exact ⟨f, e, e2, e3⟩
      · cases h
    · cases h
  · cases h
/-- one table for the lambdas of the def x, no other def's -/
def lamB (K : PySem.W.Frag) (x : Str) : Bool := tabN.contains x && match tabOf K x with
  | [p] => (tabsK K).all fun r => !decide (r.2.1 = p.2.1) || decide (r.2.2 = p.2.2)
  | _ => false
/-- the script as it lies -/
def onlyF (H : Hp) : Hp := fun b => match H b with
  | some (.tbl _) => none
  | o => o
theorem onlyF_sub (H : Hp) : Same (onlyF H) H := fun b o e => by
  unfold onlyF at e
  split at e
  · cases e
  · exact e
/-- THE END: the law's def answers True for every script of so many cells -/
theorem walk_ofG {l : PySem.W.OpenLaw} {n k : Nat} {q : Program} {loose : List Str} {XP : (Str → Option Value) → Heap → Prop} {YP : World → Heap → Prop} {d : DefRec} {x : Str} {fs : FSem} {tn : List Str}
    (hn : l.most = some n) (hn2 : n ≤ sizeLine) (hdf : d.params.defaults = []) (hr : Room k callerA) (htn : ∀ x ∈ tn, ((recsOf q).any fun e => e.name == x) = true)
    (F : ∀ (w : World) (mg : Str → Option Value) (fa : Addr) (h : Heap), YP w h → h.Ns mainGlobals mg → mg d.name = some (.ref fa) →
      ∃ (K : PySem.W.Frag) (fd : FuncData), K.In h ∧ tbB tn K = true ∧ (∀ (s : Shared) (u : Value), BindsTo s fd ⟨[u], []⟩ [(x, u)]) ∧ ∀ base : Heap, K.In base → base.Ns mainGlobals mg → (∀ p ∈ tabsK K, LamX.TabB base mg p.1 p.2.1) → FnG l.prog w K mg base k fa fd [x] (spD K mg 1 fs))
    (hf : ∀ ns : List Int, ns.length ≤ n → (∀ z ∈ ns, Builtin.Int.intBits z ≤ 1048576) → ∃ S, fs [.scr (ns.map D.int)] [] = .ok (.bl true) S) :
    PySem.W.WalkO q loose XP YP l.row.toRowW d [] (fun f vs => PySem.call f vs) := by
  refine Att.attach_callB hn hdf fun w s₀ s₁ mg mb fa o pm cd doc a vs ns G Y ho hd hcd hmg hobj hints hlen hbits hg => ?_
  obtain ⟨K, fd, KX, htb, hb, hF⟩ := F w mg fa _ Y G.T.g hmg
  have tabs : ∀ p ∈ tabsK K, s₁.heap.get? p.2.1 = some tabO ∧ K.lookup p.2.1 = none ∧ PySem.W.CodeHd s₁.heap p.1 p.2.1 := fun p hp => by
    obtain ⟨y, hy, hp⟩ := List.mem_flatMap.mp hp
    have z := List.all_eq_true.mp htb y hy
    have hy2 : y ∈ tn := by
      rcases Bool.or_eq_true_iff.mp z with z | z
      · simpa using z
      · rw [List.isEmpty_iff.mp z] at hp
        cases hp
    obtain ⟨f, e1, e2, e3⟩ := tabOf_ok hp
    obtain ⟨e4, ec, dd, vc, sl, e5, e6⟩ := tabAt_ok e3
    obtain ⟨r, hr1, hr2⟩ := List.any_eq_true.mp (htn y hy2)
    have hr2 : r.name = y := beq_iff_eq.mp hr2
    obtain ⟨f', o', fd', c', P', h1, h2, h3, h4, h5, h6⟩ := G.T.tab r hr1
    have hga : He.ga K y = f := by
      unfold He.ga
      rw [e1]
    have e1' : mg y = some (.ref f) := by
      have := He.glo_ok KX G.T.g (show (He.Fa.glo y).ok K = true by show He.eqO _ _ = true; rw [hga, e1]; simp [He.eqO])
      rw [hga] at this
      exact this
    rw [hr2, e1'] at h1
    cases h1
    unfold codeOf at e2
    split at e2
    · next a1 a2 fd1 a3 k1 =>
      rw [KX _ _ k1] at h2
      cases h2
      cases h3
      rw [h4] at e2
      cases e2
      have hh := PySem.W.CodeHd.of h5 h6
      obtain ⟨⟨oc, vc2, q1, _, q3, q4⟩, q5⟩ := h6
      rw [KX _ _ e5] at q1
      cases q1
      cases q3
      rw [e6] at q4
      cases q4
      exact ⟨q5, e4, hh⟩
    · cases e2
  have mt : ∀ {p : Addr × Addr}, p ∈ (tabsK K).map (fun p => (p.1, p.2.1)) → ∃ q ∈ tabsK K, p = (q.1, q.2.1) := fun {p} hp => by
    obtain ⟨q, h1, rfl⟩ := List.mem_map.mp hp
    exact ⟨q, h1, rfl⟩
  refine law_callG (cs := (tabsK K).map fun p => (p.1, p.2.1)) KX G.T.g G.T.b G.T.builtins G.T.nolimit hg (fun p hp => ?_) (fun p hp => ?_) (fun p hp => ?_) G.T.bmain hobj hints (Nat.le_trans hlen hn2) hr (fun base h1 h2 h3 => hF base h1 h2 fun p hp => h3 (p.1, p.2.1) (List.mem_map.mpr ⟨p, hp, rfl⟩)) hb fun H hO hS => ?_
  · obtain ⟨q, h1, rfl⟩ := mt hp
    exact (tabs q h1).1
  · obtain ⟨q, h1, rfl⟩ := mt hp
    exact (tabs q h1).2.1
  · obtain ⟨q, h1, rfl⟩ := mt hp
    exact (tabs q h1).2.2
  obtain ⟨S, hS2⟩ := hf ns hlen hbits
  have ri : ∀ ns : List Int, RelAll K (onlyF H) [] (ns.map V.int) (ns.map D.int) := fun ns => by
    induction ns with
    | nil => exact .nil
    | cons i r ih => exact .cons (.int i) ih
  have hS' : SqL K (onlyF H) a (ns.map V.int) := by
    rcases hS with (hS | ⟨o, hS⟩) | hS
    · exact .inl (.inl (by unfold onlyF; rw [hS]))
    · exact .inl (.inr ⟨o, by unfold onlyF; rw [hS]⟩)
    · exact .inr hS
  refine ⟨onlyF H, [], [.scr (ns.map D.int)], [], ⟨onlyF_sub H, rfl, List.nodup_nil, fun n a c e => (by simp at e), fun n c e => (by simp at e), fun p hp => LamX.TabS.nil (hO.tb _ (List.mem_map.mpr ⟨(p.1, p.2.1), List.mem_map.mpr ⟨p, hp, rfl⟩, rfl⟩)), fun b ps e => ?_, fun b ps e => ?_⟩, .cons (.scr hS' (ri ns)) .nil, rfl, ?_⟩
  · unfold onlyF at e
    split at e
    · cases e
    · next h => exact h _ e
  · rcases hO.all b _ e with ⟨z, _⟩ | ⟨_, _, _, _, _, z⟩
    · obtain ⟨p, hp, rfl⟩ := List.mem_map.mp z
      obtain ⟨q, hq, rfl⟩ := mt hp
      exact ⟨q, hq, rfl⟩
    · cases z
  rw [hS2]
  exact fun F' ι' v H' _ _ r => rel_bl r
end Fk
set_option maxHeartbeats 4000000
namespace Fk
open PySem PySem.Spec PyProof.Rows L2
def orO {α : Type} (op op' : D → D → Store → Option α) : D → D → Store → Option α := fun d e S => match op d e S with
  | some a => some a
  | none => op' d e S
section
variable {X : Cx}
theorem ox_or {f : Value → Value → Sem Value} {op op' : D → D → Store → Option D} (h1 : OpX X f op) (h2 : OpX X f op') : OpX X f (orO op op') := by
  intro pins s σ H x y v u Q I rx ry h
  obtain ⟨F, ι, S, d, e, a, sm, rd, re, ho, q⟩ := h
  unfold orO at ho
  cases e1 : op d e S with
  | some b => rw [e1] at ho; cases ho; exact h1 pins s σ H x y v u Q I rx ry ⟨F, ι, S, d, e, a, sm, rd, re, e1, q⟩
  | none => rw [e1] at ho; exact h2 pins s σ H x y v u Q I rx ry ⟨F, ι, S, d, e, a, sm, rd, re, ho, q⟩
def opRev : D → Store → Option D := fun d S => match dr S d with
  | .tup xs => some (.tup xs.reverse)
  | .lst xs => some (.lst xs.reverse)
  | _ => none
end
section
variable {prog : Program} {w : World} {A : Around} {E : Value → Shared → Prop} {s : Shared}
theorem rev_places (n : Nat) : Builtin.Slice.slicePlaces ((n : Int) - 1) (-1) (-1) = n := by
  unfold Builtin.Slice.slicePlaces
  by_cases h : (n : Int) - 1 > -1
  · have e : ((n : Int) - 1 - -1 - 1) / (- -1) + 1 = (n : Int) := by
      rw [show (- -1 : Int) = 1 by decide, Int.ediv_one]
      omega
    simp only [show ¬ ((-1 : Int) > 0) by decide, if_false, h, if_true, e, Int.toNat_natCast]
  · have : n = 0 := by omega
    subst this
    rfl
theorem rev_pick (xs : Array Value) : ((List.range xs.size).filterMap fun (k : Nat) => xs[((((xs.size : Int) - 1) + (k : Int) * (-1))).toNat]?) = xs.toList.reverse := by
  have e : ((List.range xs.size).filterMap fun (k : Nat) => xs[((((xs.size : Int) - 1) + (k : Int) * (-1))).toNat]?) = ((List.range xs.size).map fun k => xs.size - 1 - k).filterMap (xs[·]?) := by
    rw [List.filterMap_map]
    congr 1
    funext k
    have e : ((((xs.size : Int) - 1) + (k : Int) * (-1))).toNat = xs.size - 1 - k := by omega
    simp only [Function.comp, e]
  rw [e, PySem.W.krv_range, List.filterMap_reverse, PySem.W.krv_all]
theorem sliceApplied_rev {sl : Addr} {vs : Value} {n : Nat} {Q : Int × Int × Nat → Shared → Prop} (hs : s.heap.IsSliceOf sl .none .none vs) (ps : IsPart vs (some (-1)))
    (h : Q ((n : Int) - 1, -1, n) s) : wpAny (model prog w) A (Builtin.Slice.sliceApplied (.ref sl) (pure (n : Int))) Q E s := by
  obtain ⟨os, hos, hcs, hds⟩ := id hs
  unfold Builtin.Slice.sliceApplied Builtin.Slice.sliceFields
  refine wpAny_bind (wpAny_bind (wpAny_field hos hds (x := .none) rfl (wpAny_bind (wpAny_field hos hds (x := .none) rfl (wpAny_bind (wpAny_field hos hds (x := vs) rfl (wpAny_pure ?_)))))))
  refine wpAny_bind (HT.slicePart_ ps ?_)
  show wpAny _ _ (if ((-1 : Int) == 0) = true then _ else _) _ _ s
  rw [if_neg (by decide)]
  refine wpAny_bind (PyProof.Rows.slicePart_none (wpAny_bind (PyProof.Rows.slicePart_none (wpAny_bind (wpAny_pure ?_)))))
  show wpAny _ _ (pure ((n : Int) - 1, (-1 : Int), Builtin.Slice.slicePlaces ((n : Int) - 1) (-1) (-1))) _ _ s
  rw [rev_places]
  exact wpAny_pure h
theorem getItem_tuple_rev {t sl : Addr} {items : Array Value} {vs : Value} {Q : Value → Shared → Prop} (ht : IsTup s.heap t items) (hs : s.heap.IsSliceOf sl .none .none vs) (ps : IsPart vs (some (-1)))
    (h : Q (.ref s.heap.objs.size) { s with heap := s.heap.push { cls := .type "tuple", data := .seq items.toList.reverse.toArray } })
    (hsz : items.size ≤ sizeLine) : wpAny (model prog w) A (getItem (.ref t) (.ref sl)) Q E s := by
  have htake : sizeOk (.seq items.toList.reverse.toArray) := by
    show items.toList.reverse.toArray.size ≤ sizeLine
    simpa using hsz
  obtain ⟨os, hos, hcs, hds⟩ := id hs
  have hTs : s.TypeIs (.ref sl) "slice" := ⟨os, hos, hcs⟩
  unfold getItem
  try with_reducible refine wpAny_holding ?_
  first | refine wpAny_bind (wpAny_pure ?_) | skip
  refine wpAny_bind (wpAny_sequenceKey ht.typeIs (by decide) ?_)
  refine wpAny_bind (wpAny_callSpecial?_slot (name := Str.ofString "__getitem__") ht.typeIs PyProof.Rows.slot_tuple_getitem
    (wpAny_call_entry PyProof.Rows.slot_tuple_getitem ht.typeIs PyProof.Rows.entry_tuple_getitem ?_ (PyProof.Rows.args_tuple_getitem _ _)))
  show wpAny _ _ (Builtin.Tuple.tupleItemsOf (.ref t) >>= _) _ _ s
  refine wpAny_bind (PyProof.Rows.tupleItemsOf_ ht ?_)
  refine wpAny_bind (wpAny_typeOf hTs ?_)
  rw [if_pos (by decide)]
  refine wpAny_bind (sliceApplied_rev hs ps ?_)
  have hno : ¬ (((items.size : Int) - 1 == 0 && (-1 : Int) == 1 && items.size == items.size) = true) := by simp
  show wpAny _ _ (if ((items.size : Int) - 1 == 0 && (-1 : Int) == 1 && items.size == items.size) = true then _ else _) _ _ s
  rw [if_neg hno, rev_pick]
  first
    | exact wpAny_bind (m := Builtin.Tuple.tupleExact _) (wpAny_newObj_type (wpAny_pure ⟨_, rfl, wpAny_pure h⟩) htake)
    | exact wpAny_bind (m := Builtin.Tuple.tupleExact _) (wpAny_newObj_type (wpAny_bind (wpAny_pure (wpAny_pure ⟨_, rfl, wpAny_pure h⟩))) htake)
    | exact wpAny_bind (wpAny_bind (m := Builtin.Tuple.tupleExact _) (wpAny_newObj_type (wpAny_pure (wpAny_pure ⟨_, rfl, wpAny_pure h⟩)) htake))
    | exact wpAny_bind (wpAny_bind (m := Builtin.Tuple.tupleExact _) (wpAny_newObj_type (wpAny_pure ⟨_, rfl, wpAny_pure h⟩) htake))
end
section
variable {X : Cx} {W : WX} {e : Expr} {f : SemE}
theorem xe_rev {k : Nat} {p1 p2 p3 pos : Pos} (he : XE X W e f) : XE X W (.Subscript e (.Slice none none (some (.UnaryOp .USub (.Constant (.int 1) k p1) p2)) p3) pos) (eUn opRev f) := by
  refine ⟨fun pins s σ H Q I h => ?_⟩
  refine Subscript_ (thn (he.run pins s σ H _ I (tG_un h)) fun v s1 ⟨x, H1, I1, r1, q1⟩ => ?_)
  obtain ⟨F, ι, S, d, a, sm, rd, ho, q⟩ := q1
  have hst : PO X (some (.UnaryOp .USub (.Constant (.int 1) k p1) p2)) (tPart (tUn (rU fun i => .int (-i)) (tC (.int 1)))) := po_some (pe_un un_neg pe_int)
  refine wpAny_Slice (thn (po_none.run pins s1 σ H1 (fun o H2 => o = none ∧ H2 = H1) I1 ⟨rfl, rfl⟩) fun vl s2 ⟨l, H2, I2, pl, el, e2⟩ => ?_)
  subst el e2
  refine thn (po_none.run pins s2 σ H2 (fun o H3 => o = none ∧ H3 = H2) I2 ⟨rfl, rfl⟩) fun vu s3 ⟨u, H3, I3, pu, eu, e3⟩ => ?_
  subst eu e3
  refine thn (hst.run pins s3 σ H3 (fun o H4 => o = some (-1) ∧ H4 = H3) I3 ⟨1, rfl, -1, rfl, rfl, rfl⟩) fun vs s4 ⟨o, H4, I4, ps, eo, e4⟩ => ?_
  subst eo e4
  have I5 : Inv X pins σ H4 { s4 with heap := s4.heap.push { cls := .type "slice", data := .fields #[vl, vu, vs] } } := I4.kept (t' := s4.toks) fun b ob q => Heap.get?_push_of_some _ q
  cases pl
  cases pu
  unfold opRev at ho
  split at ho
  · next xs h1 =>
    cases ho
    obtain ⟨b, ws, rfl, e1, f1, rr, rfl⟩ := at_tup sm rd h1
    cases r1
    obtain ⟨its, r, ht, hz⟩ := I5.tuple (e1.sq)
    have hlen := r.length
    show wpAny (model X.prog X.w) X.A (subscriptTail e (.Slice none none (some (.UnaryOp .USub (.Constant (.int 1) k p1) p2)) p3) (.ref b) (.ref s4.heap.objs.size)) (EP X pins σ Q) X.xe { s4 with heap := s4.heap.push { cls := .type "slice", data := .fields #[.none, .none, vs] } }
    refine tail_any (ops := [.ref b, .ref s4.heap.objs.size]) ht.typeIs (PyProof.Rows.slot_tuple_getitem.lookup) ?_ (by with_unfolding_all rfl)
    refine getItem_tuple_rev ht (Heap.IsSliceOf.new _ .none .none vs) ps ?_ (by rw [List.size_toArray]; omega)
    obtain ⟨x2, s2'⟩ := sm.frozen (o := .tup ws.reverse) (I5.hok.fresh (Nat.le_refl _))
    refine ⟨.ref _, _, I5.laid (t' := s4.toks) (o := .tup ws.reverse) (fun b ob q => Heap.get?_push_of_some _ q) (Nat.le_refl _) ?_, rfl, q _ _ _ _ x2 s2' (.tup upd_same (RelAll.mono x2 rr.reverse))⟩
    exact ⟨by rw [List.length_reverse]; exact hz, _, r.reverse, IsTup.new _ _⟩
  · next xs h1 =>
    cases ho
    obtain ⟨b, ws, rfl, e1, rr⟩ := at_lst sm rd h1
    cases r1
    obtain ⟨its, r, ht, hz⟩ := I5.list (SqL.of e1)
    have hlen := r.length
    show wpAny (model X.prog X.w) X.A (subscriptTail e (.Slice none none (some (.UnaryOp .USub (.Constant (.int 1) k p1) p2)) p3) (.ref b) (.ref s4.heap.objs.size)) (EP X pins σ Q) X.xe { s4 with heap := s4.heap.push { cls := .type "slice", data := .fields #[.none, .none, vs] } }
    refine tail_any (ops := [.ref b, .ref s4.heap.objs.size]) ht.isList.typeIs (PySem.slot_list_getitem.lookup) ?_ (by with_unfolding_all rfl)
    refine wpAny_getItem_list_slice ht.isList (Heap.IsSliceOf.new _ .none .none vs) .none .none ps (by decide) ?_ (by rw [List.size_toArray]; omega)
    rw [PySem.W.krv_pick]
    obtain ⟨x2, s2'⟩ := sm.frozen (o := .lst ws.reverse) (I5.hok.fresh (Nat.le_refl _))
    refine ⟨.ref _, _, I5.laid (t' := s4.toks) (o := .lst ws.reverse) (fun b ob q => Heap.get?_push_of_some _ q) (Nat.le_refl _) ?_, rfl, q _ _ _ _ x2 s2' (.lst upd_same (RelAll.mono x2 rr.reverse))⟩
    exact ⟨by rw [List.length_reverse]; exact hz, _, 0, r.reverse, Heap.get?_push_size _ rfl⟩
  · cases ho
end
theorem tuple_mulS (l : Addr) (items : Array Value) (n : Nat) (dd : Option Addr) (sl : Array (Option Value)) (x : Int) (u : Tok) (c0 : (decide (x < -(2 ^ 63)) || decide (x ≥ 2 ^ 63)) = false) (c1 : (items.isEmpty || x == 1) = true) :
    Meets (Builtin.«tuple.__mul__» ⟨[.ref l, .int x u], []⟩) (fun _ R s => s.heap.get? l = some { cls := .type "tuple", dict := dd, data := .seq items n, slots := sl } ∧ R (.ok (.ret (Value.ref l))) s) :=
  .of_wp fun prog w A R s h => by
    obtain ⟨hp, g, d, tk, os⟩ := s
    obtain ⟨hl, h⟩ := h
    have f1 := AutoSeq1.idx_int
    wp_walk using wpAny_loadPart' hl
    repeat (first
      | (refine wpAny_ite_false (decide_eq_false (by rw [c0]; exact Bool.false_ne_true)) ?_; wp_walk using wpAny_loadPart' hl)
      | (refine wpAny_ite_true (decide_eq_true c1) ?_; wp_walk using wpAny_loadPart' hl))
    exact ⟨_, rfl, h⟩
/-- t * k for k <= 0 -/
theorem tuple_mulZ (l : Addr) (items : Array Value) (n : Nat) (dd : Option Addr) (sl : Array (Option Value)) (x : Int) (u : Tok) (c0 : (decide (x < -(2 ^ 63)) || decide (x ≥ 2 ^ 63)) = false) (c1 : (items.isEmpty || x == 1) = false) (c2 : (decide (x ≤ 0) || items.isEmpty) = true) :
    Meets (Builtin.«tuple.__mul__» ⟨[.ref l, .int x u], []⟩) (fun _ R s => s.heap.get? l = some { cls := .type "tuple", dict := dd, data := .seq items n, slots := sl } ∧ R (.ok (.ret (Value.ref s.heap.objs.size))) { s with heap := s.heap.push { cls := Value.type "tuple", data := Data.seq #[] }, toks := s.toks }) :=
  .of_wp fun prog w A R s h => by
    obtain ⟨hp, g, d, tk, os⟩ := s
    obtain ⟨hl, h⟩ := h
    have f1 := AutoSeq1.idx_int
    wp_walk using wpAny_loadPart' hl
    repeat (first
      | (refine wpAny_ite_false (decide_eq_false (by rw [c0]; exact Bool.false_ne_true)) ?_; wp_walk using wpAny_loadPart' hl)
      | (refine wpAny_ite_false (decide_eq_false (by rw [c1]; exact Bool.false_ne_true)) ?_; wp_walk using wpAny_loadPart' hl)
      | (refine wpAny_ite_true (decide_eq_true c2) ?_; wp_walk using wpAny_loadPart' hl)
      | (refine wpAny_ite_false (decide_eq_false (Nat.not_lt.mpr (Nat.zero_le _))) ?_; wp_walk using wpAny_loadPart' hl))
    exact ⟨_, rfl, h⟩
def opMul0 : D → D → Store → Option D := fun d e _ => match d, e with
  | .tup xs, .int k => if (xs.isEmpty || k == 1) && decide (-1000 ≤ k ∧ k ≤ 1000) then some (.tup xs) else if decide (-1000 ≤ k ∧ k ≤ 0) then some (.tup []) else none
  | _, _ => none
theorem ox_mul0 {X : Cx} : OpX X (binaryOp .Mult) opMul0 := by
  intro pins s σ H x y v u Q I rx ry h
  obtain ⟨Fz, ι, S, d, e, a, sm, rd, re, ho, q⟩ := h
  unfold opMul0 at ho
  split at ho
  · next xs k =>
    split at ho
    · next hc =>
      cases ho
      obtain ⟨c1, c2⟩ := Bool.and_eq_true_iff.mp hc
      have c2 := of_decide_eq_true c2
      obtain ⟨l, vs, rfl, e1, f1, rr, _⟩ := at_tup sm rd (show dr S (.tup xs) = .tup xs from rfl)
      cases rx
      cases rel_int re
      obtain ⟨t, rfl⟩ := ry
      obtain ⟨its, r, ⟨⟨cls, dd, data, sl⟩, ho, hc', n, hd⟩, hs⟩ := I.tuple (e1.sq)
      simp only at hc' hd
      subst hc' hd
      have hle : its.length = xs.length := by rw [← rr.length]; exact r.length.symm
      have h0 : (decide (k < -(2 ^ 63)) || decide (k ≥ 2 ^ 63)) = false := by
        rw [decide_eq_false (by omega), decide_eq_false (by omega)] <;> rfl
      have h1 : (its.toArray.isEmpty || k == 1) = true := by
        have : its.toArray.isEmpty = xs.isEmpty := by
          cases its <;> cases xs <;> simp_all
        rw [this]
        exact c1
      exact wpAny_binaryOp_repeat_ref (T := "tuple") (U := "int") (by decide) ⟨_, ho, rfl⟩ (fun s' => typeIs_int s' k t) noFill_tuple_mul F.fills_int_mul F.slot_int_rmul repeat_tuple F.slot_int_index.lookup
        (call_meets F.slot_int_rmul (typeIs_int s k t) F.entry_int_rmul (F.args_int_rmul_2 _ _) (int_rmul_tuple k t l its.toArray n dd sl)
          ⟨ho, rfl, ⟨_, ho, rfl⟩, call_meets F.slot_tuple_mul ⟨_, ho, rfl⟩ F.entry_tuple_mul (F.args_tuple_mul_2 _ _) (tuple_mulS l its.toArray n dd sl k t h0 h1) ⟨ho, ⟨.ref l, H, I, rfl, q Fz ι _ H (Step.refl _ _ _) sm rd⟩⟩⟩)
    · next hn =>
      split at ho
      · next hc =>
        cases ho
        have c2 := of_decide_eq_true hc
        obtain ⟨l, vs, rfl, e1, f1, rr, _⟩ := at_tup sm rd (show dr S (.tup xs) = .tup xs from rfl)
        cases rx
        cases rel_int re
        obtain ⟨t, rfl⟩ := ry
        obtain ⟨its, r, ⟨⟨cls, dd, data, sl⟩, ho, hc', n, hd⟩, hs⟩ := I.tuple (e1.sq)
        simp only at hc' hd
        subst hc' hd
        have hle : its.length = xs.length := by rw [← rr.length]; exact r.length.symm
        have h0 : (decide (k < -(2 ^ 63)) || decide (k ≥ 2 ^ 63)) = false := by
          rw [decide_eq_false (by omega), decide_eq_false (by omega)] <;> rfl
        have hx : xs.isEmpty = false := by
          cases q : xs.isEmpty with
          | false => rfl
          | true => exact absurd (by rw [q, decide_eq_true (show -1000 ≤ k ∧ k ≤ 1000 by omega)]; rfl) hn
        have hi : its.toArray.isEmpty = false := by
          rw [← hx]
          cases its <;> cases xs <;> simp_all
        have h1 : (its.toArray.isEmpty || k == 1) = false := by
          rw [hi, Bool.false_or]
          exact beq_eq_false_iff_ne.mpr (by omega)
        have h2 : (decide (k ≤ 0) || its.toArray.isEmpty) = true := by
          rw [decide_eq_true c2.2]; rfl
        refine wpAny_binaryOp_repeat_ref (T := "tuple") (U := "int") (by decide) ⟨_, ho, rfl⟩ (fun s' => typeIs_int s' k t) noFill_tuple_mul F.fills_int_mul F.slot_int_rmul repeat_tuple F.slot_int_index.lookup
          (call_meets F.slot_int_rmul (typeIs_int s k t) F.entry_int_rmul (F.args_int_rmul_2 _ _) (int_rmul_tuple k t l its.toArray n dd sl)
            ⟨ho, rfl, ⟨_, ho, rfl⟩, call_meets F.slot_tuple_mul ⟨_, ho, rfl⟩ F.entry_tuple_mul (F.args_tuple_mul_2 _ _) (tuple_mulZ l its.toArray n dd sl k t h0 h1 h2) ⟨ho, ?_⟩⟩)
        obtain ⟨x2, s2⟩ := sm.frozen (o := .tup []) (I.hok.fresh (Nat.le_refl _))
        refine ⟨.ref s.heap.objs.size, _, I.laid (t' := s.toks) (o := .tup []) (fun b ob q => Heap.get?_push_of_some _ q) (Nat.le_refl _) ?_, rfl, q _ _ _ _ x2 s2 (.tup upd_same .nil)⟩
        exact ⟨by simp [sizeLine_eq], _, .nil, IsTup.new _ _⟩
      · cases ho
  · cases ho
def opEqS : D → D → Store → Option D := fun d e _ => match d, e with
  | .str x, .str y => some (.bl (decide (x = y)))
  | _, _ => none
def opNeS : D → D → Store → Option D := fun d e _ => match d, e with
  | .str x, .str y => some (.bl (!decide (x = y)))
  | _, _ => none
theorem dec_strV (x y : Str) : decide (V.str x = V.str y) = decide (x = y) := by
  by_cases h : x = y
  · subst h; simp
  · rw [decide_eq_false h, decide_eq_false (fun z => h (by cases z; rfl))]
theorem ox_eqS {X : Cx} : OpX X (compareOp .Eq) opEqS := by
  intro pins s σ H x y v u Q I rx ry h
  obtain ⟨F, ι, S, d, e, a, sm, rd, re, ho, q⟩ := h
  unfold opEqS at ho
  split at ho
  · next x y =>
    cases ho
    cases rel_str rd
    cases rel_str re
    refine op_eq pins s σ H _ _ v u Q I rx ry ⟨rfl, ?_⟩
    rw [dec_strV]
    exact q F ι _ H (Step.refl _ _ _) sm (.bl _)
  · cases ho
theorem ox_neS {X : Cx} : OpX X (compareOp .NotEq) opNeS := by
  intro pins s σ H x y v u Q I rx ry h
  obtain ⟨F, ι, S, d, e, a, sm, rd, re, ho, q⟩ := h
  unfold opNeS at ho
  split at ho
  · next x y =>
    cases ho
    cases rel_str rd
    cases rel_str re
    refine op_ne pins s σ H _ _ v u Q I rx ry ⟨rfl, ?_⟩
    rw [dec_strV]
    exact q F ι _ H (Step.refl _ _ _) sm (.bl _)
  · cases ho
def opEqA := orO opEqS opEq
def opNeA := orO opNeS opNe
theorem ox_eqA {X : Cx} (hu : X.A.units + 64 < cLine) : OpX X (compareOp .Eq) opEqA := ox_or ox_eqS (ox_eq hu)
theorem ox_neA {X : Cx} (hu : X.A.units + 64 < cLine) : OpX X (compareOp .NotEq) opNeA := ox_or ox_neS (ox_ne hu)
def b2 (b : Bool) : Int := if b = true then 1 else 0
def opAddB : D → D → Store → Option D := fun d e _ => match d, e with
  | .bl b, .int j => some (.int (b2 b + j))
  | .int i, .bl b => some (.int (i + b2 b))
  | _, _ => none
def opSubB : D → D → Store → Option D := fun d e _ => match d, e with
  | .bl b, .int j => some (.int (b2 b - j))
  | .int i, .bl b => some (.int (i - b2 b))
  | _, _ => none
def opMulB : D → D → Store → Option D := fun d e _ => match d, e with
  | .bl b, .int j => some (.int (b2 b * j))
  | .int i, .bl b => some (.int (i * b2 b))
  | _, _ => none
section
variable {X : Cx}
theorem ox_addB : OpX X (binaryOp .Add) opAddB := by
  intro pins s σ H x y v u Q I rx ry h
  obtain ⟨F, ι, S, d, e, a, sm, rd, re, ho, q⟩ := h
  unfold opAddB at ho
  split at ho
  · cases ho
    cases rel_bl rd
    cases rel_int re
    obtain rfl : v = Value.bool _ := rx
    obtain ⟨t, rfl⟩ := ry
    exact PySem.IntBool.add_bool_int ⟨.int _, H, I.tok _, ⟨_, rfl⟩, q F ι _ H (Step.refl _ _ _) sm (.int _)⟩
  · cases ho
    cases rel_int rd
    cases rel_bl re
    obtain ⟨t, rfl⟩ := rx
    obtain rfl : u = Value.bool _ := ry
    exact PySem.add_int_bool ⟨.int _, H, I.tok _, ⟨_, rfl⟩, q F ι _ H (Step.refl _ _ _) sm (.int _)⟩
  · cases ho
theorem ox_subB : OpX X (binaryOp .Sub) opSubB := by
  intro pins s σ H x y v u Q I rx ry h
  obtain ⟨F, ι, S, d, e, a, sm, rd, re, ho, q⟩ := h
  unfold opSubB at ho
  split at ho
  · cases ho
    cases rel_bl rd
    cases rel_int re
    obtain rfl : v = Value.bool _ := rx
    obtain ⟨t, rfl⟩ := ry
    exact PySem.IntBool.sub_bool_int ⟨.int _, H, I.tok _, ⟨_, rfl⟩, q F ι _ H (Step.refl _ _ _) sm (.int _)⟩
  · cases ho
    cases rel_int rd
    cases rel_bl re
    obtain ⟨t, rfl⟩ := rx
    obtain rfl : u = Value.bool _ := ry
    exact PySem.IntBool.sub_int_bool ⟨.int _, H, I.tok _, ⟨_, rfl⟩, q F ι _ H (Step.refl _ _ _) sm (.int _)⟩
  · cases ho
theorem ox_mulB : OpX X (binaryOp .Mult) opMulB := by
  intro pins s σ H x y v u Q I rx ry h
  obtain ⟨F, ι, S, d, e, a, sm, rd, re, ho, q⟩ := h
  unfold opMulB at ho
  split at ho
  · cases ho
    cases rel_bl rd
    cases rel_int re
    obtain rfl : v = Value.bool _ := rx
    obtain ⟨t, rfl⟩ := ry
    exact PySem.IntBool.mul_bool_int ⟨.int _, H, I.tok _, ⟨_, rfl⟩, q F ι _ H (Step.refl _ _ _) sm (.int _)⟩
  · cases ho
    cases rel_int rd
    cases rel_bl re
    obtain ⟨t, rfl⟩ := rx
    obtain rfl : u = Value.bool _ := ry
    exact PySem.IntBool.mul_int_bool ⟨.int _, H, I.tok _, ⟨_, rfl⟩, q F ι _ H (Step.refl _ _ _) sm (.int _)⟩
  · cases ho
def opAddA := orO opAdd opAddB
def opSubA := orO opSub opSubB
def opMulA := orO (orO opMul opMul0) opMulB
theorem ox_addA : OpX X (binaryOp .Add) opAddA := ox_or ox_add ox_addB
theorem ox_subA : OpX X (binaryOp .Sub) opSubA := ox_or ox_sub ox_subB
theorem ox_mulA : OpX X (binaryOp .Mult) opMulA := ox_or (ox_or ox_mul ox_mul0) ox_mulB
def absDA : List D → Store → Option D
  | [.int i], _ => some (.int (if i < 0 then -i else i))
  | [.bl b], _ => some (.int (b2 b))
  | _, _ => none
def strDA : List D → Store → Option D
  | [.int i], _ => if decide (i.natAbs.log2 < 1920) then some (.str (toString i : String)) else none
  | [.bl b], _ => some (.str (if b then "True" else "False"))
  | _, _ => none
theorem call_abs_bool {prog : Program} {w : World} {A : Around} {E : Value → Shared → Prop} {s : Shared} {b : Bool} {Q : Value → Shared → Prop} (h : ∀ u tk, Q (.int (b2 b) u) { s with toks := tk }) :
    wpAny (model prog w) A (call (.builtin "abs") [.bool b]) Q E s := by
  refine PySem.Calls.call_function_entry kind_abs plain_abs entry_abs (args_abs _) ?_
  unfold Builtin.«abs»
  refine wpAny_bind (m := oneArg "abs" _) (wpAny_pure ?_)
  refine wpAny_bind (m := callSpecial? (.bool b) (Str.ofString "__abs__")) (wpAny_callSpecial?_slot (name := Str.ofString "__abs__") (show s.TypeIs (.bool b) "bool" from rfl) F.slot_bool_abs
    (wpAny_call_entry F.slot_bool_abs (show s.TypeIs (.bool b) "bool" from rfl) entry_int_abs ?_ (args_int_abs _)))
  cases b with
  | true => exact wpAny_ret_mkInt (wpAny_pure ⟨_, rfl, h _ _⟩)
  | false => exact wpAny_ret_mkInt (wpAny_pure ⟨_, rfl, h _ _⟩)
theorem cx_absA : CallX X (.builtin "abs") absDA := by
  intro pins s σ H xs us Q I r h
  obtain ⟨F, ι, S, ds, a, sm, rd, ho, q⟩ := h
  unfold absDA at ho
  split at ho
  · next i => exact cx_abs pins s σ H xs us Q I r ⟨F, ι, S, _, a, sm, rd, ho, q⟩
  · next b =>
    cases ho
    obtain ⟨x, rfl, rx⟩ := rel1 rd
    cases rel_bl rx
    cases r with
    | cons r1 r2 =>
      cases r2
      obtain rfl : _ = Value.bool _ := r1
      exact call_abs_bool fun u tk => ⟨.int _, H, I.tok _, ⟨_, rfl⟩, q F ι _ H (Step.refl _ _ _) sm (.int _)⟩
  · cases ho
end
end Fk
namespace Fk
open PySem PySem.Spec PyProof.Rows L2
def smB (K : PySem.W.Frag) : Bool := match K.lookup sysModules with
  | some ⟨.type c, _, _, _⟩ => !decide (c = "list")
  | _ => false
theorem smB_ok {K : PySem.W.Frag} {base : Heap} (h : smB K = true) (X : K.In base) : ∃ o, base.get? sysModules = some o ∧ o.cls ≠ .type "list" := by
  unfold smB at h
  split at h
  · next c od dt sl e =>
    refine ⟨_, X _ _ e, fun z => ?_⟩
    have z : Value.type c = Value.type "list" := z
    cases z
    simp at h
  · cases h
/-- no table of code objects: such grow -/
def noTab (g : Addr → Option Obj) (a : Addr) : Bool := match g a with
  | some ⟨.none, _, .fields _, _⟩ => false
  | _ => true
def frM (g : Addr → Option Obj) (n : Nat) : PySem.W.Frag := He.frG g (sysModules :: (He.asD g n).filter (noTab g))
abbrev AlS : Type := He.AlD × Bool
def obsS (xb : PySem.W.Frag → Bool) (n : Nat) (fa : List He.Fa) (fn : List He.DefD) (g : Addr → Option Obj) : AlS := (He.obsD fa fn (frM g n), smB (frM g n) && xb (frM g n))
def hookS (xb : PySem.W.Frag → Bool) (n : Nat) (fa : List He.Fa) (fn : List He.DefD) : PySem.W.Hook where
  α := AlS
  obs := fun s => obsS xb n fa fn s.heap.get?
  val := fun _ => (He.valD fn, true)
  says := fun _ h => ∃ K : PySem.W.Frag, K.In h ∧ He.SaysD fa fn K ∧ (smB K && xb K) = true
  of := fun _ _ e => ⟨_, He.frG_in, congrArg Prod.fst e, congrArg Prod.snd e⟩
  keeps := fun _ _ _ ⟨K, hK, c⟩ k => ⟨K, PySem.W.Frag.In.keeps hK k, c⟩
theorem obsS_eq {xb : PySem.W.Frag → Bool} {n : Nat} {fa : List He.Fa} {fn : List He.DefD} {g : Addr → Option Obj} {s : Shared} (h : ∀ a, g a = s.heap.get? a) : obsS xb n fa fn g = (hookS xb n fa fn).obs s := by
  have e : g = s.heap.get? := funext h
  rw [e] <;> rfl
section
variable {P : Program} {w : World} {K : PySem.W.Frag} {mg : Str → Option Value} {base : Heap} {x qual : Str} {params : Arguments} {body : List Stmt} {scope : Scope} {kws : List (Str × V)} {f : Addr} {fd : FuncData} {ps : List Str} {k : Nat} {fs : FSem} {dvs : List V} {dd : List D}
/-- some parameters are left to their defaults -/
theorem Fn.some (F : FunD K x qual params body scope dvs kws f fd) (hm : mg x = some (.ref f)) (G : FnG P w K mg base k f fd ps (spD K mg ps.length fs)) (n j : Nat) (hd : dvs ≠ []) (hn : n + (dvs.length - j) = ps.length) (hdd : ∀ K F ι, RelAll K F ι (dvs.drop j) dd)
    (h : ∀ (T : Addr) (kV doc pm : Value) (an : Option Addr) (cdv ct : Value) (us its : List Value), us.length = n → its.length = dvs.length →
      ∃ k, bindArgs (PySem.W.fnOf x qual params body scope (.ref T) kV doc pm an cdv ct) ⟨us, []⟩ = seqItems? (.ref T) >>= k ∧ k (Option.some its.toArray) = pure (ps.zip (us ++ its.drop j))) : Fn P w K mg base k x ps dd fs := by
  obtain ⟨ds, hv, hb⟩ := F.binds1 n j hd hn h
  exact ⟨f, fd, _, ds, hm, F.kp, G, hb, hv, hdd⟩
theorem FnG.stuck (hl : fs = fun _ _ => .stuck) : FnG P w K mg base k f fd ps (spD K mg ps.length fs) := by
  subst hl
  exact ⟨fun vs H Q E ⟨F, ι, ds, S, s, r, hl, q⟩ => q.elim, fun A outer s H args us vs Q E _ _ _ _ _ ⟨F, ι, ds, S, s', r, hl, q⟩ => q.elim⟩
end
end Fk
set_option maxHeartbeats 1000000
namespace Fk
open PySem PySem.Spec PyProof.Rows L2
def IteT (K : PySem.W.Frag) (a : Addr) : It :=
  ⟨fun i H => ∃ (xs : List V) (x : V), SqT K H a xs ∧ xs[i]? = some x, fun i H v H' => ∃ T x, v = .ref T ∧ H T = none ∧ H' = upd H T (.tup [.int (i : Nat), x]) ∧ ∀ xs, SqT K H a xs → xs[i]? = some x, fun i H => ∃ xs : List V, SqT K H a xs ∧ xs.length ≤ i⟩
theorem enum_new1 {v : Value} {o : Obj} {H : Heap → Prop} (B : Begins v o H) :
    Meets (Builtin.«enumerate.__new__» ⟨[.type "enumerate", v], []⟩) (fun _ R s => H s.heap ∧
      R (.ok (.ret (.ref (s.heap.push o).objs.size))) { s with heap := (s.heap.push o).push { cls := .type "enumerate", data := .fields #[.none, .bool false, .ref s.heap.objs.size, rawInt 0, .none, .none] } }) :=
  .of_wp fun prog w A R s h => by
    obtain ⟨hp, g, d, tk, os⟩ := s; obtain ⟨h1, h⟩ := h
    have hsub := sub_enumerate
    have q1 : ∀ {A' : Around} {E : Value → Shared → Prop} {Q : Value → Shared → Prop}, Q (.ref hp.objs.size) ⟨hp.push o, g, d, tk, os⟩ → wpAny (model prog w) A' (pyIter v) Q E ⟨hp, g, d, tk, os⟩ :=
      fun q => B.iter prog w _ _ ⟨hp, g, d, tk, os⟩ _ h1 q
    wp_walk using q1
    refine wpAny_stack_any fun st => wpAny_pure ?_
    split
    · rename_i c _ _ _ _ _
      cases (c == Value.type "enumerate")
      · wp_walk using q1
        exact ⟨_, rfl, h⟩
      · wp_walk using q1
        exact ⟨_, rfl, h⟩
    · wp_walk using q1
      exact ⟨_, rfl, h⟩
section
variable {prog : Program} {w : World} {A : Around} {E : Value → Shared → Prop} {s : Shared}
theorem call_enum1 {v : Value} {o : Obj} {H : Heap → Prop} {Q : Value → Shared → Prop} (B : Begins v o H) (h1 : H s.heap)
    (h : ∀ h', IsEnum h' (s.heap.objs.size + 1) s.heap.objs.size 0 .none → h'.get? s.heap.objs.size = some o → h'.objs.size = s.heap.objs.size + 2 →
      (∀ b o, s.heap.get? b = some o → h'.get? b = some o) → Q (.ref (s.heap.objs.size + 1)) { s with heap := h' }) :
    wpAny (model prog w) A (call (.type "enumerate") [v]) Q E s := by
  refine callType_new F.called_enumerate (by decide) (F.typeCall_enumerate_1 _) (F.newCall_enumerate_1 _) (fun obj => F.args_object_init_2 obj _) F.entry_enumerate_new (enum_new1 B) ⟨h1, ?_⟩
  have hz : (s.heap.push o).objs.size = s.heap.objs.size + 1 := Heap.size_push ..
  show _ ∧ _
  rw [hz]
  have he : IsEnum ((s.heap.push o).push { cls := .type "enumerate", data := .fields #[.none, .bool false, .ref s.heap.objs.size, rawInt 0, .none, .none] }) (s.heap.objs.size + 1) s.heap.objs.size 0 .none := by
    have := Heap.get?_push_size (s.heap.push o) (o := { cls := .type "enumerate", data := .fields #[.none, .bool false, .ref s.heap.objs.size, rawInt 0, .none, .none] }) rfl
    rw [hz] at this
    exact this
  exact ⟨⟨_, he, rfl⟩, h _ he (Heap.get?_push_of_some _ (Heap.get?_push_size _ B.free)) (by rw [Heap.size_push, hz]) fun b o x => Heap.get?_push_of_some _ (Heap.get?_push_of_some _ x)⟩
theorem enum_endT {e it t : Addr} {i : Nat} {c : Int} {items : Array Value} {old : Value} {Q : Option Value → Shared → Prop} (hh : A.handled = none) (he : IsEnum s.heap e it c old) (hit : s.heap.IsTupleIter it t i) (ht : s.heap.IsTuple t items) (hx : items[i]? = none)
    (hQ : ∀ h', Heap.ExtBut it s.heap h' → Q none { s with heap := h' }) : wpAny (model prog w) A (pyNext (.ref e)) Q E s := by
  have hT : s.TypeIs (.ref e) "enumerate" := ⟨_, he, rfl⟩
  unfold pyNext
  refine wpAny_bind (wpAny_attempt (wpAny_callSpecial?_slot (name := Str.ofString "__next__") hT F.slot_enumerate_next
    (wpAny_call_entry F.slot_enumerate_next hT F.entry_enumerate_next ?_ (F.args_enumerate_next_1 _))))
  show wpAny _ _ (field (.ref e) 2 >>= _) _ _ _
  refine wpAny_bind (wpAny_field he rfl (x := .ref it) rfl ?_)
  refine wpAny_bind (wpAny_nextOf_tuple_end hh hit ht hx fun h' x he' hx' => ?_)
  obtain ⟨o, ho, hc⟩ := hx'
  refine wpAny_bind (wpAny_isInstance (T := "StopIteration") (b := true) ⟨o, ho, hc⟩ isSubtype_stop ?_)
  exact wpAny_pure (hQ _ he')
end
theorem turn_enumT {P : Program} {w : World} {K : PySem.W.Frag} {elts : List Expr} {kk : Nat} {tpos : Pos} (a e it : Addr) :
    Turn P w K (.Tuple elts kk tpos) (IteT K a) [e, it] e (fun i h => (∃ old, IsEnum h e it ((i : Nat) : Int) old) ∧ h.IsTupleIter it a i ∧ e ≠ it) where
  mem := by simp
  obj := fun i h st b hb => by
    obtain ⟨⟨old, he⟩, ⟨o, ho, hc, hd⟩, _⟩ := st
    have e' : b = e ∨ b = it := by simpa using hb
    rcases e' with z | z
    · rw [z]; exact ⟨_, he, fun v q => nomatch q⟩
    · rw [z]; exact ⟨o, ho, fun v q => by rw [hd] at q; cases q⟩
  keep := fun i h h' st k => let ⟨⟨old, he⟩, ⟨o, ho, hr⟩, hne⟩ := st; ⟨⟨old, k e (by simp) _ he⟩, ⟨o, k it (by simp) o ho, hr⟩, hne⟩
  item := by
    intro X hP hw hK hc i pins s σ H E I hf st hg
    subst hP hw hK
    obtain ⟨⟨old, he⟩, hit, hne⟩ := st
    obtain ⟨xs, x, hq, hx⟩ := hg
    obtain ⟨its, rv, p, hz⟩ := I.tuple hq
    obtain ⟨u, hu, ru⟩ := rv.get hx
    have hel : e < s.heap.objs.size := Heap.lt_size he
    have hil : it < s.heap.objs.size := by obtain ⟨_, q, _⟩ := hit; exact Heap.lt_size q
    have hai : a ≠ it := fun z => by
      obtain ⟨o1, h1, c1, _⟩ := p
      obtain ⟨o2, h2, c2, _⟩ := hit
      rw [z, h2] at h1
      cases h1
      rw [c2] at c1
      injection c1 with c1
      exact absurd c1 (by decide)
    have hae : e ≠ a := fun z => by
      obtain ⟨o1, h1, c1, _⟩ := p
      rw [← z, show s.heap.get? e = some _ from he] at h1
      cases h1
      have c1 : Value.type "enumerate" = Value.type "tuple" := c1
      injection c1 with c1
      exact absurd c1 (by decide)
    have hlt : i < its.toArray.size := by simpa using (List.getElem?_eq_some_iff.mp hu).1
    refine wpAny_pyNext_enum_itemD (Draws.tuple (A := X.A.in1) (I.ok.hd hc) it a hai its.toArray) he ⟨hit, p⟩ hlt hne (by simp [hne, hae]) fun y h' tk hy ho hst hT hsz hk => ?_
    have hy' : y = u := by
      have h1 : its.toArray[i]? = some u := by simpa using hu
      rw [show its.toArray[i]? = some y from hy] at h1
      cases h1
      rfl
    subst hy'
    refine ⟨_, rfl, wpAny_letOwnedTupleGo_enum (s := { s with heap := h', toks := tk + 1 }) ho fun h'' he' sb => ?_⟩
    have hT2 : h''.get? s.heap.objs.size = some { cls := .type "tuple", data := .seq #[.int i tk, y] } := (sb.2 _ (Nat.ne_of_gt hel)).trans hT
    have new : ObjOk X.prog X.w (upd H s.heap.objs.size (.tup [.int (i : Nat), x])) h'' s.heap.objs.size (.tup [.int (i : Nat), x]) :=
      ⟨by show 2 ≤ sizeLine; decide, [.int i tk, y], .cons ⟨_, rfl⟩ (.cons ru .nil), ⟨_, hT2, rfl, _, rfl⟩⟩
    have I1 : Inv X pins σ (upd H s.heap.objs.size (.tup [.int (i : Nat), x])) { s with heap := h'', toks := tk + 1 } :=
      I.turnedNew (ch := [e, it]) (fun b ob hb q => (sb.2 b (fun z => hb (by simp [z]))).trans (hk b ob (fun z => hb (by simp [z])) (fun z => hb (by simp [z])) q)) hf (Nat.le_refl _) new
    obtain ⟨⟨o2, ho2, hr2⟩, _⟩ := hst
    refine ⟨.ref s.heap.objs.size, _, I1, rfl, ⟨_, x, rfl, I.hok.fresh (Nat.le_refl _), rfl, fun ys hy => by rw [I.tuple_inj hy hq]; exact hx⟩, ⟨⟨y, ?_⟩, ⟨o2, (sb.2 it (Ne.symm hne)).trans ho2, hr2⟩, hne⟩, fun b hb => ?_⟩
    · have e1 : ((i + 1 : Nat) : Int) = (i : Int) + 1 := by omega
      rw [e1]; exact he'
    · have hb' : b < s.heap.objs.size := by
        have e' : b = e ∨ b = it := by simpa using hb
        rcases e' with z | z
        · rw [z]; exact hel
        · rw [z]; exact hil
      rw [upd_ne (Nat.ne_of_lt hb')]
      exact (hf b hb).1
  done := by
    intro X hP hw hK hc i pins s σ H E I hf st hg
    subst hP hw hK
    obtain ⟨⟨old, he⟩, hit, hne⟩ := st
    obtain ⟨xs, hq, hx⟩ := hg
    obtain ⟨its, rv, p, hz⟩ := I.tuple hq
    obtain ⟨f0, f1, f2, f3, f4, f5⟩ := hf it (by simp)
    have hl := rv.length
    exact enum_endT (I.ok.hd hc) he hit p (by simp; omega) fun h' eb => ⟨rfl, I.turned (t' := s.toks) (fun b o hb q => eb b o hb q) f0 f1 f3 f4 f5⟩
  self := fun A i s Q E st h => let ⟨⟨_, he⟩, _⟩ := st; wpAny_pyIter_enum he h
def enumL (xs : List D) : List D := xs.mapIdx fun i x => .tup [.int (i : Nat), x]
def itEnum (fa : SemA) : SemA := fun ρ S => (fa ρ S).bind fun ds S1 => match ds with
  | [.lst xs] => .ok (enumL xs) S1
  | [.tup xs] => .ok (enumL xs) S1
  | _ => .stuck
theorem enumL_len (xs : List D) : (enumL xs).length = xs.length := by simp [enumL]
theorem enumL_at (xs : List D) (i : Nat) : (enumL xs)[i]? = xs[i]?.map fun x => .tup [.int (i : Nat), x] := by simp [enumL]
theorem walks_enumL {K : PySem.W.Frag} {F : Hp} {ι : List Addr} {a : Addr} {vs : List V} {xs : List D} (h1 : F a = some (.lst vs)) (r1 : RelAll K F ι vs xs) : Walks K F ι (Ite K a) (enumL xs) := by
  refine ⟨fun H i s hi => ?_, fun H i x H' s hi y => ?_, fun H i s hi => ⟨vs, SqL.of (s _ _ h1), ?_⟩⟩
  · rw [enumL_len] at hi
    have hv : i < vs.length := by rw [r1.length]; omega
    exact ⟨vs, vs[i], SqL.of (s _ _ h1), by simp [hv]⟩
  · obtain ⟨T, x1, rfl, hT, rfl, e1⟩ := y
    obtain ⟨d1, hd1, rd1⟩ := r1.getV (e1 vs (SqL.of (s _ _ h1)))
    refine ⟨.tup [.int (i : Nat), d1], by rw [enumL_at, hd1]; rfl, .inr ⟨T, _, [.int (i : Nat), d1], rfl, hT, rfl, rfl, .cons (.int _) (.cons rd1 .nil)⟩⟩
  · rw [enumL_len] at hi
    rw [r1.length]
    exact hi
theorem walks_enumT {K : PySem.W.Frag} {F : Hp} {ι : List Addr} {a : Addr} {vs : List V} {xs : List D} (h1 : Tp F a vs) (r1 : RelAll K F ι vs xs) : Walks K F ι (IteT K a) (enumL xs) := by
  refine ⟨fun H i s hi => ?_, fun H i x H' s hi y => ?_, fun H i s hi => ⟨vs, (h1.same s).sq, ?_⟩⟩
  · rw [enumL_len] at hi
    have hv : i < vs.length := by rw [r1.length]; omega
    exact ⟨vs, vs[i], (h1.same s).sq, by simp [hv]⟩
  · obtain ⟨T, x1, rfl, hT, rfl, e1⟩ := y
    obtain ⟨d1, hd1, rd1⟩ := r1.getV (e1 vs ((h1.same s).sq))
    refine ⟨.tup [.int (i : Nat), d1], by rw [enumL_at, hd1]; rfl, .inr ⟨T, _, [.int (i : Nat), d1], rfl, hT, rfl, rfl, .cons (.int _) (.cons rd1 .nil)⟩⟩
  · rw [enumL_len] at hi
    rw [r1.length]
    exact hi
section
variable {X : Cx} {W : WX}
theorem xi_enum {e : Expr} {fa : SemA} {p pos tpos : Pos} {elts : List Expr} {kk : Nat} (hg : Gl X "enumerate") (hm : X.mg "enumerate" = none) (ha : XA X W [e] fa) (hs : starEach [e] X.env = [(false, eval e X.env)] := by rfl) :
    XI X W (.Tuple elts kk tpos) (.Call (.Name "enumerate" p) [e] [] pos) (itEnum fa) := by
  refine ⟨fun pins s σ H R I h => ?_⟩
  obtain ⟨F, ι, ρ, S, sm, r, q⟩ := h
  have key : tA ⟨X.K, X.mg, W⟩ fa σ H fun vs H1 => ∃ a, vs = [.ref a] ∧ ((∃ xs, SqL X.K H1 a xs ∧ R (Ite X.K a) H1) ∨ ∃ xs, SqT X.K H1 a xs ∧ R (IteT X.K a) H1) := by
    refine ⟨F, ι, ρ, S, sm, r, post_bind (R := RA' X.K) q (fun ds S1 F1 ι1 vs H1 x1 s1 rv q1 => ?_) stI⟩
    have rv : RelAll X.K F1 ι1 vs ds := rv
    cases rv with
    | nil => exact q1.elim
    | cons r1 t1 =>
      cases t1 with
      | cons _ _ => cases r1 <;> exact q1.elim
      | nil =>
        cases r1 with
        | @lst a vs ds h1 h2 => exact ⟨a, rfl, .inl ⟨vs, SqL.of (s1.sub _ _ h1), q1 F1 ι1 _ H1 (Step.refl _ _ _) s1 (walks_enumL h1 h2)⟩⟩
        | @tp a vs ds h1 h2 => exact ⟨a, rfl, .inr ⟨vs, (h1.same s1.sub).sq, q1 F1 ι1 _ H1 (Step.refl _ _ _) s1 (walks_enumT h1 h2)⟩⟩
        | _ => exact q1.elim
  refine Call_ (ld_blt I hg hm boot_enumerate (PyProof.Rows.callWith_type1 (thn (ha.run pos pins s σ H _ I key) fun us s1 ⟨vs, H1, I1, r1, q1⟩ => ?_) hs rfl))
  obtain ⟨a, rfl, q1⟩ := q1
  cases r1 with
  | cons r rr =>
    cases rr
    cases r
    have fp : ∀ {h' : Heap}, ∀ b ∈ [s1.heap.objs.size + 1, s1.heap.objs.size], FpOk X pins H1 b := fun {h'} b hb => by
      have e' : b = s1.heap.objs.size + 1 ∨ b = s1.heap.objs.size := by simpa using hb
      have hle : s1.heap.objs.size ≤ b := by
        rcases e' with z | z
        · rw [z]; exact Nat.le_add_right _ _
        · rw [z]; exact Nat.le_refl _
      exact I1.fpOk hle (I1.hok.fresh hle)
    rcases q1 with ⟨xs, hq, q⟩ | ⟨xs, hq, q⟩
    · obtain ⟨its, rv, p', hz⟩ := I1.list hq
      refine call_enumerate_list p'.isList fun h' he hit hsz hk => wpAny_pyIter_enum he ?_
      have I2 : Inv X pins σ H1 { s1 with heap := h' } := I1.kept (t' := s1.toks) hk
      exact ⟨s1.heap.objs.size + 1, [s1.heap.objs.size + 1, s1.heap.objs.size], _, _, H1, rfl, I2, turn_enum a (s1.heap.objs.size + 1) s1.heap.objs.size, ⟨⟨.none, he⟩, hit, Nat.succ_ne_self _⟩, fp (h' := h'), q⟩
    · obtain ⟨its, rv, p', hz⟩ := I1.tuple hq
      refine call_enum1 (begins_tuple a its.toArray) p' fun h' he hit hsz hk => wpAny_pyIter_enum he ?_
      have I2 : Inv X pins σ H1 { s1 with heap := h' } := I1.kept (t' := s1.toks) hk
      exact ⟨s1.heap.objs.size + 1, [s1.heap.objs.size + 1, s1.heap.objs.size], _, _, H1, rfl, I2, turn_enumT a (s1.heap.objs.size + 1) s1.heap.objs.size, ⟨⟨.none, he⟩, ⟨_, hit, rfl, rfl⟩, Nat.succ_ne_self _⟩, fp (h' := h'), q⟩
end
def idxD (d e : D) (S : Store) : Option Nat := match dr S d with
  | .lst xs => (datAll xs).bind fun ys => (dat (dr S e)).bind fun a => if SeqAt.shaped a && SeqAt.shaped (.list ys) then ys.findIdx? fun z => PyData.eqv z a else none
  | _ => none
def opIndex : D → D → Store → Option D := fun d e S => (idxD d e S).map fun j => .int (j : Nat)
def eIdx (f g : SemE) : SemE := fun ρ S => (f ρ S).bind fun x S1 => if isL S1 x then (g ρ S1).bind fun y S2 => lift (opIndex x y S2) S2 else .stuck
section
end
end Fk
set_option maxHeartbeats 1000000
namespace Fk
open PySem PySem.Spec PyProof.Rows L2
theorem xo_ok {P : Program} {w : World} {H : Hp} {h : Heap} {a C : Addr} {d : Option Addr} {oe : Obj} {vs : Array Value} (he : h.get? a = some oe) (hc : oe.cls = .ref C) (hd : oe.dict = d) (hv : oe.data = .fields vs) : ObjOk P w H h a (xo a C d) :=
  ⟨⟨oe, he, hc, hd, vs, hv⟩, ⟨_, he⟩, fun h1 h2 z k => by
    obtain ⟨o, q, r⟩ := z
    exact ⟨o, k _ q, r⟩⟩
/-- the object of a caught exception is taken into our heap -/
theorem suiteH {X : Cx} {pins : List (Addr × Obj)} {σ : L2.St} {H : Hp} {s sI : Shared} {a C : Addr} {d : Option Addr} {oe : Obj} {vs : Array Value} (I : Inv X pins σ H s) (J : Inv X pins σ H sI) (hx : X.ex = []) (ha : s.heap.get? a = some oe) (hc : oe.cls = .ref C) (hdd : oe.dict = d) (hd : oe.data = .fields vs)
    (na : H a = none) (nL : a ≠ X.env.locals) (nF : a ∉ X.fs) (nI : sI.heap.get? a = none) : Inv (X.suite a (X.pn ++ pins)) [] σ (upd H a (xo a C d)) s := by
  have n0 : ∀ b o, X.s_0.heap.get? b = some o → b ≠ a := fun b o e z => by
    obtain ⟨o', e'⟩ := J.base.there b o e (by rw [hx]; simp)
    rw [z, nI] at e'
    cases e'
  refine ⟨I.ok.suite _ _, I.os, I.bare, ⟨I.base.keep, I.base.slot, fun b o e n h => ?_, I.base.there, fun b xs e => ?_, fun b o xs e => ?_, fun b ps e => ?_⟩, I.loc, I.cell, ?_, fun x c e => ?_, fun p hp => ?_, fun b o e => ?_, I.len⟩
  · rw [upd_ne (n0 b o e)]
    exact I.base.free b o e n h
  · have z := I.base.tups b xs e
    rw [upd_ne (ne_of_none z na)]
    exact z
  · have z := I.base.frzs b o xs e
    rw [upd_ne (ne_of_none z na)]
    exact z
  · obtain ⟨m, z⟩ := I.base.tbls b ps e
    exact ⟨m, by rw [upd_ne (ne_of_none z na)]; exact z⟩
  · rw [upd_ne (Ne.symm nL)]
    exact I.free
  · have hne : c ≠ a := fun z => by
      obtain ⟨v, hv⟩ := I.cell x c e
      rw [z] at hv
      obtain ⟨o, ho, hdo⟩ := hv
      rw [ha] at ho
      cases ho
      rw [hd] at hdo
      cases hdo
    rw [upd_ne hne]
    exact I.freeC x c e
  · have hp' : p ∈ X.pn ++ pins := by simpa using hp
    have h1 := I.pin p hp'
    have h2 := J.pin p hp'
    have hne : p.1 ≠ a := fun z => by
      have := h2.1
      rw [z, nI] at this
      cases this
    exact ⟨h1.1, by rw [upd_ne hne]; exact h1.2.1, h1.2.2.1, h1.2.2.2.1, h1.2.2.2.2⟩
  · by_cases hb : b = a
    · subst hb
      rw [upd_same] at e
      cases e
      exact xo_ok ha hc hdd hd
    · rw [upd_ne hb] at e
      exact (I.hok b o e).stay (fun c v hc q => q) (fun c q => by rw [upd_ne (ne_of_none q na)]; exact q) fun c xs q => by rw [upd_ne (ne_of_none q na)]; exact q
def unD (i : Nat) (D : Ends) : Ends := { nx := fun σ' H' => D.nx (σ'.set i none) H', rt := D.rt, bk := fun σ' H' => D.bk (σ'.set i none) H', ct := fun σ' H' => D.ct (σ'.set i none) H' }
def wN (K : PySem.W.Frag) (Wout : WX) (D : Ends) : List (Value × Option Nat × TS) → WX
  | [] => Wout
  | (c, none, ts) :: r => fun cls d σ H => ∃ b C, cls = .ref C ∧ PySem.W.exmOne K cls c = some b ∧ (b = true → ∀ a, H a = none → ts D σ (upd H a (xo a C d))) ∧ (b = false → wN K Wout D r cls d σ H)
  | (c, some i, ts) :: r => fun cls d σ H => ∃ b C, cls = .ref C ∧ PySem.W.exmOne K cls c = some b ∧ (b = true → ∀ a, H a = none → ts (unD i D) (σ.set i (some (.ref a))) (upd H a (xo a C d))) ∧ (b = false → wN K Wout D r cls d σ H)
inductive HdsN (X : Cx) : List ExceptHandler → List (Value × Option Nat × TS) → Prop
  | nil : HdsN X [] []
  | cons {x : Str} {c : Value} {ts : TS} {b₀ : Stmt} {suite : List Stmt} {np pos' : Pos} {hds : List ExceptHandler} {l : List (Value × Option Nat × TS)} (hc : Names X x c)
      (hsu : ∀ (a : Addr) (pn : List (Addr × Obj)), PSs (X.suite a pn) (b₀ :: suite) ts) (r : HdsN X hds l) :
      HdsN X (.ExceptHandler (some (.Name x np)) none (b₀ :: suite) pos' :: hds) ((c, none, ts) :: l)
  | consN {x n : Str} {i : Nat} {c : Value} {ts : TS} {b₀ : Stmt} {suite : List Stmt} {np pos' : Pos} {hds : List ExceptHandler} {l : List (Value × Option Nat × TS)} (hi : X.N[i]? = some n) (hln : X.env.kindOf n = some .local) (hc : Names X x c)
      (hsu : ∀ (a : Addr) (pn : List (Addr × Obj)), PSs (X.suite a pn) (b₀ :: suite) ts) (r : HdsN X hds l) :
      HdsN X (.ExceptHandler (some (.Name x np)) (some n) (b₀ :: suite) pos' :: hds) ((c, some i, ts) :: l)
section
variable {X : Cx} {body : List Stmt} {h₀ : ExceptHandler} {hds : List ExceptHandler} {l : List (Value × Option Nat × TS)} {pos : Pos} {tb : WX → TS} {Wout : WX}
theorem ps_tryN (hs : X.stack = X.env :: X.outer) (hf : X.env.frame = some X.env.locals) (hex : X.ex = []) (hN : X.N.Nodup) (tk : L2N.Takes X Wout)
    (hb : ∀ (W : WX) (pn : List (Addr × Obj)) (xe : Value → Shared → Prop), L2N.Takes (X.tr pn xe) W → PassesOwn (model X.prog X.w) X.A X.env xe → PSs (X.tr pn xe) body (tb W))
    (hh : HdsN X (h₀ :: hds) l) : PS X (.Try body (h₀ :: hds) [] [] pos) (fun D σ H => tb (wN X.K Wout D l) D σ H) := by
  refine ⟨fun pins s σ H D I h => ?_⟩
  have ok := I.ok
  have hfr : X.A.frames = some (X.env :: X.outer) := by rw [ok.frames, hs]
  refine wpAny_Try_except ?_
  refine wpAny_mono ((hb (wN X.K Wout D l) (X.pn ++ pins) (fun e s₁ => wpAny (model X.prog X.w) X.A (noteFrame e X.env) (fun _ s₂ => wpAny (model X.prog X.w) X.A (setFlight e none) (fun _ s₃ =>
    wpAny (model X.prog X.w) X.A (handleBy e X.env (h₀ :: hds)) (SP X pins D) X.xe s₃) X.xe s₂) X.xe s₁) (fun u s' xx => ?_) PassesOwn.looking).run [] s σ H D (I.toTry _) h) (fun f s1 hsp => ?_) (fun e s1 he => he)
  · -- the catch
    obtain ⟨a, B, sI, pins', σ', H', cls, d, rfl, J', nb, up, sky, na, os, ag, w⟩ := xx
    have J : Inv X pins σ' H' sI := J'.ofTry ok
    have sky' : Sky B (X.env :: X.outer) a (L2N.Zn cls d) X.env.locals s'.heap := by rw [← hs]; exact sky
    show wpAny (model X.prog X.w) X.A (noteFrame (.ref a) X.env) _ _ _
    refine L2N.Sky.land L2N.Zn.steady hfr hf sky' fun h3 fl3 up3 => ?_
    have J3 : Inv X pins σ' H' { s' with heap := h3 } := J.landed nb fl3.1 (up.trans up3) os ag
    obtain ⟨oe3, vs3, he3, hz3, hd3⟩ := fl3.there
    have notFr : ∀ {h : Heap} {o : Obj} {vs : Array Value}, h.FunFrames B (X.env :: X.outer) → h.get? a = some o → o.data = .fields vs → a ∉ frs (X.env :: X.outer) := fun {h o vs} ff e dd hm => by
      obtain ⟨_, o', e', hnf⟩ := ff.mem hm
      rw [e] at e'; cases e'
      exact hnf _ dd
    have nfr := notFr fl3.2.2.1 he3 hd3
    have nL : a ≠ X.env.locals := fun z => nfr (List.mem_filterMap.mpr ⟨X.env, List.mem_cons_self, by rw [hf, z]⟩)
    have nF : a ∉ X.fs := fun hm => by
      obtain ⟨e, he, q⟩ := List.mem_filterMap.mp hm
      exact nfr (List.mem_filterMap.mpr ⟨e, List.mem_cons_of_mem _ he, q⟩)
    have nI : sI.heap.get? a = none := by
      cases e : sI.heap.get? a with
      | none => rfl
      | some o =>
        have z := nb a o e (by rw [hs]; exact nfr)
        rw [fl3.2.1] at z
        cases z
    have S3 := J3.suite he3 hd3 na nL nF
    have go : ∀ {hds' : List ExceptHandler} {l' : List (Value × Option Nat × TS)}, HdsN X hds' l' → wN X.K Wout D l' cls d σ' H' →
        wpAny (model X.prog X.w) X.A (handleBy (.ref a) X.env hds') (SP X pins D) X.xe { s' with heap := h3 } := by
      intro hds' l' hk
      induction hk with
      | nil =>
        intro w
        refine wpAny_handleBy_nil ?_
        obtain ⟨k1, k2, k3, oe, vs, T, oT, ts', he, hz, hd, h1, hr⟩ := id fl3
        unfold PySem.passOn
        refine wpAny_bind (wpAny_field he hd h1 ?_)
        rw [if_neg (show ¬ ((Value.ref T == Value.none) = true) from by simp)]
        have fin : wpAny (model X.prog X.w) X.A (setFlight (.ref a) X.env.frame) (fun _ s4 => wpAny (model X.prog X.w) X.A (throw (.ref a) : Sem Flow) (SP X pins D) X.xe s4) X.xe { s' with heap := h3 } := by
          rw [hf]
          refine HandSPX.setFlight_upZ fl3 fun h4 hh4 up4 => wpAny_throw (tk _ _ ?_)
          exact ⟨a, B, sI, pins, σ', H', cls, d, rfl, J, nb, (up.trans up3).trans up4, .inr (.inr (by rw [hs]; exact hh4)), na, os, ag, w⟩
        first
          | exact wpAny_bind (wpAny_pure (wpAny_bind fin))
          | exact wpAny_bind fin
      | @cons x c ts b₀ suite np pos' hds2 l2 hc hsu r ih =>
        intro w
        obtain ⟨b, C, hC, hb1, hyes, hno⟩ := w
        refine wpAny_handleBy_cons (codeAny_handlers_test ?_) (by intro q; cases q)
        have LT : PySem.W.Looks (model X.prog X.w) h3 (typeOf (.ref a)) cls := fun A Q E s k q => wpAny_typeOf_ref (k _ _ he3) (by rw [hz3.1]; exact q)
        have LM := PySem.W.exm_one (M := model X.prog X.w) (J3.kIn) LT hb1
        have test : ∀ {Q : Value → Shared → Prop} {E : Value → Shared → Prop}, Q c { s' with heap := h3 } → wpAny (model X.prog X.w) (X.A.mark (some (.ref a))) (eval (.Name x np) X.env) Q E { s' with heap := h3 } := fun {Q E} q => by
          obtain ⟨hg, hdbg, hm | ⟨hm, hv, hnn⟩⟩ := hc
          · exact ld_glob (X := X.suite a ((a, oe3) :: (X.pn ++ pins))) S3 hg hm q hdbg
          · exact ld_blt (X := X.suite a ((a, oe3) :: (X.pn ++ pins))) S3 hg hm hv q hnn hdbg
        refine test (LM.here ?_)
        cases b with
        | true =>
          refine codeAny_handlers_suite ?_
          refine HandSPX.lands_againZ fl3 fun h4 fl4 up4 => ?_
          have J4 : Inv X pins σ' H' { s' with heap := h4 } := J.landed nb fl4.1 ((up.trans up3).trans up4) os ag
          obtain ⟨oe4, vs4, he4, hz4, hd4⟩ := fl4.there
          have S4 := suiteH J4 J hex he4 (hz4.1.trans hC) hz4.2.1 hd4 na nL nF nI
          refine wpAny_mono ((hsu a (X.pn ++ pins)).run [] _ _ _ _ S4 (hyes rfl a na)) (fun f s6 hsp => ?_) (fun _ _ z => False.elim z)
          have un : ∀ {σ6 : L2.St} {H6 : Hp}, Inv (X.suite a (X.pn ++ pins)) [] σ6 H6 s6 → Inv X pins σ6 H6 s6 := fun {σ6 H6} S6 =>
            ⟨ok, S6.os, S6.bare, S6.base, S6.loc, S6.cell, S6.free, S6.freeC, fun p hp => S6.pin p (List.mem_append_left _ hp), S6.hok, S6.len⟩
          cases f with
          | next =>
            obtain ⟨σ6, H6, S6, q6⟩ := hsp
            exact ⟨_, _, un S6, q6⟩
          | brk =>
            obtain ⟨σ6, H6, S6, q6⟩ := hsp
            exact ⟨_, _, un S6, q6⟩
          | cont =>
            obtain ⟨σ6, H6, S6, q6⟩ := hsp
            exact ⟨_, _, un S6, q6⟩
          | ret u =>
            obtain ⟨v6, σ6, H6, S6, r6, q6⟩ := hsp
            exact ⟨_, _, _, un S6, r6, q6⟩
        | false =>
          show wpAny _ X.A (handleBy (.ref a) X.env hds2) _ _ _
          exact ih (hno rfl)
      | @consN x n i c ts b₀ suite np pos' hds2 l2 hi hln hc hsu r ih =>
        intro w
        obtain ⟨b, C, hC, hb1, hyes, hno⟩ := w
        refine wpAny_handleBy_cons (codeAny_handlers_test ?_) (by intro q; cases q)
        have LT : PySem.W.Looks (model X.prog X.w) h3 (typeOf (.ref a)) cls := fun A Q E s k q => wpAny_typeOf_ref (k _ _ he3) (by rw [hz3.1]; exact q)
        have LM := PySem.W.exm_one (M := model X.prog X.w) (J3.kIn) LT hb1
        have test : ∀ {Q : Value → Shared → Prop} {E : Value → Shared → Prop}, Q c { s' with heap := h3 } → wpAny (model X.prog X.w) (X.A.mark (some (.ref a))) (eval (.Name x np) X.env) Q E { s' with heap := h3 } := fun {Q E} q => by
          obtain ⟨hg, hdbg, hm | ⟨hm, hv, hnn⟩⟩ := hc
          · exact ld_glob (X := X.suite a ((a, oe3) :: (X.pn ++ pins))) S3 hg hm q hdbg
          · exact ld_blt (X := X.suite a ((a, oe3) :: (X.pn ++ pins))) S3 hg hm hv q hnn hdbg
        refine test (LM.here ?_)
        cases b with
        | true =>
          refine codeAny_handlers_suite_as ?_
          refine HandSPX.lands_againZ fl3 fun h4 fl4 up4 => ?_
          have J4 : Inv X pins σ' H' { s' with heap := h4 } := J.landed nb fl4.1 ((up.trans up3).trans up4) os ag
          obtain ⟨oe4, vs4, he4, hz4, hd4⟩ := fl4.there
          have S4 := suiteH J4 J hex he4 (hz4.1.trans hC) hz4.2.1 hd4 na nL nF nI
          refine store_ok (X := X.suite a (X.pn ++ pins)) (v := .ref a) S4 hN hi (.inl hln) rfl (fun s5 S5 => ?_) (.inr hln)
          refine wpAny_mono ((hsu a (X.pn ++ pins)).run [] s5 _ _ _ S5 (hyes rfl a na)) (fun f s6 hsp => ?_) (fun _ _ z => False.elim z)
          have un : ∀ {σ6 : L2.St} {H6 : Hp}, Inv (X.suite a (X.pn ++ pins)) [] σ6 H6 s6 → Inv X pins σ6 H6 s6 := fun {σ6 H6} S6 =>
            ⟨ok, S6.os, S6.bare, S6.base, S6.loc, S6.cell, S6.free, S6.freeC, fun p hp => S6.pin p (List.mem_append_left _ hp), S6.hok, S6.len⟩
          have end_ : ∀ {σ6 : L2.St} {H6 : Hp} {Q : Shared → Prop}, Inv (X.suite a (X.pn ++ pins)) [] σ6 H6 s6 → (∀ s7, Inv X pins (σ6.set i none) H6 s7 → Q s7) →
              wpAny (model X.prog X.w) X.A (do bindName X.env n .none; unbindBehindTheSuite X.env n pos') (fun _ s7 => Q s7) X.xe s6 := fun {σ6 H6 Q} S6 hq => gone_ok (un S6) hN hi hln hq
          cases f with
          | next =>
            obtain ⟨σ6, H6, S6, q6⟩ := hsp
            exact end_ S6 fun s7 J7 => ⟨_, _, J7, q6⟩
          | brk =>
            obtain ⟨σ6, H6, S6, q6⟩ := hsp
            exact end_ S6 fun s7 J7 => ⟨_, _, J7, q6⟩
          | cont =>
            obtain ⟨σ6, H6, S6, q6⟩ := hsp
            exact end_ S6 fun s7 J7 => ⟨_, _, J7, q6⟩
          | ret u =>
            obtain ⟨v6, σ6, H6, S6, r6, q6⟩ := hsp
            exact end_ S6 fun s7 J7 => ⟨_, _, _, J7, r6, q6⟩
        | false =>
          show wpAny _ X.A (handleBy (.ref a) X.env hds2) _ _ _
          exact ih (hno rfl)
    exact go hh w
  · cases f with
    | next =>
      obtain ⟨σ', H', J', q⟩ := hsp
      exact wpAny_execs_nil ⟨σ', H', J'.ofTry ok, q⟩
    | brk =>
      obtain ⟨σ', H', J', q⟩ := hsp
      exact ⟨σ', H', J'.ofTry ok, q⟩
    | cont =>
      obtain ⟨σ', H', J', q⟩ := hsp
      exact ⟨σ', H', J'.ofTry ok, q⟩
    | ret u =>
      obtain ⟨v, σ', H', J', r, q⟩ := hsp
      exact ⟨v, σ', H', J'.ofTry ok, r, q⟩
end
end Fk
set_option maxHeartbeats 1000000
namespace Fk
open PySem PySem.Spec PyProof.Rows L2
abbrev XTbl := List (Str × List Str)
def XTbl.at (tbl : XTbl) (c : Str) : Option (List Str) := (tbl.find? fun q => decide (q.1 = c)).map (·.2)
def unE (i : Option Nat) (ρ : Env) : Env := match i with
  | some i => ρ.set i none
  | none => ρ
def inE (i : Option Nat) (d : D) (ρ : Env) : Env := match i with
  | some i => ρ.set i (some d)
  | none => ρ
def hEnd (i : Option Nat) : OutS → OutS
  | .nx ρ S => .nx (unE i ρ) S
  | .rt d S => .rt d S
  | .bk ρ S => .bk (unE i ρ) S
  | .ct ρ S => .ct (unE i ρ) S
  | .exc _ _ _ _ => .stuck
  | .stuck => .stuck
def caught (c : Str) (fs : List (Str × D)) : D := .exn c (fs.map (·.1)) (fs.map (·.2))
def goH (c : Str) (fs : List (Str × D)) (anc : List Str) : List (Str × Option Nat × SemS) → SemS
  | [], ρ, S => .exc c fs ρ S
  | (h, i, g) :: r, ρ, S => if anc.contains h then hEnd i (g (inE i (caught c fs) ρ) S) else goH c fs anc r ρ S
def sTry (tbl : XTbl) (b : SemS) (hds : List (Str × Option Nat × SemS)) : SemS := fun ρ S => match b ρ S with
  | .exc c fs ρ1 S1 => (match tbl.at c with
    | some anc => goH c fs anc hds ρ1 S1
    | none => .stuck)
  | o => o
theorem XTbl.at_mem {tbl : XTbl} {c : Str} {anc : List Str} (h : tbl.at c = some anc) : (c, anc) ∈ tbl := by
  unfold XTbl.at at h
  obtain ⟨q, h1, h2⟩ := Option.map_eq_some_iff.mp h
  have e := List.find?_some h1
  have e : q.1 = c := by simpa using e
  have m := List.mem_of_find?_eq_some h1
  rw [← e, ← h2]
  exact m
theorem REnv.unset {K : PySem.W.Frag} {F : Hp} {ι : List Addr} {σ : L2.St} {ρ : Env} (h : REnv K F ι σ ρ) (i : Nat) : REnv K F ι (σ.set i none) (ρ.set i none) := by
  refine ⟨by simp [h.len], fun j e he => ?_⟩
  by_cases hj : j = i
  · subst hj
    have hl : j < ρ.length := by simpa using (List.getElem?_eq_some_iff.mp he).1
    rw [List.getElem?_set_self hl] at he
    cases he
  · rw [List.getElem?_set_ne (Ne.symm hj)] at he
    rw [List.getElem?_set_ne (Ne.symm hj)]
    exact h.at' j e he
/-- a thing that stands outside is frozen -/
theorem Sim.take {K : PySem.W.Frag} {mg : Str → Option Value} {F H F0 H0 : Hp} {ι ι0 : List Addr} {S : Store} (s : Sim K mg F ι S H) (st : Step F0 ι0 H0 F ι H) {p : Addr} {o : HO} (h0 : H0 p = none) (hF : F p = none) (hi : p ∉ ι) (hH : H p = some o) (ho : ∀ ps, o ≠ .tbl ps := by intro _ z; cases z) :
    Step F0 ι0 H0 (upd F p o) ι H ∧ Sim K mg (upd F p o) ι S H := by
  have x : Ext F ι (upd F p o) ι := ⟨same_upd hF, List.prefix_rfl⟩
  refine ⟨⟨st.toExt.trans x, fun b o' e1 e2 e3 e4 => ?_, st.dom⟩, fun b u e => ?_, s.len, s.nd, fun n a c ha hc => ?_, s.cl, s.tab, nt_upd s.nt ho, s.tt⟩
  · obtain ⟨k1, k2, k3⟩ := st.keep b o' e1 e2 e3 e4
    have ne : b ≠ p := ne_of_none e1 h0
    exact ⟨k1, by rw [upd_ne ne]; exact k2, k3⟩
  · by_cases hb : b = p
    · subst hb
      rw [upd_same] at e
      rw [hH]
      exact e
    · rw [upd_ne hb] at e
      exact s.sub b u e
  · have ne : a ≠ p := fun e => hi (e ▸ List.mem_of_getElem? ha)
    exact (s.cell n a c ha hc).mono x (fun e => by rw [upd_ne ne]; exact e) fun o' e => e
/-- what is caught becomes a value -/
theorem catch_step {K : PySem.W.Frag} {mg : Str → Option Value} {F0 H0 F H : Hp} {ι0 ι : List Addr} {S : Store} {σ : L2.St} {ρ : Env} {a C : Addr} {d : Option Addr} {c : Str} {fs : List (Str × D)} (st : Step F0 ι0 H0 F ι H) (s : Sim K mg F ι S H) (r : REnv K F ι σ ρ) (xd : XD K H0 F ι H d fs) (na : H a = none)
    (hC : PySem.W.nsIn K mainGlobals c = some (some (.ref C))) : ∃ F2, Step F0 ι0 H0 F2 ι (upd H a (xo a C d)) ∧ Sim K mg F2 ι S (upd H a (xo a C d)) ∧ REnv K F2 ι σ ρ ∧ Rel K F2 ι (.ref a) (caught c fs) := by
  rcases xd with ⟨rfl, rfl⟩ | ⟨h1, dx, fv, rfl, h0, hF, hi, hH, rk⟩
  · obtain ⟨x1, s1⟩ := s.frozen (o := xo a C none) na
    exact ⟨_, st.trans x1, s1, r.mono x1, .exn0 upd_same hC⟩
  · obtain ⟨x1, s1⟩ := s.take st h0 hF hi hH
    obtain ⟨x2, s2⟩ := s1.frozen (o := xo a C (some dx)) na
    have ext1 : Ext F ι (upd F dx (.xd fv)) ι := ⟨same_upd hF, List.prefix_rfl⟩
    have ext2 : Ext F ι (upd (upd F dx (.xd fv)) a (xo a C (some dx))) ι := ext1.trans x2.toExt
    have ne : dx ≠ a := ne_of_none hH na
    refine ⟨_, x1.trans x2, s2, ⟨r.len, fun i e he => ?_⟩, .exn (fv := fv) upd_same hC (by rw [upd_ne ne]; exact upd_same) rk.ks (RelAll.mono0 ext2 rk.vs)⟩
    obtain ⟨v, h3, h4⟩ := r.at' i e he
    exact ⟨v, h3, Rel.mono0 ext2 h4⟩
inductive HdsD (X : Cx) (tbl : XTbl) : List ExceptHandler → List (Str × Option Nat × SemS) → List (Value × Option Nat × TS) → Prop
  | nil : HdsD X tbl [] [] []
  | cons {x : Str} {C : Addr} {g : SemS} {b₀ : Stmt} {suite : List Stmt} {np pos' : Pos} {hds : List ExceptHandler} {l : List (Str × Option Nat × SemS)} {l' : List (Value × Option Nat × TS)} (hm : X.mg x = some (.ref C)) (hg : Gl X x) (hd : (x == ("__debug__" : Str)) = false)
      (ht : ∀ q ∈ tbl, ∀ Cq, X.mg q.1 = some (.ref Cq) → PySem.W.exmOne X.K (.ref Cq) (.ref C) = some (q.2.contains x))
      (hsu : ∀ (a : Addr) (pn : List (Addr × Obj)), XSs (X.suite a pn) WF (b₀ :: suite) g) (r : HdsD X tbl hds l l') :
      HdsD X tbl (.ExceptHandler (some (.Name x np)) none (b₀ :: suite) pos' :: hds) ((x, none, g) :: l) ((.ref C, none, tS ⟨X.K, X.mg, WF⟩ g) :: l')
  | consN {x n : Str} {i : Nat} {C : Addr} {g : SemS} {b₀ : Stmt} {suite : List Stmt} {np pos' : Pos} {hds : List ExceptHandler} {l : List (Str × Option Nat × SemS)} {l' : List (Value × Option Nat × TS)} (hi : X.N[i]? = some n) (hln : X.env.kindOf n = some .local) (hm : X.mg x = some (.ref C)) (hg : Gl X x) (hd : (x == ("__debug__" : Str)) = false)
      (ht : ∀ q ∈ tbl, ∀ Cq, X.mg q.1 = some (.ref Cq) → PySem.W.exmOne X.K (.ref Cq) (.ref C) = some (q.2.contains x))
      (hsu : ∀ (a : Addr) (pn : List (Addr × Obj)), XSs (X.suite a pn) WF (b₀ :: suite) g) (r : HdsD X tbl hds l l') :
      HdsD X tbl (.ExceptHandler (some (.Name x np)) (some n) (b₀ :: suite) pos' :: hds) ((x, some i, g) :: l) ((.ref C, some i, tS ⟨X.K, X.mg, WF⟩ g) :: l')
theorem HdsD.toN {X : Cx} {tbl : XTbl} {hds : List ExceptHandler} {l : List (Str × Option Nat × SemS)} {l' : List (Value × Option Nat × TS)} (h : HdsD X tbl hds l l') : HdsN X hds l' := by
  induction h with
  | nil => exact .nil
  | cons hm hg hd ht hsu r ih => exact .cons ⟨hg, hd, .inl hm⟩ hsu ih
  | consN hi hln hm hg hd ht hsu r ih => exact .consN hi hln ⟨hg, hd, .inl hm⟩ hsu ih
section
variable {X : Cx} {W : WX} {tbl : XTbl} {F0 H0 F H : Hp} {ι0 ι : List Addr} {S : Store} {σ : L2.St} {ρ : Env} {Dn : Ends} {C : Addr} {d : Option Addr} {c : Str} {fs : List (Str × D)} {anc : List Str}
theorem hds_wish {hds : List ExceptHandler} {l : List (Str × Option Nat × SemS)} {l' : List (Value × Option Nat × TS)} (h : HdsD X tbl hds l l') (ha : (c, anc) ∈ tbl) (hm : X.mg c = some (.ref C)) (hC : PySem.W.nsIn X.K mainGlobals c = some (some (.ref C)))
    (st : Step F0 ι0 H0 F ι H) (s : Sim X.K X.mg F ι S H) (r : REnv X.K F ι σ ρ) (xd : XD X.K H0 F ι H d fs) (q : PostS ⟨X.K, X.mg, W⟩ F0 ι0 H0 (goH c fs anc l ρ S) Dn) : wN X.K W Dn l' (.ref C) d σ H := by
  induction h with
  | nil => exact q F ι C d σ H st s r hm xd
  | @cons x Ch g b₀ suite np pos' hds l l' hmh hg hd ht hsu rr ih =>
    refine ⟨anc.contains x, C, rfl, ht (c, anc) ha C hm, fun hb a na => ?_, fun hb => ih ?_⟩
    · obtain ⟨F2, st2, s2, r2, rl⟩ := catch_step st s r xd na hC
      refine ⟨F2, ι, ρ, S, s2, r2, ?_⟩
      unfold goH at q
      rw [if_pos hb] at q
      cases e : g ρ S with
      | nx ρ3 S3 => simp only [inE, e, hEnd] at q; exact fun F3 ι3 σ3 H3 x3 => q F3 ι3 σ3 H3 (st2.trans x3)
      | rt d3 S3 => simp only [inE, e, hEnd] at q; exact fun F3 ι3 σ3 H3 x3 => q F3 ι3 σ3 H3 (st2.trans x3)
      | bk ρ3 S3 => simp only [inE, e, hEnd] at q; exact fun F3 ι3 σ3 H3 x3 => q F3 ι3 σ3 H3 (st2.trans x3)
      | ct ρ3 S3 => simp only [inE, e, hEnd] at q; exact fun F3 ι3 σ3 H3 x3 => q F3 ι3 σ3 H3 (st2.trans x3)
      | exc c3 fs3 ρ3 S3 => simp only [inE, e, hEnd] at q; exact q.elim
      | stuck => simp only [inE, e, hEnd] at q; exact q.elim
    · unfold goH at q
      rw [if_neg (by rw [hb]; simp)] at q
      exact q
  | @consN x n i Ch g b₀ suite np pos' hds l l' hi hln hmh hg hd ht hsu rr ih =>
    refine ⟨anc.contains x, C, rfl, ht (c, anc) ha C hm, fun hb a na => ?_, fun hb => ih ?_⟩
    · obtain ⟨F2, st2, s2, r2, rl⟩ := catch_step st s r xd na hC
      refine ⟨F2, ι, ρ.set i (some (caught c fs)), S, s2, r2.set i rl, ?_⟩
      unfold goH at q
      rw [if_pos hb] at q
      cases e : g (ρ.set i (some (caught c fs))) S with
      | nx ρ3 S3 => simp only [inE, e, hEnd] at q; exact fun F3 ι3 σ3 H3 x3 s3 r3 => q F3 ι3 _ H3 (st2.trans x3) s3 (r3.unset i)
      | rt d3 S3 => simp only [inE, e, hEnd] at q; exact fun F3 ι3 σ3 H3 x3 => q F3 ι3 σ3 H3 (st2.trans x3)
      | bk ρ3 S3 => simp only [inE, e, hEnd] at q; exact fun F3 ι3 σ3 H3 x3 s3 r3 => q F3 ι3 _ H3 (st2.trans x3) s3 (r3.unset i)
      | ct ρ3 S3 => simp only [inE, e, hEnd] at q; exact fun F3 ι3 σ3 H3 x3 s3 r3 => q F3 ι3 _ H3 (st2.trans x3) s3 (r3.unset i)
      | exc c3 fs3 ρ3 S3 => simp only [inE, e, hEnd] at q; exact q.elim
      | stuck => simp only [inE, e, hEnd] at q; exact q.elim
    · unfold goH at q
      rw [if_neg (by rw [hb]; simp)] at q
      exact q
def HdsE (X : Cx) (tbl : XTbl) (hds : List ExceptHandler) (l : List (Str × Option Nat × SemS)) : Prop := ∃ l', HdsD X tbl hds l l'
structure HTbl (K : PySem.W.Frag) (mg : Str → Option Value) (tbl : XTbl) (x : Str) : Prop where
  ex : ∃ C, mg x = some (.ref C) ∧ ∀ q ∈ tbl, ∀ Cq, mg q.1 = some (.ref Cq) → PySem.W.exmOne K (.ref Cq) (.ref C) = some (q.2.contains x)
theorem hd_nil : HdsE X tbl [] [] := ⟨_, .nil⟩
theorem hd_cons {x : Str} {g : SemS} {b₀ : Stmt} {suite : List Stmt} {np pos' : Pos} {hds : List ExceptHandler} {l : List (Str × Option Nat × SemS)} (T : HTbl X.K X.mg tbl x) (hg : Gl X x) (hd : (x == ("__debug__" : Str)) = false)
    (hsu : ∀ (a : Addr) (pn : List (Addr × Obj)), XSs (X.suite a pn) WF (b₀ :: suite) g) (r : HdsE X tbl hds l) : HdsE X tbl (.ExceptHandler (some (.Name x np)) none (b₀ :: suite) pos' :: hds) ((x, none, g) :: l) := by
  obtain ⟨C, hm, ht⟩ := T.ex
  obtain ⟨l', r⟩ := r
  exact ⟨_, .cons hm hg hd ht hsu r⟩
structure TblOk (K : PySem.W.Frag) (mg : Str → Option Value) (tbl : XTbl) : Prop where
  ok : ∀ q ∈ tbl, ∀ C, mg q.1 = some (.ref C) → PySem.W.nsIn K mainGlobals q.1 = some (some (.ref C))
theorem xs_try {body : List Stmt} {h₀ : ExceptHandler} {hds : List ExceptHandler} {l : List (Str × Option Nat × SemS)} {pos : Pos} {k : Nat} {gb : SemS} (cx : CxE X W k) (hs : X.stack = X.env :: X.outer) (hf : X.env.frame = some X.env.locals) (hex : X.ex = []) (T : TblOk X.K X.mg tbl)
    (hb : ∀ (W' : WX) (pn : List (Addr × Obj)) (xe : Value → Shared → Prop), CxE (X.tr pn xe) W' k → PassesOwn (model X.prog X.w) X.A X.env xe → XSs (X.tr pn xe) W' body gb)
    (hh : HdsE X tbl (h₀ :: hds) l) : XS X W (.Try body (h₀ :: hds) [] [] pos) (sTry tbl gb l) := by
  obtain ⟨l', hh⟩ := hh
  refine psI (ps_tryN (tb := fun W' => tS ⟨X.K, X.mg, W'⟩ gb) hs hf hex cx.nd cx.tk (fun W' pn xe tk own => hb W' pn xe ⟨cx.nd, cx.calm, cx.g, cx.room, tk, cx.sm⟩ own) hh.toN) fun Dn σ H hq => ?_
  obtain ⟨F, ι, ρ, S, s, r, q⟩ := hq
  refine ⟨F, ι, ρ, S, s, r, ?_⟩
  unfold sTry at q
  cases e : gb ρ S with
  | nx ρ3 S3 => rw [e] at q; exact q
  | rt d3 S3 => rw [e] at q; exact q
  | bk ρ3 S3 => rw [e] at q; exact q
  | ct ρ3 S3 => rw [e] at q; exact q
  | stuck => rw [e] at q; exact q
  | exc c fs ρ1 S1 =>
    rw [e] at q
    simp only at q
    intro F1 ι1 C d σ1 H1 x1 s1 r1 hm xd
    cases ht : tbl.at c with
    | none => rw [ht] at q; exact q.elim
    | some anc =>
      rw [ht] at q
      have hmem := XTbl.at_mem ht
      have hm : X.mg c = some (.ref C) := hm
      have h1 := T.ok _ hmem C hm
      exact hds_wish hh hmem hm h1 x1 s1 r1 xd q
end
section
end
def sRaise (c : Str) (fl : List Str) (fa : SemA) : SemS := fun ρ S => toS (fa ρ S) ρ fun ds S1 => if ds.length = fl.length then .exc c (fl.zip ds) ρ S1 else .stuck
section
end
section
variable {X : Cx} {W : WX} {k : Nat} {x f : Str} {p pos pos' : Pos} {e : Expr} {fe : SemE}
/-- an own exception class without fields -/
structure Exc0 (K : PySem.W.Frag) (mg : Str → Option Value) (x : Str) : Prop where
  ex : ∃ C : Addr, mg x = some (.ref C) ∧ PySem.W.excIn K C He.veBase "ValueError.__new__" = true ∧ PySem.W.keepIn K (.ref C) = true ∧ PySem.W.subIn K (.ref C) (.type "BaseException") = some true ∧ PySem.W.typeIn K (.ref C) = some (.type "type")
theorem xs_raise0 (c : CxE X W k) (E0 : Exc0 X.K X.mg x) (hg : Gl X x) (hdb : (x == ("__debug__" : Str)) = false := by decide) :
    XS X W (.Raise (some (.Call (.Name x p) [] [] pos)) none pos') (sRaise x [] aNil) := by
  obtain ⟨C, hm, hE, hk, h1, h2⟩ := E0.ex
  have mk : L2N.PMk X (.Call (.Name x p) [] [] pos) (fun _ H Q => Q (.ref C) none H) := by
    intro pins s σ H Q I h
    refine wpAny_Call_Name_kw (ld_glob I hg hm ?_ hdb)
    refine PySem.W.callWith_K0 I.kIn hk ?_
    show wpAny _ _ (call (.ref C) []) _ _ _
    obtain ⟨bm, N, nm, qn, bs, hdct, sn, sub, ab, col, dd, k0, k1, k2, k3, k5, mN, hC, hN, hni, T⟩ := exc_obj I.kIn hE
    refine wpAny_call_exc_subT F.excBase_ValueError T hC hN hni (fun h' e hm => ?_) (Nat.zero_le _)
    exact L2N.mk_of I hm (raises_own h1 h2) h (I.hok.gone hm.new)
  refine psI (L2N.ps_raise c.calm c.tk mk) fun Dn σ H hh => ?_
  obtain ⟨F, ι, ρ, S, s, r, q⟩ := hh
  have q : PostS ⟨X.K, X.mg, W⟩ F ι H (.exc x [] ρ S) Dn := q
  exact q F ι C none σ H (Step.refl _ _ _) s r hm (.inl ⟨rfl, rfl⟩)
end
def lookF (ns : List Str) (ds : List D) (f : Str) : Option D := ((ns.zip ds).find? fun q => decide (q.1 = f)).map (·.2)
def opXf (cs : List Str) (f : Str) : D → Store → Option D := fun d _ => match d with
  | .exn c ns ds => if cs.contains c then lookF ns ds f else none
  | _ => none
section
end
end Fk
set_option maxHeartbeats 1000000
namespace Fk
open PySem PySem.Spec PyProof.Rows L2
def oexCls (K : PySem.W.Frag) (C : Addr) : Bool := match K.lookup C with
  | some ⟨.type "type", _, .cls cd, sl⟩ => (match cd.mro, sl.toList with
    | .ref C' :: bm, [_, _, _, _, some (.builtin n), _] => C' == C && n == "ValueError.__new__" && !cd.hasDel && (cd.hasDict && PySem.HandSPX.refsVE bm)
    | _, _ => false)
  | _ => false
def eqV (a b : Option Value) : Bool := decide (a = b)
inductive Xc where
  | oex (c f : Str)
  | xf (c f : Str)
  | isx (c : Str)
  | kit (c t : Str) (b : Bool)
  | exm (c t : Str) (b : Bool)
  | lam (x : Str)
def Xc.ok (K : PySem.W.Frag) : Xc → Bool
  | .oex c f => oexCls K (He.ga K c) && (He.eqO (PySem.W.findIn K (.ref (He.ga K c)) "__setattr__") (some (some (.builtin "object.__setattr__"))) && (decide (PySem.W.subIn K (.ref (He.ga K c)) (.type "BaseException") = some true) && (eqV (PySem.W.typeIn K (.ref (He.ga K c))) (some (.type "type")) &&
      (PySem.W.keepIn K (.ref (He.ga K c)) && (He.eqO (PySem.W.findIn K (.ref (He.ga K c)) f) (some none) && (He.eqO (PySem.W.findIn K (.ref (He.ga K c)) "__init__") (some (some (.ref (He.ma K (He.ga K c) "__init__")))) && eqV (PySem.W.typeIn K (.ref (He.ma K (He.ga K c) "__init__"))) (some (.type "function"))))))))
  | .xf c f => xfB K (He.ga K c) && He.eqO (PySem.W.findIn K (.ref (He.ga K c)) f) (some none)
  | .isx c => He.eqO (PySem.W.findIn K (.ref (He.ga K c)) "__getattribute__") (some (some (.builtin "BaseException.__getattribute__"))) && (He.eqO (PySem.W.findIn K (.ref (He.ga K c)) "__getattr__") (some none) && (decide (PySem.W.subIn K (.ref (He.ga K c)) (.type "BaseException") = some true) &&
      (PySem.W.hasDictIn K (He.ga K c) && (He.eqO (PySem.W.findIn K (.ref (He.ga K c)) "__class__") (some (some (.builtin "object.__class__"))) && (He.eqO (PySem.W.specialIn K (.builtin "object.__class__") "__get__") (some (some (.builtin "getset_descriptor.__get__"))) &&
      (decide (PySem.W.takesIn K (.builtin "object.__class__") = some true) && decide (PySem.W.mroIn K (He.ga K c) (.type "object") = some true)))))))
  | .kit c t b => decide (PySem.W.kitOne K (.ref (He.ga K c)) (.ref (He.ga K t)) = some b)
  | .exm c t b => decide (PySem.W.exmOne K (.ref (He.ga K c)) (.ref (He.ga K t)) = some b)
  | .lam x => lamB K x
def xcs (l : List Xc) (K : PySem.W.Frag) : Bool := l.all fun x => x.ok K
/-- .. and which defs may make lambdas -/
def xct (tn : List Str) (l : List Xc) (K : PySem.W.Frag) : Bool := tbB tn K && xcs l K
section
variable {K : PySem.W.Frag} {mg : Str → Option Value} {P : Program} {w : World} {base : Heap} {c f t : Str} {l : List Xc}
theorem xcs_at (h : xcs l K = true) (i : Nat) {x : Xc} (e : l[i]? = some x) : x.ok K = true := List.all_eq_true.mp h x (List.mem_of_getElem? e)
/-- told of a table, entry by entry -/
def AllT {α : Type} (P : α → Prop) : List α → Prop
  | [] => True
  | q :: r => P q ∧ AllT P r
theorem AllT.all {α : Type} {P : α → Prop} : ∀ {l : List α}, AllT P l → ∀ q ∈ l, P q
  | [], _, q, h => nomatch h
  | x :: r, ⟨a, b⟩, q, h => by
    rcases List.mem_cons.mp h with rfl | h
    · exact a
    · exact AllT.all b q h
theorem ga_ns (h : (He.Fa.glo c).ok K = true) : PySem.W.nsIn K mainGlobals c = some (some (.ref (He.ga K c))) := He.eqO_ok h
theorem fr_ns (h : (He.Fa.free c).ok K = true) : PySem.W.nsIn K mainGlobals c = some none := He.eqO_ok h
/-- one that is not there -/
theorem gone_m {Q : Addr → Prop} (h : mg c = none) : ∀ C, mg c = some (.ref C) → Q C := fun C e => by rw [h] at e; cases e
theorem here_m {Q : Addr → Prop} (h : mg c = some (.ref (He.ga K c))) (q : Q (He.ga K c)) : ∀ C, mg c = some (.ref C) → Q C := fun C e => by rw [h] at e; cases e; exact q
theorem exc0_of (hm : mg c = some (.ref (He.ga K c))) (h : (He.Fa.exc c).ok K = true) : Exc0 K mg c := by
  obtain ⟨h1, h2, h3, h4⟩ := He.exc_ok h
  exact ⟨_, hm, h1, h2, h3, h4⟩
end
def frTbl : XTbl := [("FrankError", ["FrankError"]), ("BadAnswers", ["BadAnswers", "FrankError"]), ("BadBatch", ["BadBatch", "FrankError"]), ("BadBelief", ["BadBelief", "FrankError"]), ("BadMark", ["BadMark", "FrankError"]), ("BadMenu", ["BadMenu", "FrankError"]), ("BadNumber", ["BadNumber", "FrankError"]), ("BadRow", ["BadRow", "FrankError"]), ("BadText", ["BadText", "FrankError"]), ("Busy", ["Busy", "FrankError"]), ("LastWord", ["LastWord", "FrankError"]), ("NoAnswer", ["NoAnswer", "FrankError"]), ("NoCell", ["NoCell", "FrankError"]), ("NotFrank", ["NotFrank", "FrankError"]), ("NothingToUndo", ["NothingToUndo", "FrankError"]), ("NoVersion", ["NoVersion", "FrankError"]), ("NoWord", ["NoWord", "FrankError"]), ("Rejected", ["Rejected", "FrankError"]), ("TooFew", ["TooFew", "FrankError"]), ("TooGreat", ["TooGreat", "FrankError"]), ("TooMany", ["TooMany", "FrankError"]), ("TooManyEdits", ["TooManyEdits", "FrankError"]), ("Unlike", ["Unlike", "FrankError"])]
def csGiven : List Str := ["BadAnswers", "BadBelief", "BadMark", "BadNumber", "BadRow", "BadText", "NoAnswer", "NoVersion", "NoWord"]
def csWord : List Str := ["NoCell", "NotFrank"]
def csLimit : List Str := ["TooMany"]
def csError : List Str := ["BadMenu"]
def csIndex : List Str := ["Rejected"]
end Fk
set_option maxHeartbeats 1000000
namespace Fk
open PySem PySem.Spec PyProof.Rows L2
def sumDA : List D → Store → Option D
  | [d], S => match dr S d with
    | .lst xs => (asInts xs).map fun ns => .int ns.sum
    | .tup xs => (asInts xs).map fun ns => .int ns.sum
    | _ => none
  | _, _ => none
section
end
end Fk
set_option maxHeartbeats 2000000
namespace Fk.Z
open PySem PySem.Spec PyProof.Rows L2
def SqAt (k : Bool) (h : Heap) (l : Addr) (xs : Array Value) : Prop := match k with
  | true => h.IsList l xs
  | false => h.IsTuple l xs
def ItAt (k : Bool) (h : Heap) (it l : Addr) (i : Nat) : Prop := match k with
  | true => h.IsListIter it l i
  | false => h.IsTupleIter it l i
theorem SqAt.eb {k : Bool} {h h' : Heap} {a b : Addr} {xs : Array Value} (x : SqAt k h a xs) (hs : Heap.ExtBut b h h') (hab : a ≠ b) : SqAt k h' a xs := by
  cases k with
  | true => exact Heap.IsList.extBut x hs hab
  | false => exact Heap.IsTuple.extBut x hs hab
theorem ItAt.go {k : Bool} {h h' : Heap} {a l : Addr} {i : Nat} (x : ItAt k h a l i) (e : ∀ o, h.get? a = some o → h'.get? a = some o) : ItAt k h' a l i := by
  cases k with
  | true => exact Heap.IsListIter.at x e
  | false => exact Heap.IsTupleIter.at x e
theorem ItAt.eb {k : Bool} {h h' : Heap} {a b l : Addr} {i : Nat} (x : ItAt k h a l i) (hs : Heap.ExtBut b h h') (hab : a ≠ b) : ItAt k h' a l i := x.go fun o q => hs _ _ hab q
theorem ItAt.obj {k : Bool} {h : Heap} {a l : Addr} {i : Nat} (x : ItAt k h a l i) : ∃ o, h.get? a = some o ∧ ∀ v, o.data ≠ .cell v := by
  cases k with
  | true => obtain ⟨o, e, _, d⟩ := x; exact ⟨o, e, fun v q => by rw [d] at q; cases q⟩
  | false => obtain ⟨o, e, _, d⟩ := x; exact ⟨o, e, fun v q => by rw [d] at q; cases q⟩
section
variable {prog : Program} {w : World} {A : Around} {E : Value → Shared → Prop} {s : Shared}
theorem nx_item {k : Bool} {it l : Addr} {i : Nat} {items : Array Value} {x : Value} {Q : Value → Shared → Prop} (hit : ItAt k s.heap it l i) (hl : SqAt k s.heap l items) (hx : items[i]? = some x)
    (hQ : ∀ h', ItAt k h' it l (i + 1) → Heap.SameBut it s.heap h' → Q x { s with heap := h' }) : wpAny (model prog w) A (Builtin.SmallTypes.nextOf (.ref it)) Q E s := by
  cases k with
  | true => exact wpAny_nextOf_list_item hit hl hx hQ
  | false => exact RZ.nextOf_tuple_item hit hl hx hQ
theorem nx_end {k : Bool} {it l : Addr} {i : Nat} {items : Array Value} {Q : Value → Shared → Prop} (hh : A.handled = none) (hit : ItAt k s.heap it l i) (hl : SqAt k s.heap l items) (hx : items[i]? = none)
    (hE : ∀ h' e, Heap.ExtBut it s.heap h' → (∃ o, h'.get? e = some o ∧ o.cls = .type "StopIteration") → E (.ref e) { s with heap := h' }) : wpAny (model prog w) A (Builtin.SmallTypes.nextOf (.ref it)) Q E s := by
  cases k with
  | true => exact wpAny_nextOf_list_end hh hit hl hx hE
  | false => exact RZ.nextOf_tuple_end hh hit hl hx hE
variable {p q : Bool} {z TI TO i1 i2 l1 l2 : Addr} {k1 k2 : Nat} {xs ys : Array Value} {x y a b : Value}
theorem z_item {Q : Value → Shared → Prop} (D : ZipApart z TI TO i1 i2 l1 l2) (hz : IsZip s.heap z TI TO .none) (hTI : IsPair s.heap TI (.ref i1) (.ref i2)) (hTO : IsPair s.heap TO a b)
    (h1 : ItAt p s.heap i1 l1 k1) (h2 : ItAt q s.heap i2 l2 k2) (hl1 : SqAt p s.heap l1 xs) (hl2 : SqAt q s.heap l2 ys) (hx : xs[k1]? = some x) (hy : ys[k2]? = some y)
    (hQ : ∀ h', IsZip h' z TI TO (rawInt s.heap.objs.size) → IsPair h' TO x y → ItAt p h' i1 l1 (k1 + 1) → ItAt q h' i2 l2 (k2 + 1) → IsPair h' s.heap.objs.size x y → h'.objs.size = s.heap.objs.size + 1 →
      (∀ c o, c ≠ z → c ≠ TO → c ≠ i1 → c ≠ i2 → s.heap.get? c = some o → h'.get? c = some o) → Q (.ref s.heap.objs.size) { s with heap := h' }) :
    wpAny (model prog w) A (Builtin.«zip.__next__» ⟨[.ref z], []⟩) (fun fin s' => ∃ v, fin = .done (.ret v) ∧ Q v s') E s := by
  show wpAny _ _ (field (.ref z) 2 >>= _) _ _ _
  refine wpAny_bind (wpAny_field hz rfl (x := .bool false) rfl ?_)
  show wpAny _ _ (field (.ref z) 3 >>= _) _ _ _
  refine wpAny_bind (wpAny_field hz rfl (x := .ref TI) rfl (wpAny_bind (wpAny_seqItems hTI rfl ?_)))
  show wpAny _ _ (Builtin.SmallTypes.ownedTupleIsFree (.ref z) >>= _) _ _ _
  refine wpAny_bind ?_
  unfold Builtin.SmallTypes.ownedTupleIsFree
  refine wpAny_bind (wpAny_field hz rfl (x := .none) rfl (wpAny_pure ?_))
  simp only [if_true]
  refine wpAny_bind (wpAny_rule (wpAny_bind (wpAny_field hz rfl (x := .ref TO) rfl (wpAny_bind (wpAny_setField_rec hz (by simp) fun g1 z1 s1 => ?_)))))
  have z1 : IsZip g1 z TI TO .ellipsis := z1
  refine wpAny_bind ?_
  simp only [List.zipIdx_cons, List.zipIdx_nil, List.forIn_cons, List.forIn_nil]
  refine wpAny_bind (wpAny_bind (wpAny_onRaise ?_))
  show wpAny _ _ (Builtin.SmallTypes.nextOf (.ref i1) >>= _) _ _ _
  refine wpAny_bind (nx_item (h1.eb s1.extBut D.i1z) (hl1.eb s1.extBut D.l1z) hx fun g2 j1 s2 => wpAny_pure ?_)
  have t2 : IsPair g2 TO a b := s2.extBut _ _ D.TOi1 (s1.extBut _ _ D.TOz hTO)
  refine wpAny_bind (wpAny_seqItems t2 rfl (wpAny_bind (wpAny_updateSeq_pair t2 fun g3 t3 s3 => ?_)))
  have t3 : IsPair g3 TO x b := t3
  refine wpAny_bind (wpAny_letGo (wpAny_pure (wpAny_bind (wpAny_bind (wpAny_onRaise ?_)))))
  show wpAny _ _ (Builtin.SmallTypes.nextOf (.ref i2) >>= _) _ _ _
  refine wpAny_bind (nx_item (((h2.eb s1.extBut D.i2z).eb s2.extBut D.i12.symm).eb s3.extBut D.TOi2.symm) (((hl2.eb s1.extBut D.l2z).eb s2.extBut D.l2i1).eb s3.extBut D.l2TO) hy fun g4 j2 s4 => wpAny_pure ?_)
  have t4 : IsPair g4 TO x b := s4.extBut _ _ D.TOi2 t3
  refine wpAny_bind (wpAny_seqItems t4 rfl (wpAny_bind (wpAny_updateSeq_pair t4 fun g5 t5 s5 => ?_)))
  have t5 : IsPair g5 TO x y := t5
  refine wpAny_bind (wpAny_letGo (wpAny_pure (wpAny_pure ?_)))
  refine wpAny_bind (wpAny_seqItems t5 rfl (wpAny_bind (wpAny_newTuple ?_)))
  have hsz : g5.objs.size = s.heap.objs.size := by rw [s5.1, s4.1, s3.1, s2.1, s1.1]
  have z5 : IsZip g5 z TI TO .ellipsis := s5.extBut _ _ D.TOz.symm (s4.extBut _ _ D.i2z.symm (s3.extBut _ _ D.TOz.symm (s2.extBut _ _ D.i1z.symm z1)))
  have kp : ∀ c o, c ≠ z → c ≠ TO → c ≠ i1 → c ≠ i2 → s.heap.get? c = some o → g5.get? c = some o := fun c o c1 c2 c3 c4 e =>
    s5.extBut _ _ c2 (s4.extBut _ _ c4 (s3.extBut _ _ c2 (s2.extBut _ _ c3 (s1.extBut _ _ c1 e))))
  have j1' : ItAt p g5 i1 l1 (k1 + 1) := ((j1.eb s3.extBut D.TOi1.symm).eb s4.extBut D.i12).eb s5.extBut D.TOi1.symm
  have j2' : ItAt q g5 i2 l2 (k2 + 1) := j2.eb s5.extBut D.TOi2.symm
  have zlt : z < g5.objs.size := Heap.lt_size z5
  show wpAny _ _ (Builtin.SmallTypes.ownedTupleHandOut (.ref z) (.ref g5.objs.size) >>= _) _ _ _
  refine wpAny_bind ?_
  unfold Builtin.SmallTypes.ownedTupleHandOut
  have z6 : IsZip (g5.push { cls := .type "tuple", data := .seq #[x, y] }) z TI TO .ellipsis := Heap.get?_push_of_some _ z5
  refine wpAny_bind (wpAny_setField_rec z6 (by simp) fun g7 z7 s7 => ?_)
  have z7 : IsZip g7 z TI TO (rawInt g5.objs.size) := z7
  refine wpAny_setField_rec z7 (by simp) fun g8 z8 s8 => ?_
  have z8 : IsZip g8 z TI TO (rawInt g5.objs.size) := z8
  have up : ∀ c o, c ≠ z → g5.get? c = some o → g8.get? c = some o := fun c o c1 e => s8.extBut _ _ c1 (s7.extBut _ _ c1 (Heap.get?_push_of_some _ e))
  have t8 : IsPair g8 g5.objs.size x y := s8.extBut _ _ (Nat.ne_of_gt zlt) (s7.extBut _ _ (Nat.ne_of_gt zlt) (Heap.get?_push_size _ rfl))
  have n8 : g8.objs.size = g5.objs.size + 1 := by rw [s8.1, s7.1, Heap.size_push]
  rw [hsz] at z8 t8 n8
  refine wpAny_pure ⟨_, rfl, ?_⟩
  show Q (.ref g5.objs.size) _
  rw [hsz]
  exact hQ g8 z8 (up _ _ D.TOz t5) (j1'.go fun o e => up _ o D.i1z e) (j2'.go fun o e => up _ o D.i2z e) t8 n8 fun c o c1 c2 c3 c4 e => up c o c1 (kp c o c1 c2 c3 c4 e)
theorem z_end {Q : Fin → Shared → Prop} (hh : A.handled = none) (D : ZipApart z TI TO i1 i2 l1 l2) (hz : IsZip s.heap z TI TO .none) (hTI : IsPair s.heap TI (.ref i1) (.ref i2)) (hTO : IsPair s.heap TO a b)
    (h1 : ItAt p s.heap i1 l1 k1) (h2 : ItAt q s.heap i2 l2 k2) (hl1 : SqAt p s.heap l1 xs) (hl2 : SqAt q s.heap l2 ys) (hend : xs[k1]? = none ∨ ys[k2]? = none)
    (hE : ∀ h' e, (∀ c o, c ≠ z → c ≠ TO → c ≠ i1 → c ≠ i2 → s.heap.get? c = some o → h'.get? c = some o) → (∃ o, h'.get? e = some o ∧ o.cls = .type "StopIteration") → E (.ref e) { s with heap := h' }) :
    wpAny (model prog w) A (Builtin.«zip.__next__» ⟨[.ref z], []⟩) Q E s := by
  show wpAny _ _ (field (.ref z) 2 >>= _) _ _ _
  refine wpAny_bind (wpAny_field hz rfl (x := .bool false) rfl ?_)
  show wpAny _ _ (field (.ref z) 3 >>= _) _ _ _
  refine wpAny_bind (wpAny_field hz rfl (x := .ref TI) rfl (wpAny_bind (wpAny_seqItems hTI rfl ?_)))
  show wpAny _ _ (Builtin.SmallTypes.ownedTupleIsFree (.ref z) >>= _) _ _ _
  refine wpAny_bind ?_
  unfold Builtin.SmallTypes.ownedTupleIsFree
  refine wpAny_bind (wpAny_field hz rfl (x := .none) rfl (wpAny_pure ?_))
  simp only [if_true]
  refine wpAny_bind (wpAny_rule (wpAny_bind (wpAny_field hz rfl (x := .ref TO) rfl (wpAny_bind (wpAny_setField_rec hz (by simp) fun g1 z1 s1 => ?_)))))
  have z1 : IsZip g1 z TI TO .ellipsis := z1
  refine wpAny_bind ?_
  simp only [List.zipIdx_cons, List.zipIdx_nil, List.forIn_cons, List.forIn_nil]
  refine wpAny_bind (wpAny_bind (wpAny_onRaise ?_))
  show wpAny _ _ (Builtin.SmallTypes.nextOf (.ref i1) >>= _) _ _ _
  cases hx : xs[k1]? with
  | none =>
    refine wpAny_bind (nx_end hh (h1.eb s1.extBut D.i1z) (hl1.eb s1.extBut D.l1z) hx fun g2 e s2 he => ?_)
    obtain ⟨oe, hoe, hce⟩ := he
    have z2 : IsZip g2 z TI TO .ellipsis := s2 _ _ D.i1z.symm z1
    have hez : e ≠ z := fun x => by subst x; rw [z2] at hoe; cases hoe; simp at hce
    exact wpAny_setField_rec z2 (by simp) fun g3 _ s3 => hE g3 e (fun c o c1 _ c3 _ x => s3.extBut _ _ c1 (s2 _ _ c3 (s1.extBut _ _ c1 x))) ⟨oe, s3.extBut _ _ hez hoe, hce⟩
  | some x =>
    have hy : ys[k2]? = none := by rcases hend with h | h; rw [hx] at h; cases h; exact h
    refine wpAny_bind (nx_item (h1.eb s1.extBut D.i1z) (hl1.eb s1.extBut D.l1z) hx fun g2 j1 s2 => wpAny_pure ?_)
    have t2 : IsPair g2 TO a b := s2.extBut _ _ D.TOi1 (s1.extBut _ _ D.TOz hTO)
    refine wpAny_bind (wpAny_seqItems t2 rfl (wpAny_bind (wpAny_updateSeq_pair t2 fun g3 t3 s3 => ?_)))
    refine wpAny_bind (wpAny_letGo (wpAny_pure (wpAny_bind (wpAny_bind (wpAny_onRaise ?_)))))
    show wpAny _ _ (Builtin.SmallTypes.nextOf (.ref i2) >>= _) _ _ _
    refine wpAny_bind (nx_end hh (((h2.eb s1.extBut D.i2z).eb s2.extBut D.i12.symm).eb s3.extBut D.TOi2.symm) (((hl2.eb s1.extBut D.l2z).eb s2.extBut D.l2i1).eb s3.extBut D.l2TO) hy fun g4 e s4 he => ?_)
    obtain ⟨oe, hoe, hce⟩ := he
    have z4 : IsZip g4 z TI TO .ellipsis := s4 _ _ D.i2z.symm (s3.extBut _ _ D.TOz.symm (s2.extBut _ _ D.i1z.symm z1))
    have hez : e ≠ z := fun x => by subst x; rw [z4] at hoe; cases hoe; simp at hce
    exact wpAny_setField_rec z4 (by simp) fun g5 _ s5 => hE g5 e (fun c o c1 c2 c3 c4 x => s5.extBut _ _ c1 (s4 _ _ c4 (s3.extBut _ _ c2 (s2.extBut _ _ c3 (s1.extBut _ _ c1 x))))) ⟨oe, s5.extBut _ _ hez hoe, hce⟩
end
def itName (k : Bool) : String := if k then "list_iterator" else "tuple_iterator"
abbrev zh1 (p : Bool) (h : Heap) (l1 : Addr) : Heap := h.push { cls := .type (itName p), data := .fields #[.ref l1, .int 0 0] }
abbrev zh2 (p q : Bool) (h : Heap) (l1 l2 : Addr) : Heap := (zh1 p h l1).push { cls := .type (itName q), data := .fields #[.ref l2, .int 0 0] }
abbrev zh3 (p q : Bool) (h : Heap) (l1 l2 : Addr) : Heap := (zh2 p q h l1 l2).push { cls := .type "tuple", data := .seq #[.ref h.objs.size, .ref (zh1 p h l1).objs.size] }
abbrev zh4 (p q : Bool) (h : Heap) (l1 l2 : Addr) : Heap := (zh3 p q h l1 l2).push { cls := .type "tuple", data := .seq #[.none, .none] }
abbrev zh5 (p q : Bool) (h : Heap) (l1 l2 : Addr) : Heap := (zh4 p q h l1 l2).push { cls := .type "zip", data := .fields #[.none, .bool false, .bool false, .ref (zh2 p q h l1 l2).objs.size, .ref (zh3 p q h l1 l2).objs.size] }
def NewS (p q : Bool) (l1 l2 : Addr) (xs ys : Array Value) : Prop := Meets (Builtin.«zip.__new__» ⟨[.type "zip", .ref l1, .ref l2], []⟩) (fun _ R s => SqAt p s.heap l1 xs ∧ SqAt q s.heap l2 ys ∧ R (.ok (.ret (.ref (zh4 p q s.heap l1 l2).objs.size))) { s with heap := zh5 p q s.heap l1 l2 })
theorem new_M (p q : Bool) (l1 l2 : Addr) (xs ys : Array Value) : NewS p q l1 l2 xs ys :=
  .of_wp fun prog w A R s h => by
    obtain ⟨hp, g, d, tk, os⟩ := s
    obtain ⟨hl1, hl2, h⟩ := h
    have hsub := sub_zip
    cases p with
    | true =>
      have hL1 : Heap.IsList (Shared.heap ⟨hp, g, d, tk, os⟩) l1 xs := hl1
      cases q with
      | true =>
        have hL2 : Heap.IsList (Shared.heap ⟨hp.push { cls := .type "list_iterator", data := .fields #[.ref l1, .int 0 0] }, g, d, tk, os⟩) l2 ys := Heap.IsList.push hl2 _
        wp_walk using wpAny_pyIter_list hL1, wpAny_pyIter_list hL2
        exact ⟨_, rfl, h⟩
      | false =>
        have hL2 : Heap.IsTuple (Shared.heap ⟨hp.push { cls := .type "list_iterator", data := .fields #[.ref l1, .int 0 0] }, g, d, tk, os⟩) l2 ys := Heap.IsTuple.push hl2 _
        wp_walk using wpAny_pyIter_list hL1, wpAny_pyIter_tuple hL2
        exact ⟨_, rfl, h⟩
    | false =>
      have hL1 : Heap.IsTuple (Shared.heap ⟨hp, g, d, tk, os⟩) l1 xs := hl1
      cases q with
      | true =>
        have hL2 : Heap.IsList (Shared.heap ⟨hp.push { cls := .type "tuple_iterator", data := .fields #[.ref l1, .int 0 0] }, g, d, tk, os⟩) l2 ys := Heap.IsList.push hl2 _
        wp_walk using wpAny_pyIter_tuple hL1, wpAny_pyIter_list hL2
        exact ⟨_, rfl, h⟩
      | false =>
        have hL2 : Heap.IsTuple (Shared.heap ⟨hp.push { cls := .type "tuple_iterator", data := .fields #[.ref l1, .int 0 0] }, g, d, tk, os⟩) l2 ys := Heap.IsTuple.push hl2 _
        wp_walk using wpAny_pyIter_tuple hL1, wpAny_pyIter_tuple hL2
        exact ⟨_, rfl, h⟩
section
variable {prog : Program} {w : World} {A : Around} {E : Value → Shared → Prop} {s : Shared} {p q : Bool}
theorem it_new {k : Bool} {h : Heap} {a l : Addr} (e : h.get? a = some { cls := .type (itName k), data := .fields #[.ref l, .int 0 0] }) : ItAt k h a l 0 := by
  cases k with
  | true => exact ⟨_, e, rfl, rfl⟩
  | false => exact ⟨_, e, rfl, rfl⟩
theorem call_M {l1 l2 : Addr} {xs ys : Array Value} {Q : Value → Shared → Prop} (hl1 : SqAt p s.heap l1 xs) (hl2 : SqAt q s.heap l2 ys)
    (h : ∀ h', IsZip h' (s.heap.objs.size + 4) (s.heap.objs.size + 2) (s.heap.objs.size + 3) .none → IsPair h' (s.heap.objs.size + 2) (.ref s.heap.objs.size) (.ref (s.heap.objs.size + 1)) →
      IsPair h' (s.heap.objs.size + 3) .none .none → ItAt p h' s.heap.objs.size l1 0 → ItAt q h' (s.heap.objs.size + 1) l2 0 → (∀ c o, s.heap.get? c = some o → h'.get? c = some o) → Q (.ref (s.heap.objs.size + 4)) { s with heap := h' }) :
    wpAny (model prog w) A (call (.type "zip") [.ref l1, .ref l2]) Q E s := by
  refine callType_new F.called_zip (by decide) (F.typeCall_zip_2 _ _) (F.newCall_zip_2 _ _) (fun obj => F.args_object_init_3 obj _ _) F.entry_zip_new (new_M p q l1 l2 xs ys) ⟨hl1, hl2, ?_⟩
  have z1 : (zh1 p s.heap l1).objs.size = s.heap.objs.size + 1 := Heap.size_push ..
  have z2 : (zh2 p q s.heap l1 l2).objs.size = s.heap.objs.size + 2 := by rw [Heap.size_push, z1]
  have z3 : (zh3 p q s.heap l1 l2).objs.size = s.heap.objs.size + 3 := by rw [Heap.size_push, z2]
  have z4 : (zh4 p q s.heap l1 l2).objs.size = s.heap.objs.size + 4 := by rw [Heap.size_push, z3]
  have g5 : (zh5 p q s.heap l1 l2).get? (zh4 p q s.heap l1 l2).objs.size = some _ := Heap.get?_push_size _ rfl
  have g4 : (zh5 p q s.heap l1 l2).get? (zh3 p q s.heap l1 l2).objs.size = some _ := Heap.get?_push_of_some _ (Heap.get?_push_size _ rfl)
  have g3 : (zh5 p q s.heap l1 l2).get? (zh2 p q s.heap l1 l2).objs.size = some _ := Heap.get?_push_of_some _ (Heap.get?_push_of_some _ (Heap.get?_push_size _ rfl))
  have g2 : (zh5 p q s.heap l1 l2).get? (zh1 p s.heap l1).objs.size = some _ := Heap.get?_push_of_some _ (Heap.get?_push_of_some _ (Heap.get?_push_of_some _ (Heap.get?_push_size _ rfl)))
  have g1 : (zh5 p q s.heap l1 l2).get? s.heap.objs.size = some _ := Heap.get?_push_of_some _ (Heap.get?_push_of_some _ (Heap.get?_push_of_some _ (Heap.get?_push_of_some _ (Heap.get?_push_size _ rfl))))
  show _ ∧ _
  rw [z2, z3, z4] at g5
  rw [z1, z2] at g3
  rw [z3] at g4
  rw [z1] at g2
  rw [z4]
  exact ⟨⟨_, g5, rfl⟩, h _ g5 g3 g4 (it_new g1) (it_new g2) fun c o x => Heap.get?_push_of_some _ (Heap.get?_push_of_some _ (Heap.get?_push_of_some _ (Heap.get?_push_of_some _ (Heap.get?_push_of_some _ x))))⟩
theorem next_item {z TI TO i1 i2 l1 l2 : Addr} {k1 k2 : Nat} {xs ys : Array Value} {x y a b : Value} {Q : Option Value → Shared → Prop} (D : ZipApart z TI TO i1 i2 l1 l2) (hz : IsZip s.heap z TI TO .none) (hTI : IsPair s.heap TI (.ref i1) (.ref i2)) (hTO : IsPair s.heap TO a b)
    (h1 : ItAt p s.heap i1 l1 k1) (h2 : ItAt q s.heap i2 l2 k2) (hl1 : SqAt p s.heap l1 xs) (hl2 : SqAt q s.heap l2 ys) (hx : xs[k1]? = some x) (hy : ys[k2]? = some y)
    (hQ : ∀ h', IsZip h' z TI TO (rawInt s.heap.objs.size) → IsPair h' TO x y → ItAt p h' i1 l1 (k1 + 1) → ItAt q h' i2 l2 (k2 + 1) → IsPair h' s.heap.objs.size x y → h'.objs.size = s.heap.objs.size + 1 →
      (∀ c o, c ≠ z → c ≠ TO → c ≠ i1 → c ≠ i2 → s.heap.get? c = some o → h'.get? c = some o) → Q (some (.ref s.heap.objs.size)) { s with heap := h' }) : wpAny (model prog w) A (pyNext (.ref z)) Q E s := by
  have hT : s.TypeIs (.ref z) "zip" := ⟨_, hz, rfl⟩
  unfold pyNext
  exact wpAny_bind (wpAny_attempt (wpAny_callSpecial?_slot (name := Str.ofString "__next__") hT F.slot_zip_next (wpAny_call_entry F.slot_zip_next hT F.entry_zip_next (z_item D hz hTI hTO h1 h2 hl1 hl2 hx hy fun h' a1 a2 a3 a4 a5 a6 a7 => wpAny_pure (hQ h' a1 a2 a3 a4 a5 a6 a7)) (F.args_zip_next_1 _))))
theorem next_end {z TI TO i1 i2 l1 l2 : Addr} {k1 k2 : Nat} {xs ys : Array Value} {a b : Value} {Q : Option Value → Shared → Prop} (hh : A.handled = none) (D : ZipApart z TI TO i1 i2 l1 l2) (hz : IsZip s.heap z TI TO .none) (hTI : IsPair s.heap TI (.ref i1) (.ref i2)) (hTO : IsPair s.heap TO a b)
    (h1 : ItAt p s.heap i1 l1 k1) (h2 : ItAt q s.heap i2 l2 k2) (hl1 : SqAt p s.heap l1 xs) (hl2 : SqAt q s.heap l2 ys) (hend : xs[k1]? = none ∨ ys[k2]? = none)
    (hQ : ∀ h', (∀ c o, c ≠ z → c ≠ TO → c ≠ i1 → c ≠ i2 → s.heap.get? c = some o → h'.get? c = some o) → Q none { s with heap := h' }) : wpAny (model prog w) A (pyNext (.ref z)) Q E s := by
  have hT : s.TypeIs (.ref z) "zip" := ⟨_, hz, rfl⟩
  unfold pyNext
  refine wpAny_bind (wpAny_attempt (wpAny_callSpecial?_slot (name := Str.ofString "__next__") hT F.slot_zip_next (wpAny_call_entry F.slot_zip_next hT F.entry_zip_next (z_end hh D hz hTI hTO h1 h2 hl1 hl2 hend fun h' e hk he => ?_) (F.args_zip_next_1 _))))
  obtain ⟨o, ho, hc⟩ := he
  exact wpAny_bind (wpAny_isInstance (T := "StopIteration") (b := true) ⟨o, ho, hc⟩ isSubtype_stop (wpAny_pure (hQ _ hk)))
end
def SqK (k : Bool) (K : PySem.W.Frag) (H : Hp) (a : Addr) (xs : List V) : Prop := match k with
  | true => SqL K H a xs
  | false => SqT K H a xs
section
variable {X : Cx} {pins : List (Addr × Obj)} {σ : L2.St} {H : Hp} {s : Shared} {k : Bool} {a : Addr} {xs ys : List V}
theorem SqK.sq (I : Inv X pins σ H s) (h : SqK k X.K H a xs) : ∃ its, Vals xs its ∧ SqAt k s.heap a its.toArray ∧ a < s.heap.objs.size := by
  cases k with
  | true =>
    obtain ⟨its, rv, p, _⟩ := I.list h
    exact ⟨its, rv, p.isList, p.lt⟩
  | false =>
    obtain ⟨its, rv, p, _⟩ := I.tuple h
    obtain ⟨o, ho, _⟩ := id p
    exact ⟨its, rv, p, Heap.lt_size ho⟩
theorem SqK.inj (I : Inv X pins σ H s) (h : SqK k X.K H a xs) (g : SqK k X.K H a ys) : xs = ys := by
  cases k with
  | true => exact I.list_inj h g
  | false => exact I.tuple_inj h g
end
def ItM (p q : Bool) (K : PySem.W.Frag) (a b : Addr) : It :=
  ⟨fun i H => ∃ (xs ys : List V) (x y : V), SqK p K H a xs ∧ SqK q K H b ys ∧ xs[i]? = some x ∧ ys[i]? = some y,
    fun i H v H' => ∃ T x y, v = .ref T ∧ H T = none ∧ H' = upd H T (.tup [x, y]) ∧ (∀ xs, SqK p K H a xs → xs[i]? = some x) ∧ ∀ ys, SqK q K H b ys → ys[i]? = some y,
    fun i H => ∃ xs ys : List V, SqK p K H a xs ∧ SqK q K H b ys ∧ (xs.length ≤ i ∨ ys.length ≤ i)⟩
theorem turn_M {P : Program} {w : World} {K : PySem.W.Frag} {elts : List Expr} {kk : Nat} {tpos : Pos} {p q : Bool} {a b z TI TO i1 i2 : Addr} (D : ZipApart z TI TO i1 i2 a b) :
    Turn P w K (.Tuple elts kk tpos) (ItM p q K a b) [z, TI, TO, i1, i2] z (fun i h => IsZip h z TI TO .none ∧ IsPair h TI (.ref i1) (.ref i2) ∧ (∃ x y, IsPair h TO x y) ∧ ItAt p h i1 a i ∧ ItAt q h i2 b i) where
  mem := by simp
  obj := fun i h st c hc => by
    obtain ⟨hz, hTI, ⟨x, y, hTO⟩, h1, h2⟩ := st
    obtain ⟨o1, e1, d1⟩ := h1.obj
    obtain ⟨o2, e2, d2⟩ := h2.obj
    have e' : c = z ∨ c = TI ∨ c = TO ∨ c = i1 ∨ c = i2 := by simpa using hc
    rcases e' with q | q | q | q | q
    · rw [q]; exact ⟨_, hz, fun v q => nomatch q⟩
    · rw [q]; exact ⟨_, hTI, fun v q => nomatch q⟩
    · rw [q]; exact ⟨_, hTO, fun v q => nomatch q⟩
    · rw [q]; exact ⟨o1, e1, d1⟩
    · rw [q]; exact ⟨o2, e2, d2⟩
  keep := fun i h h' st k => by
    obtain ⟨hz, hTI, ⟨x, y, hTO⟩, h1, h2⟩ := st
    exact ⟨k z (by simp) _ hz, k TI (by simp) _ hTI, ⟨x, y, k TO (by simp) _ hTO⟩, h1.go fun o q => k i1 (by simp) o q, h2.go fun o q => k i2 (by simp) o q⟩
  item := by
    intro X hP hw hK hc i pins s σ H E I hf st hg
    subst hP hw hK
    obtain ⟨hz, hTI, ⟨x0, y0, hTO⟩, h1, h2⟩ := st
    obtain ⟨xs, ys, x, y, hqx, hqy, hx, hy⟩ := hg
    obtain ⟨its, rv, pp, _⟩ := hqx.sq I
    obtain ⟨its2, rv2, pp2, _⟩ := hqy.sq I
    obtain ⟨u, hu, ru⟩ := rv.get hx
    obtain ⟨u2, hu2, ru2⟩ := rv2.get hy
    have hzl : z < s.heap.objs.size := Heap.lt_size hz
    refine next_item D hz hTI hTO h1 h2 pp pp2 (x := u) (y := u2) (by simpa using hu) (by simpa using hu2) fun h' z' TO' j1 j2 hT hsz hk => ?_
    refine ⟨_, rfl, wpAny_letOwnedTupleGo_zip (s := { s with heap := h' }) z' fun h'' z'' sb => ?_⟩
    have hT2 : h''.get? s.heap.objs.size = some { cls := .type "tuple", data := .seq #[u, u2] } := (sb.2 _ (Nat.ne_of_gt hzl)).trans hT
    have new : ObjOk X.prog X.w (upd H s.heap.objs.size (.tup [x, y])) h'' s.heap.objs.size (.tup [x, y]) := ⟨by show 2 ≤ sizeLine; decide, [u, u2], .cons ru (.cons ru2 .nil), ⟨_, hT2, rfl, _, rfl⟩⟩
    have I1 : Inv X pins σ (upd H s.heap.objs.size (.tup [x, y])) { s with heap := h'' } :=
      I.turnedNew (t' := s.toks) (ch := [z, TI, TO, i1, i2]) (fun c o hb q => (sb.2 c (fun q' => hb (by simp [q']))).trans (hk c o (fun q' => hb (by simp [q'])) (fun q' => hb (by simp [q'])) (fun q' => hb (by simp [q'])) (fun q' => hb (by simp [q'])) q)) hf (Nat.le_refl _) new
    refine ⟨.ref s.heap.objs.size, _, I1, rfl, ⟨_, x, y, rfl, I.hok.fresh (Nat.le_refl _), rfl, fun l hl => by rw [hl.inj I hqx]; exact hx, fun l hl => by rw [hl.inj I hqy]; exact hy⟩, ⟨z'', ?_, ⟨u, u2, ?_⟩, ?_, ?_⟩, fun c hcm => ?_⟩
    · exact (sb.2 _ D.TIz).trans (hk _ _ D.TIz D.TITO D.TIi1 D.TIi2 hTI)
    · exact (sb.2 _ D.TOz).trans TO'
    · exact j1.go fun o q => (sb.2 _ D.i1z).trans q
    · exact j2.go fun o q => (sb.2 _ D.i2z).trans q
    · have hlt : c < s.heap.objs.size := by
        have e' : c = z ∨ c = TI ∨ c = TO ∨ c = i1 ∨ c = i2 := by simpa using hcm
        rcases e' with q | q | q | q | q
        · rw [q]; exact hzl
        · rw [q]; exact Heap.lt_size hTI
        · rw [q]; exact Heap.lt_size hTO
        · rw [q]; obtain ⟨_, e1, _⟩ := h1.obj; exact Heap.lt_size e1
        · rw [q]; obtain ⟨_, e2, _⟩ := h2.obj; exact Heap.lt_size e2
      rw [upd_ne (Nat.ne_of_lt hlt)]
      exact (hf c hcm).1
  done := by
    intro X hP hw hK hc i pins s σ H E I hf st hg
    subst hP hw hK
    obtain ⟨hz, hTI, ⟨x0, y0, hTO⟩, h1, h2⟩ := st
    obtain ⟨xs, ys, hqx, hqy, hend⟩ := hg
    obtain ⟨its, rv, pp, _⟩ := hqx.sq I
    obtain ⟨its2, rv2, pp2, _⟩ := hqy.sq I
    have l1 := rv.length
    have l2 := rv2.length
    have he : its.toArray[i]? = none ∨ its2.toArray[i]? = none := by
      rcases hend with q | q
      · exact .inl (by simp; omega)
      · exact .inr (by simp; omega)
    exact next_end (I.ok.hd hc) D hz hTI hTO h1 h2 pp pp2 he fun h' hk => ⟨rfl, I.turnedL (t' := s.toks) (ch := [z, TI, TO, i1, i2]) (fun c o hb q =>
      hk c o (fun q' => hb (by simp [q'])) (fun q' => hb (by simp [q'])) (fun q' => hb (by simp [q'])) (fun q' => hb (by simp [q'])) q) hf⟩
  self := fun A i s Q E st h => wpAny_pyIter_zip st.1 h
def iZipM (K : PySem.W.Frag) (ta : TA) : TI := fun σ H R => ta σ H fun vs H1 => ∃ p q a b xs ys, vs = [.ref a, .ref b] ∧ SqK p K H1 a xs ∧ SqK q K H1 b ys ∧ R (ItM p q K a b) H1
theorem pi_zipM {X : Cx} {e e2 : Expr} {ta : TA} {p0 pos tpos : Pos} {elts : List Expr} {kk : Nat} (hg : Gl X "zip") (hm : X.mg "zip" = none) (ha : PA X [e, e2] ta)
    (hs : starEach [e, e2] X.env = (false, eval e X.env) :: starEach [e2] X.env := by rfl) (hpl : (backTo pos (starEach [e2] X.env)).any (·.1) = false := by rfl) :
    PI X (.Tuple elts kk tpos) (.Call (.Name "zip" p0) [e, e2] [] pos) (iZipM X.K ta) := by
  refine ⟨fun pins s σ H R I h => ?_⟩
  refine Call_ (ld_blt I hg hm PyProof.Rows.boot_zip (PyProof.Rows.callWith_type1 (thn (ha.run pos pins s σ H _ I h) fun us s1 ⟨vs, H1, I1, r1, q1⟩ => ?_) hs hpl))
  obtain ⟨p, q, a, b, xs, ys, ex, hqx, hqy, qq⟩ := q1
  subst ex
  cases r1 with
  | cons r rr =>
    cases rr with
    | cons r' rr =>
      cases rr
      cases r
      cases r'
      have fresh5 : ∀ c, c ∈ [s1.heap.objs.size + 4, s1.heap.objs.size + 2, s1.heap.objs.size + 3, s1.heap.objs.size, s1.heap.objs.size + 1] → FpOk X pins H1 c := fun c hcm => by
        have e' : c = s1.heap.objs.size + 4 ∨ c = s1.heap.objs.size + 2 ∨ c = s1.heap.objs.size + 3 ∨ c = s1.heap.objs.size ∨ c = s1.heap.objs.size + 1 := by simpa using hcm
        have hle : s1.heap.objs.size ≤ c := by
          rcases e' with z | z | z | z | z
          · rw [z]; exact Nat.le_add_right _ _
          · rw [z]; exact Nat.le_add_right _ _
          · rw [z]; exact Nat.le_add_right _ _
          · rw [z]; exact Nat.le_refl _
          · rw [z]; exact Nat.le_add_right _ _
        exact I1.fpOk hle (I1.hok.fresh hle)
      obtain ⟨its, rv, p1, lt1⟩ := hqx.sq I1
      obtain ⟨its2, rv2, p2, lt2⟩ := hqy.sq I1
      refine call_M p1 p2 fun h' hz hTI hTO h1 h2 hk => wpAny_pyIter_zip hz ?_
      have I2 : Inv X pins σ H1 { s1 with heap := h' } := I1.kept (t' := s1.toks) hk
      exact ⟨s1.heap.objs.size + 4, [s1.heap.objs.size + 4, s1.heap.objs.size + 2, s1.heap.objs.size + 3, s1.heap.objs.size, s1.heap.objs.size + 1], _, _, H1, rfl, I2, turn_M (PySem.W.ktu_apart s1.heap.objs.size a b lt1 lt2), ⟨hz, hTI, ⟨_, _, hTO⟩, h1, h2⟩, fresh5, qq⟩
end Fk.Z
namespace Fk
open PySem PySem.Spec PyProof.Rows L2 Fk.Z
def HoK (k : Bool) (F : Hp) (a : Addr) (vs : List V) : Prop := match k with
  | true => F a = some (.lst vs)
  | false => Tp F a vs
theorem HoK.same {k : Bool} {F F' : Hp} {a : Addr} {vs : List V} (h : HoK k F a vs) (e : Same F F') : HoK k F' a vs := by
  cases k with
  | true => exact e _ _ h
  | false => exact Tp.same h e
theorem sqK_of {k : Bool} {K : PySem.W.Frag} {H : Hp} {a : Addr} {vs : List V} (h : HoK k H a vs) : SqK k K H a vs := by
  cases k with
  | true => exact SqL.of h
  | false => exact Tp.sq h
theorem walks_M {p q : Bool} {K : PySem.W.Frag} {F : Hp} {ι : List Addr} {a b : Addr} {vs ws : List V} {xs ys : List D} (h1 : HoK p F a vs) (h2 : HoK q F b ws) (r1 : RelAll K F ι vs xs) (r2 : RelAll K F ι ws ys) : Walks K F ι (ItM p q K a b) (zipL xs ys) := by
  refine ⟨fun H i s hi => ?_, fun H i x H' s hi y => ?_, fun H i s hi => ⟨vs, ws, sqK_of (h1.same s), sqK_of (h2.same s), ?_⟩⟩
  · rw [zipL_len] at hi
    have hv : i < vs.length := by rw [r1.length]; omega
    have hw : i < ws.length := by rw [r2.length]; omega
    exact ⟨vs, ws, vs[i], ws[i], sqK_of (h1.same s), sqK_of (h2.same s), by simp [hv], by simp [hw]⟩
  · obtain ⟨T, x1, x2, rfl, hT, rfl, e1, e2⟩ := y
    obtain ⟨d1, hd1, rd1⟩ := r1.getV (e1 vs (sqK_of (h1.same s)))
    obtain ⟨d2, hd2, rd2⟩ := r2.getV (e2 ws (sqK_of (h2.same s)))
    refine ⟨.tup [d1, d2], ?_, .inr ⟨T, _, [d1, d2], rfl, hT, rfl, rfl, .cons rd1 (.cons rd2 .nil)⟩⟩
    obtain ⟨g1, rfl⟩ := List.getElem?_eq_some_iff.mp hd1
    obtain ⟨g2, rfl⟩ := List.getElem?_eq_some_iff.mp hd2
    have hz : (xs.zip ys)[i]? = some (xs[i], ys[i]) := List.getElem?_zip_eq_some.mpr ⟨hd1, hd2⟩
    rw [zipL, List.getElem?_map, hz]
    rfl
  · rw [zipL_len] at hi
    rw [r1.length, r2.length]
    omega
section
variable {X : Cx} {W : WX}
theorem xi_zip {a b : Expr} {fa : SemA} {p pos tpos : Pos} {elts : List Expr} {kk : Nat} (hg : Gl X "zip") (hm : X.mg "zip" = none) (ha : XA X W [a, b] fa)
    (hs : starEach [a, b] X.env = (false, eval a X.env) :: starEach [b] X.env := by rfl) (hpl : (backTo pos (starEach [b] X.env)).any (·.1) = false := by rfl) : XI X W (.Tuple elts kk tpos) (.Call (.Name "zip" p) [a, b] [] pos) (itZip fa) := by
  refine piI (pi_zipM hg hm ha hs hpl) fun σ H R h => ?_
  obtain ⟨F, ι, ρ, S, sm, r, q⟩ := h
  refine ⟨F, ι, ρ, S, sm, r, post_bind (R := RA' X.K) q (fun x S1 F1 ι1 v H1 x1 s1 rv q1 => ?_) stI⟩
  have fin : ∀ {p q : Bool} {a1 a2 : Addr} {vs ws : List V} {xs ys : List D}, HoK p F1 a1 vs → HoK q F1 a2 ws → RelAll X.K F1 ι1 vs xs → RelAll X.K F1 ι1 ws ys → Post ⟨X.K, X.mg, W⟩ (RI' X.K) F1 ι1 H1 σ (.ok (zipL xs ys) S1) R →
      ∃ p q a b xs ys, [V.ref a1, V.ref a2] = [.ref a, .ref b] ∧ SqK p X.K H1 a xs ∧ SqK q X.K H1 b ys ∧ R (ItM p q X.K a b) H1 := fun {p q a1 a2 vs ws xs ys} g1 g3 g2 g4 q1 =>
    ⟨p, q, a1, a2, vs, ws, rfl, sqK_of (g1.same s1.sub), sqK_of (g3.same s1.sub), q1 F1 ι1 _ H1 (Step.refl _ _ _) s1 (walks_M g1 g3 g2 g4)⟩
  split at q1
  · next xs ys =>
    obtain ⟨y, y2, rfl, ry, ry2⟩ := rel2 rv
    cases ry with
    | @lst a1 vs _ g1 g2 => cases ry2 with
      | @lst a2 ws _ g3 g4 => exact fin (p := true) (q := true) g1 g3 g2 g4 q1
  · next xs ys =>
    obtain ⟨y, y2, rfl, ry, ry2⟩ := rel2 rv
    cases ry with
    | @tp a1 vs _ g1 g2 => cases ry2 with
      | @tp a2 ws _ g3 g4 => exact fin (p := false) (q := false) g1 g3 g2 g4 q1
  · next xs ys =>
    obtain ⟨y, y2, rfl, ry, ry2⟩ := rel2 rv
    cases ry with
    | @lst a1 vs _ g1 g2 => cases ry2 with
      | @tp a2 ws _ g3 g4 => exact fin (p := true) (q := false) g1 g3 g2 g4 q1
  · next xs ys =>
    obtain ⟨y, y2, rfl, ry, ry2⟩ := rel2 rv
    cases ry with
    | @tp a1 vs _ g1 g2 => cases ry2 with
      | @lst a2 ws _ g3 g4 => exact fin (p := false) (q := true) g1 g3 g2 g4 q1
  · exact q1.elim
end
end Fk
namespace Fk
open PySem PySem.Spec PyProof.Rows L2
abbrev EX := Str → List (Str × D) → Store → Prop
structure Out.wp {α : Type} (o : Out α) (Q : α → Store → Prop) (E : EX) : Prop where
  run : match o with
    | .ok a S => Q a S
    | .exc c fs S => E c fs S
    | .stuck => False
structure KS where
  nx : Env → Store → Prop
  rt : D → Store → Prop
  bk : Env → Store → Prop
  ct : Env → Store → Prop
  ex : Str → List (Str × D) → Env → Store → Prop
structure OutS.wp (o : OutS) (k : KS) : Prop where
  run : match o with
    | .nx ρ S => k.nx ρ S
    | .rt d S => k.rt d S
    | .bk ρ S => k.bk ρ S
    | .ct ρ S => k.ct ρ S
    | .exc c fs ρ S => k.ex c fs ρ S
    | .stuck => False
section
variable {α β : Type} {Q : α → Store → Prop} {E : EX} {ρ : Env} {S : Store} {k : KS}
theorem Out.wp.mono {o : Out α} {Q Q' : α → Store → Prop} {E E' : EX} (h : o.wp Q E) (hq : ∀ a S, Q a S → Q' a S) (he : ∀ c fs S, E c fs S → E' c fs S) : o.wp Q' E' := by
  cases o with
  | ok a S => exact ⟨hq _ _ h.run⟩
  | exc c fs S => exact ⟨he _ _ _ h.run⟩
  | stuck => exact h.run.elim
theorem Out.wp.conseq {o : Out α} {Q Q' : α → Store → Prop} {E : EX} (h : o.wp Q E) (hq : ∀ a S, Q a S → Q' a S) : o.wp Q' E := h.mono hq fun _ _ _ z => z
/-- no exception comes -/
theorem Out.wp.no {o : Out α} {Q Q' : α → Store → Prop} {E : EX} (h : o.wp Q fun _ _ _ => False) (hq : ∀ a S, Q a S → Q' a S) : o.wp Q' E := h.mono hq fun _ _ _ z => z.elim
@[simp] theorem wp_ok (a : α) : (Out.ok a S).wp Q E = Q a S := propext ⟨fun h => h.run, fun h => ⟨h⟩⟩
@[simp] theorem wp_exc (c : Str) (fs : List (Str × D)) : (Out.exc c fs S : Out α).wp Q E = E c fs S := propext ⟨fun h => h.run, fun h => ⟨h⟩⟩
@[simp] theorem wp_stuck : (Out.stuck : Out α).wp Q E = False := propext ⟨fun h => h.run, fun h => ⟨h⟩⟩
@[simp] theorem wp_bind (o : Out α) (f : α → Store → Out β) (Q : β → Store → Prop) : (o.bind f).wp Q E = o.wp (fun a S => (f a S).wp Q E) E := by cases o <;> simp
@[simp] theorem wp_lift (o : Option α) : (lift o S).wp Q E = ∃ a, o = some a ∧ Q a S := by cases o <;> simp [lift]
theorem wp_ite (c : Prop) [Decidable c] (a b : Out α) : (if c then a else b).wp Q E = if c then a.wp Q E else b.wp Q E := by split <;> rfl
@[simp] theorem wp_itestuck (c : Prop) [Decidable c] (a : Out α) : (if c then a else .stuck).wp Q E = (c ∧ a.wp Q E) := by split <;> simp_all
@[simp] theorem wpS_nx : (OutS.nx ρ S).wp k = k.nx ρ S := propext ⟨fun h => h.run, fun h => ⟨h⟩⟩
@[simp] theorem wpS_rt (d : D) : (OutS.rt d S).wp k = k.rt d S := propext ⟨fun h => h.run, fun h => ⟨h⟩⟩
@[simp] theorem wpS_bk : (OutS.bk ρ S).wp k = k.bk ρ S := propext ⟨fun h => h.run, fun h => ⟨h⟩⟩
@[simp] theorem wpS_ct : (OutS.ct ρ S).wp k = k.ct ρ S := propext ⟨fun h => h.run, fun h => ⟨h⟩⟩
@[simp] theorem wpS_exc (c : Str) (fs : List (Str × D)) : (OutS.exc c fs ρ S).wp k = k.ex c fs ρ S := propext ⟨fun h => h.run, fun h => ⟨h⟩⟩
@[simp] theorem wpS_stuck : OutS.stuck.wp k = False := propext ⟨fun h => h.run, fun h => ⟨h⟩⟩
@[simp] theorem wpS_toS (o : Out α) (f : α → Store → OutS) : (toS o ρ f).wp k = o.wp (fun a S => (f a S).wp k) (fun c fs S => k.ex c fs ρ S) := by cases o <;> simp [toS]
theorem wpS_mono {o : OutS} {k k' : KS} (h : o.wp k) (h1 : ∀ ρ S, k.nx ρ S → k'.nx ρ S) (h2 : ∀ d S, k.rt d S → k'.rt d S) (h3 : ∀ ρ S, k.bk ρ S → k'.bk ρ S) (h4 : ∀ ρ S, k.ct ρ S → k'.ct ρ S) (h5 : ∀ c fs ρ S, k.ex c fs ρ S → k'.ex c fs ρ S) : o.wp k' := by
  cases o with
  | nx ρ S => exact ⟨h1 _ _ h.run⟩
  | rt d S => exact ⟨h2 _ _ h.run⟩
  | bk ρ S => exact ⟨h3 _ _ h.run⟩
  | ct ρ S => exact ⟨h4 _ _ h.run⟩
  | exc c fs ρ S => exact ⟨h5 _ _ _ _ h.run⟩
  | stuck => exact h.run.elim
def kEx (k : KS) (ρ : Env) : EX := fun c fs S => k.ex c fs ρ S
@[simp] theorem kEx_eq (c : Str) (fs : List (Str × D)) : kEx k ρ c fs S = k.ex c fs ρ S := rfl
def kSeq (h : SemS) (k : KS) : KS := { k with nx := fun ρ S => (h ρ S).wp k }
@[simp] theorem kSeq_nx (h : SemS) : (kSeq h k).nx ρ S = (h ρ S).wp k := rfl
@[simp] theorem kSeq_rt (h : SemS) : (kSeq h k).rt = k.rt := rfl
@[simp] theorem kSeq_bk (h : SemS) : (kSeq h k).bk = k.bk := rfl
@[simp] theorem kSeq_ct (h : SemS) : (kSeq h k).ct = k.ct := rfl
@[simp] theorem kSeq_ex (h : SemS) : (kSeq h k).ex = k.ex := rfl
@[simp] theorem kEx_seq (h : SemS) : kEx (kSeq h k) ρ = kEx k ρ := rfl
@[simp] theorem wp_sNext : (sNext ρ S).wp k = k.nx ρ S := wpS_nx
def kAsg (i : Nat) (ρ : Env) (k : KS) (d : D) (S : Store) : Prop := k.nx (ρ.set i (some d)) S
@[simp] theorem kAsg_eq (i : Nat) (d : D) : kAsg i ρ k d S = k.nx (ρ.set i (some d)) S := rfl
@[simp] theorem wp_sAsg (i : Nat) (f : SemE) : (sAsg i f ρ S).wp k = (f ρ S).wp (kAsg i ρ k) (kEx k ρ) := by
  simp only [sAsg, wpS_toS, wpS_nx]
  rfl
def kExp (ρ : Env) (k : KS) (_ : D) (S : Store) : Prop := k.nx ρ S
@[simp] theorem kExp_eq (d : D) : kExp ρ k d S = k.nx ρ S := rfl
@[simp] theorem wp_sExp (f : SemE) : (sExp f ρ S).wp k = (f ρ S).wp (kExp ρ k) (kEx k ρ) := by
  simp only [sExp, wpS_toS, wpS_nx]
  rfl
@[simp] theorem wp_sRet (f : SemE) : (sRet f ρ S).wp k = (f ρ S).wp k.rt (kEx k ρ) := by
  simp only [sRet, wpS_toS, wpS_rt]
  rfl
@[simp] theorem wp_sRetN : (sRetN ρ S).wp k = k.rt .non S := wpS_rt _
@[simp] theorem wp_sSeq (g h : SemS) : (sSeq g h ρ S).wp k = (g ρ S).wp (kSeq h k) := by
  unfold sSeq
  cases g ρ S <;> simp
theorem wpS_ite (c : Prop) [Decidable c] (a b : OutS) : (if c then a else b).wp k = if c then a.wp k else b.wp k := by split <;> rfl
def kIf (g h : SemS) (ρ : Env) (k : KS) (b : Bool) (S : Store) : Prop := if b then (g ρ S).wp k else (h ρ S).wp k
@[simp] theorem kIf_t (g h : SemS) : kIf g h ρ k true S = (g ρ S).wp k := rfl
@[simp] theorem kIf_f (g h : SemS) : kIf g h ρ k false S = (h ρ S).wp k := rfl
@[simp] theorem wp_sIf (t : SemT) (g h : SemS) : (sIf t g h ρ S).wp k = (t ρ S).wp (kIf g h ρ k) (kEx k ρ) := by
  simp only [sIf, wpS_toS, wpS_ite]
  rfl
def kAsgT (g : SemG) (ρ : Env) (k : KS) (d : D) (S : Store) : Prop := ∃ ρ1, g d ρ S = some ρ1 ∧ k.nx ρ1 S
@[simp] theorem kAsgT_eq (g : SemG) (d : D) : kAsgT g ρ k d S = ∃ ρ1, g d ρ S = some ρ1 ∧ k.nx ρ1 S := rfl
@[simp] theorem wp_sAsgT (g : SemG) (f : SemE) : (sAsgT g f ρ S).wp k = (f ρ S).wp (kAsgT g ρ k) (kEx k ρ) := by
  simp only [sAsgT, wpS_toS]
  congr 1
  funext d S1
  rw [kAsgT_eq]
  cases g d ρ S1 <;> simp
def kPar (i j : Nat) (ρ : Env) (k : KS) (ds : List D) (S : Store) : Prop := match ds with
  | [d, e] => k.nx ((ρ.set i (some d)).set j (some e)) S
  | _ => False
@[simp] theorem kPar_eq (i j : Nat) (d e : D) : kPar i j ρ k [d, e] S = k.nx ((ρ.set i (some d)).set j (some e)) S := rfl
@[simp] theorem wp_sPar (i j : Nat) (fa : SemA) : (sPar i j fa ρ S).wp k = (fa ρ S).wp (kPar i j ρ k) (kEx k ρ) := by
  simp only [sPar, wpS_toS]
  congr 1
  funext ds S1
  match ds with
  | [] => simp [kPar]
  | [_] => simp [kPar]
  | [d, e] => simp [kPar]
  | _ :: _ :: _ :: _ => simp [kPar]
def kAug (i : Nat) (op : Int → Int → Int) (a : Int) (ρ : Env) (k : KS) (d : D) (S : Store) : Prop := ∃ b, d = .int b ∧ k.nx (ρ.set i (some (.int (op a b)))) S
@[simp] theorem kAug_eq (i : Nat) (op : Int → Int → Int) (a : Int) (d : D) : kAug i op a ρ k d S = ∃ b, d = .int b ∧ k.nx (ρ.set i (some (.int (op a b)))) S := rfl
@[simp] theorem wp_sAug (i : Nat) (op : Int → Int → Int) (f : SemE) : (sAug i op f ρ S).wp k = ∃ a, ρ[i]? = some (some (.int a)) ∧ (f ρ S).wp (kAug i op a ρ k) (kEx k ρ) := by
  unfold sAug
  split
  · next a e =>
    simp only [wpS_toS]
    apply propext
    constructor
    · intro h
      refine ⟨a, by simp [e], h.conseq fun d S1 hd => ?_⟩
      cases d <;> simp_all
    · rintro ⟨a', e', h⟩
      rw [e] at e'
      cases e'
      refine h.conseq fun d S1 ⟨b, hb, hk⟩ => ?_
      subst hb
      simpa using hk
  · next hn =>
    simp only [wpS_stuck, false_iff, eq_iff_iff, not_exists, not_and]
    intro a e
    exact absurd e (hn a)
def kSI1 (fo fi : SemE) (ρ : Env) (k : KS) (y : D) (S : Store) : Prop := (fo ρ S).wp (fun x S2 => (fi ρ S2).wp (fun i S3 => ∃ S4, setC x i y S3 = some S4 ∧ k.nx ρ S4) (kEx k ρ)) (kEx k ρ)
def kSI2 (fi : SemE) (ρ : Env) (k : KS) (y x : D) (S : Store) : Prop := (fi ρ S).wp (fun i S3 => ∃ S4, setC x i y S3 = some S4 ∧ k.nx ρ S4) (kEx k ρ)
def kSI3 (ρ : Env) (k : KS) (y x i : D) (S : Store) : Prop := ∃ S4, setC x i y S = some S4 ∧ k.nx ρ S4
@[simp] theorem kSI1_eq (fo fi : SemE) (y : D) : kSI1 fo fi ρ k y S = (fo ρ S).wp (kSI2 fi ρ k y) (kEx k ρ) := rfl
@[simp] theorem kSI2_eq (fi : SemE) (y x : D) : kSI2 fi ρ k y x S = (fi ρ S).wp (kSI3 ρ k y x) (kEx k ρ) := rfl
@[simp] theorem kSI3_eq (y x i : D) : kSI3 ρ k y x i S = ∃ S4, setC x i y S = some S4 ∧ k.nx ρ S4 := rfl
@[simp] theorem wp_sSetI (fo fi fe : SemE) : (sSetI fo fi fe ρ S).wp k = (fe ρ S).wp (kSI1 fo fi ρ k) (kEx k ρ) := by
  simp only [sSetI, wpS_toS]
  congr 1
  funext y S1
  simp only [kSI1]
  congr 1
  funext x S2
  congr 1
  funext i S3
  cases setC x i y S3 <;> simp
def kDP1 (fo fi : SemE) (ρ : Env) (k : KS) (y : D) (S : Store) : Prop := (fo ρ S).wp (fun x S2 => (fi ρ S2).wp (fun i S3 => ∃ S4, dputC x i y S3 = some S4 ∧ k.nx ρ S4) (kEx k ρ)) (kEx k ρ)
def kDP2 (fi : SemE) (ρ : Env) (k : KS) (y x : D) (S : Store) : Prop := (fi ρ S).wp (fun i S3 => ∃ S4, dputC x i y S3 = some S4 ∧ k.nx ρ S4) (kEx k ρ)
def kDP3 (ρ : Env) (k : KS) (y x i : D) (S : Store) : Prop := ∃ S4, dputC x i y S = some S4 ∧ k.nx ρ S4
@[simp] theorem kDP1_eq (fo fi : SemE) (y : D) : kDP1 fo fi ρ k y S = (fo ρ S).wp (kDP2 fi ρ k y) (kEx k ρ) := rfl
@[simp] theorem kDP2_eq (fi : SemE) (y x : D) : kDP2 fi ρ k y x S = (fi ρ S).wp (kDP3 ρ k y x) (kEx k ρ) := rfl
@[simp] theorem kDP3_eq (y x i : D) : kDP3 ρ k y x i S = ∃ S4, dputC x i y S = some S4 ∧ k.nx ρ S4 := rfl
@[simp] theorem wp_sDPut (fo fi fe : SemE) : (sDPut fo fi fe ρ S).wp k = (fe ρ S).wp (kDP1 fo fi ρ k) (kEx k ρ) := by
  simp only [sDPut, wpS_toS]
  congr 1
  funext y S1
  simp only [kDP1]
  congr 1
  funext x S2
  congr 1
  funext i S3
  cases dputC x i y S3 <;> simp
variable {f g h : SemE} {Q : D → Store → Prop} {x y d : D} {xs : List D} {b : Bool}
@[simp] theorem wp_eVar (i : Nat) : (eVar i ρ S).wp Q E = ∃ d, ρ[i]? = some (some d) ∧ Q d S := by
  unfold eVar
  split
  · next d e => simp only [wp_ok, e, Option.some.injEq, exists_eq_left']
  · next hn =>
    simp only [wp_stuck, eq_iff_iff, false_iff, not_exists, not_and]
    intro d e
    exact absurd e (hn d)
@[simp] theorem wp_eC (d : D) : (eC d ρ S).wp Q E = Q d S := wp_ok _
def kB1 {α : Type} (op : D → D → Store → Option α) (g : SemE) (ρ : Env) (Q : α → Store → Prop) (E : EX) (x : D) (S : Store) : Prop := (g ρ S).wp (fun y S2 => ∃ a, op x y S2 = some a ∧ Q a S2) E
def kB2 {α : Type} (op : D → D → Store → Option α) (x : D) (Q : α → Store → Prop) (y : D) (S : Store) : Prop := ∃ a, op x y S = some a ∧ Q a S
@[simp] theorem kB1_eq {α : Type} {Q : α → Store → Prop} (op : D → D → Store → Option α) : kB1 op g ρ Q E x S = (g ρ S).wp (kB2 op x Q) E := rfl
@[simp] theorem kB2_eq {α : Type} {Q : α → Store → Prop} (op : D → D → Store → Option α) : kB2 op x Q y S = ∃ a, op x y S = some a ∧ Q a S := rfl
@[simp] theorem wp_eBin {α : Type} {Q : α → Store → Prop} (op : D → D → Store → Option α) : (eBin op f g ρ S).wp Q E = (f ρ S).wp (kB1 op g ρ Q E) E := by
  simp only [eBin, wp_bind, wp_lift]
  rfl
def kU {α : Type} (op : D → Store → Option α) (Q : α → Store → Prop) (x : D) (S : Store) : Prop := ∃ a, op x S = some a ∧ Q a S
@[simp] theorem kU_eq {α : Type} {Q : α → Store → Prop} (op : D → Store → Option α) : kU op Q x S = ∃ a, op x S = some a ∧ Q a S := rfl
@[simp] theorem wp_eUn {α : Type} {Q : α → Store → Prop} (op : D → Store → Option α) : (eUn op f ρ S).wp Q E = (f ρ S).wp (kU op Q) E := by
  simp only [eUn, wp_bind, wp_lift]
  rfl
def kO {α : Type} (op : List D → Store → Option α) (Q : α → Store → Prop) (xs : List D) (S : Store) : Prop := ∃ a, op xs S = some a ∧ Q a S
@[simp] theorem kO_eq {α : Type} {Q : α → Store → Prop} (op : List D → Store → Option α) : kO op Q xs S = ∃ a, op xs S = some a ∧ Q a S := rfl
@[simp] theorem wp_eOps {α : Type} {Q : α → Store → Prop} (op : List D → Store → Option α) (fa : SemA) : (eOps op fa ρ S).wp Q E = (fa ρ S).wp (kO op Q) E := by
  simp only [eOps, wp_bind, wp_lift]
  rfl
@[simp] theorem wp_aNil {Q : List D → Store → Prop} : (aNil ρ S).wp Q E = Q [] S := wp_ok _
def kA1 (fa : SemA) (ρ : Env) (Q : List D → Store → Prop) (E : EX) (x : D) (S : Store) : Prop := (fa ρ S).wp (fun xs S2 => Q (x :: xs) S2) E
def kA2 (x : D) (Q : List D → Store → Prop) (xs : List D) (S : Store) : Prop := Q (x :: xs) S
@[simp] theorem kA1_eq (fa : SemA) {Q : List D → Store → Prop} : kA1 fa ρ Q E x S = (fa ρ S).wp (kA2 x Q) E := rfl
@[simp] theorem kA2_eq {Q : List D → Store → Prop} : kA2 x Q xs S = Q (x :: xs) S := rfl
@[simp] theorem wp_aCons (fa : SemA) {Q : List D → Store → Prop} : (aCons f fa ρ S).wp Q E = (f ρ S).wp (kA1 fa ρ Q E) E := by
  simp only [aCons, wp_bind, wp_ok]
  rfl
def kT (Q : D → Store → Prop) (xs : List D) (S : Store) : Prop := sz xs.length = true ∧ Q (.tup xs) S
@[simp] theorem kT_eq : kT Q xs S = (sz xs.length = true ∧ Q (.tup xs) S) := rfl
@[simp] theorem wp_eTup (fa : SemA) : (eTup fa ρ S).wp Q E = (fa ρ S).wp (kT Q) E := by
  simp only [eTup, wp_bind, wp_itestuck, wp_ok]
  rfl
def kD (Q : List D → Store → Prop) (xs : List D) (S : Store) : Prop := sz xs.length = true ∧ Q xs S
@[simp] theorem kD_eq {Q : List D → Store → Prop} : kD Q xs S = (sz xs.length = true ∧ Q xs S) := rfl
@[simp] theorem wp_lDisp (fa : SemA) {Q : List D → Store → Prop} : (lDisp fa ρ S).wp Q E = (fa ρ S).wp (kD Q) E := by
  simp only [lDisp, wp_bind, wp_itestuck, wp_ok]
  rfl
def kF (Q : D → Store → Prop) (xs : List D) (S : Store) : Prop := Q (.lst xs) S
@[simp] theorem kF_eq : kF Q xs S = Q (.lst xs) S := rfl
@[simp] theorem wp_frz (fa : SemA) : (frz fa ρ S).wp Q E = (fa ρ S).wp (kF Q) E := by
  simp only [frz, wp_bind, wp_ok]
  rfl
def kC (Q : D → Store → Prop) (xs : List D) (S : Store) : Prop := closedA S.length xs = true ∧ Q (.ref S.length) (S ++ [.lst true xs])
@[simp] theorem kC_eq : kC Q xs S = (closedA S.length xs = true ∧ Q (.ref S.length) (S ++ [.lst true xs])) := rfl
@[simp] theorem wp_cellL (fa : SemA) : (cellL fa ρ S).wp Q E = (fa ρ S).wp (kC Q) E := by
  simp only [cellL, wp_bind, wp_itestuck, wp_ok]
  rfl
@[simp] theorem wp_asB (d : D) {Q : Bool → Store → Prop} : (asB d S).wp Q E = ∃ b, d = .bl b ∧ Q b S := by cases d <;> simp [asB]
def kTB (Q : Bool → Store → Prop) (d : D) (S : Store) : Prop := ∃ b, d = .bl b ∧ Q b S
@[simp] theorem kTB_eq {Q : Bool → Store → Prop} : kTB Q d S = ∃ b, d = .bl b ∧ Q b S := rfl
@[simp] theorem wp_tOfE {Q : Bool → Store → Prop} : (tOfE f ρ S).wp Q E = (f ρ S).wp (kTB Q) E := by
  simp only [tOfE, wp_bind, wp_asB]
  rfl
def kAnd (u : SemT) (ρ : Env) (Q : Bool → Store → Prop) (E : EX) (b : Bool) (S : Store) : Prop := if b then (u ρ S).wp Q E else Q false S
@[simp] theorem kAnd_t (u : SemT) {Q : Bool → Store → Prop} : kAnd u ρ Q E true S = (u ρ S).wp Q E := rfl
@[simp] theorem kAnd_f (u : SemT) {Q : Bool → Store → Prop} : kAnd u ρ Q E false S = Q false S := rfl
@[simp] theorem wp_sAnd (t u : SemT) {Q : Bool → Store → Prop} : (sAnd t u ρ S).wp Q E = (t ρ S).wp (kAnd u ρ Q E) E := by
  simp only [sAnd, wp_bind, wp_ite, wp_ok]
  rfl
def kOr (u : SemT) (ρ : Env) (Q : Bool → Store → Prop) (E : EX) (b : Bool) (S : Store) : Prop := if b then Q true S else (u ρ S).wp Q E
@[simp] theorem kOr_t (u : SemT) {Q : Bool → Store → Prop} : kOr u ρ Q E true S = Q true S := rfl
@[simp] theorem kOr_f (u : SemT) {Q : Bool → Store → Prop} : kOr u ρ Q E false S = (u ρ S).wp Q E := rfl
@[simp] theorem wp_sOr (t u : SemT) {Q : Bool → Store → Prop} : (sOr t u ρ S).wp Q E = (t ρ S).wp (kOr u ρ Q E) E := by
  simp only [sOr, wp_bind, wp_ite, wp_ok]
  rfl
def kNot (Q : Bool → Store → Prop) (b : Bool) (S : Store) : Prop := Q (!b) S
@[simp] theorem kNot_eq {Q : Bool → Store → Prop} : kNot Q b S = Q (!b) S := rfl
@[simp] theorem wp_sNot (t : SemT) {Q : Bool → Store → Prop} : (sNot t ρ S).wp Q E = (t ρ S).wp (kNot Q) E := by
  simp only [sNot, wp_bind, wp_ok]
  rfl
def kVA (g : SemE) (ρ : Env) (Q : D → Store → Prop) (E : EX) (x : D) (S : Store) : Prop := match x with
  | .bl true => (g ρ S).wp Q E
  | .bl false => Q (.bl false) S
  | _ => False
@[simp] theorem kVA_t : kVA g ρ Q E (.bl true) S = (g ρ S).wp Q E := rfl
@[simp] theorem kVA_f : kVA g ρ Q E (.bl false) S = Q (.bl false) S := rfl
@[simp] theorem wp_vAnd : (vAnd f g ρ S).wp Q E = (f ρ S).wp (kVA g ρ Q E) E := by
  simp only [vAnd, wp_bind, wp_asB, wp_ite, wp_ok]
  congr 1
  funext x S1
  cases x with
  | bl b => cases b <;> simp
  | _ => simp [kVA]
def kVO (g : SemE) (ρ : Env) (Q : D → Store → Prop) (E : EX) (x : D) (S : Store) : Prop := match x with
  | .bl true => Q (.bl true) S
  | .bl false => (g ρ S).wp Q E
  | _ => False
@[simp] theorem kVO_t : kVO g ρ Q E (.bl true) S = Q (.bl true) S := rfl
@[simp] theorem kVO_f : kVO g ρ Q E (.bl false) S = (g ρ S).wp Q E := rfl
@[simp] theorem wp_vOr : (vOr f g ρ S).wp Q E = (f ρ S).wp (kVO g ρ Q E) E := by
  simp only [vOr, wp_bind, wp_asB, wp_ite, wp_ok]
  congr 1
  funext x S1
  cases x with
  | bl b => cases b <;> simp
  | _ => simp [kVO]
def kVN (Q : D → Store → Prop) (x : D) (S : Store) : Prop := ∃ b, x = .bl b ∧ Q (.bl (!b)) S
@[simp] theorem kVN_eq : kVN Q x S = ∃ b, x = .bl b ∧ Q (.bl (!b)) S := rfl
@[simp] theorem wp_vNot : (vNot f ρ S).wp Q E = (f ρ S).wp (kVN Q) E := by
  simp only [vNot, wp_bind, wp_asB, wp_ok]
  rfl
def kEI {α : Type} (f g : Env → Store → Out α) (ρ : Env) (Q : α → Store → Prop) (E : EX) (b : Bool) (S : Store) : Prop := if b then (f ρ S).wp Q E else (g ρ S).wp Q E
@[simp] theorem kEI_t {α : Type} {Q : α → Store → Prop} (f g : Env → Store → Out α) : kEI f g ρ Q E true S = (f ρ S).wp Q E := rfl
@[simp] theorem kEI_f {α : Type} {Q : α → Store → Prop} (f g : Env → Store → Out α) : kEI f g ρ Q E false S = (g ρ S).wp Q E := rfl
@[simp] theorem wp_eIf {α : Type} {Q : α → Store → Prop} (t : SemT) (f g : Env → Store → Out α) : (eIf t f g ρ S).wp Q E = (t ρ S).wp (kEI f g ρ Q E) E := by
  simp only [eIf, wp_bind, wp_ite]
  rfl
def kH1 (op op' : D → D → Store → Option D) (g h : SemE) (ρ : Env) (Q : D → Store → Prop) (E : EX) (x : D) (S : Store) : Prop := (g ρ S).wp (fun y S2 => ∃ z, op x y S2 = some z ∧ ∃ b, z = .bl b ∧ (if b then (h ρ S2).wp (fun w S5 => ∃ a, op' y w S5 = some a ∧ Q a S5) E else Q (.bl false) S2)) E
def kH2 (op op' : D → D → Store → Option D) (h : SemE) (ρ : Env) (Q : D → Store → Prop) (E : EX) (x y : D) (S : Store) : Prop := ∃ z, op x y S = some z ∧ ∃ b, z = .bl b ∧ (if b then (h ρ S).wp (kB2 op' y Q) E else Q (.bl false) S)
@[simp] theorem kH1_eq (op op' : D → D → Store → Option D) : kH1 op op' g h ρ Q E x S = (g ρ S).wp (kH2 op op' h ρ Q E x) E := rfl
@[simp] theorem kH2_eq (op op' : D → D → Store → Option D) : kH2 op op' h ρ Q E x y S = ∃ z, op x y S = some z ∧ ∃ b, z = .bl b ∧ (if b then (h ρ S).wp (kB2 op' y Q) E else Q (.bl false) S) := rfl
@[simp] theorem wp_eChain (op op' : D → D → Store → Option D) : (eChain op op' f g h ρ S).wp Q E = (f ρ S).wp (kH1 op op' g h ρ Q E) E := by
  simp only [eChain, wp_bind, wp_lift, wp_asB, wp_ite, wp_ok]
  rfl
@[simp] theorem wp_oNone {Q : Option Int → Store → Prop} : (oNone ρ S).wp Q E = Q none S := wp_ok _
def kOS (Q : Option Int → Store → Prop) (d : D) (S : Store) : Prop := ∃ i, d = .int i ∧ Q (some i) S
@[simp] theorem kOS_eq {Q : Option Int → Store → Prop} : kOS Q d S = ∃ i, d = .int i ∧ Q (some i) S := rfl
@[simp] theorem wp_oSome {Q : Option Int → Store → Prop} : (oSome f ρ S).wp Q E = (f ρ S).wp (kOS Q) E := by
  simp only [oSome, wp_bind]
  congr 1
  funext d S1
  cases d <;> simp [asI]
def kS1 {α : Type} (op : D → Option Int → Option Int → Store → Option α) (l u : SemO) (ρ : Env) (Q : α → Store → Prop) (E : EX) (x : D) (S : Store) : Prop := (l ρ S).wp (fun lo S2 => (u ρ S2).wp (fun hi S3 => ∃ a, op x lo hi S3 = some a ∧ Q a S3) E) E
def kS2 {α : Type} (op : D → Option Int → Option Int → Store → Option α) (u : SemO) (ρ : Env) (Q : α → Store → Prop) (E : EX) (x : D) (lo : Option Int) (S : Store) : Prop := (u ρ S).wp (fun hi S3 => ∃ a, op x lo hi S3 = some a ∧ Q a S3) E
def kS3 {α : Type} (op : D → Option Int → Option Int → Store → Option α) (Q : α → Store → Prop) (x : D) (lo hi : Option Int) (S : Store) : Prop := ∃ a, op x lo hi S = some a ∧ Q a S
@[simp] theorem kS1_eq {α : Type} {Q : α → Store → Prop} (op : D → Option Int → Option Int → Store → Option α) (l u : SemO) : kS1 op l u ρ Q E x S = (l ρ S).wp (kS2 op u ρ Q E x) E := rfl
@[simp] theorem kS2_eq {α : Type} {Q : α → Store → Prop} (op : D → Option Int → Option Int → Store → Option α) (u : SemO) (lo : Option Int) : kS2 op u ρ Q E x lo S = (u ρ S).wp (kS3 op Q x lo) E := rfl
@[simp] theorem kS3_eq {α : Type} {Q : α → Store → Prop} (op : D → Option Int → Option Int → Store → Option α) (lo hi : Option Int) : kS3 op Q x lo hi S = ∃ a, op x lo hi S = some a ∧ Q a S := rfl
@[simp] theorem wp_eSl {α : Type} {Q : α → Store → Prop} (op : D → Option Int → Option Int → Store → Option α) (l u : SemO) : (eSl op f l u ρ S).wp Q E = (f ρ S).wp (kS1 op l u ρ Q E) E := by
  simp only [eSl, wp_bind, wp_lift]
  rfl
def kCall (fs : FSem) (dd : List D) (Q : D → Store → Prop) (E : EX) (ds : List D) (S : Store) : Prop := (fs (ds ++ dd) S).wp Q E
@[simp] theorem kCall_eq (fs : FSem) (dd : List D) : kCall fs dd Q E xs S = (fs (xs ++ dd) S).wp Q E := rfl
@[simp] theorem wp_eCall (fs : FSem) (dd : List D) (fa : SemA) : (eCall fs dd fa ρ S).wp Q E = (fa ρ S).wp (kCall fs dd Q E) E := by
  simp only [eCall, wp_bind]
  rfl
def kFz (Q : D → Store → Prop) (E : EX) (d : D) (S : Store) : Prop := (fzO d S).wp Q E
@[simp] theorem kFz_eq : kFz Q E d S = (fzO d S).wp Q E := rfl
@[simp] theorem wp_eFz : (eFz f ρ S).wp Q E = (f ρ S).wp (kFz Q E) E := by
  simp only [eFz, wp_bind]
  rfl
def kAp1 (g : SemE) (ρ : Env) (Q : D → Store → Prop) (E : EX) (x : D) (S : Store) : Prop := isL S x = true ∧ (g ρ S).wp (fun y S2 => (appC x y S2).wp Q E) E
def kAp2 (Q : D → Store → Prop) (E : EX) (x y : D) (S : Store) : Prop := (appC x y S).wp Q E
@[simp] theorem kAp1_eq : kAp1 g ρ Q E x S = (isL S x = true ∧ (g ρ S).wp (kAp2 Q E x) E) := rfl
@[simp] theorem kAp2_eq : kAp2 Q E x y S = (appC x y S).wp Q E := rfl
@[simp] theorem wp_eApp : (eApp f g ρ S).wp Q E = (f ρ S).wp (kAp1 g ρ Q E) E := by
  simp only [eApp, wp_bind, wp_itestuck]
  rfl
def kEt1 (g : SemE) (ρ : Env) (Q : D → Store → Prop) (E : EX) (x : D) (S : Store) : Prop := isL S x = true ∧ (g ρ S).wp (fun y S2 => (extC x y S2).wp Q E) E
def kEt2 (Q : D → Store → Prop) (E : EX) (x y : D) (S : Store) : Prop := (extC x y S).wp Q E
@[simp] theorem kEt1_eq : kEt1 g ρ Q E x S = (isL S x = true ∧ (g ρ S).wp (kEt2 Q E x) E) := rfl
@[simp] theorem kEt2_eq : kEt2 Q E x y S = (extC x y S).wp Q E := rfl
@[simp] theorem wp_eExt : (eExt f g ρ S).wp Q E = (f ρ S).wp (kEt1 g ρ Q E) E := by
  simp only [eExt, wp_bind, wp_itestuck]
  rfl
def kIx1 (g : SemE) (ρ : Env) (Q : D → Store → Prop) (E : EX) (x : D) (S : Store) : Prop := isL S x = true ∧ (g ρ S).wp (fun y S2 => ∃ a, opIndex x y S2 = some a ∧ Q a S2) E
@[simp] theorem kIx1_eq : kIx1 g ρ Q E x S = (isL S x = true ∧ (g ρ S).wp (kB2 opIndex x Q) E) := rfl
@[simp] theorem wp_eIdx : (eIdx f g ρ S).wp Q E = (f ρ S).wp (kIx1 g ρ Q E) E := by
  simp only [eIdx, wp_bind, wp_itestuck, wp_lift]
  rfl
def kPop (Q : D → Store → Prop) (E : EX) (x : D) (S : Store) : Prop := (popC x S).wp Q E
@[simp] theorem kPop_eq : kPop Q E x S = (popC x S).wp Q E := rfl
@[simp] theorem wp_ePop : (ePop f ρ S).wp Q E = (f ρ S).wp (kPop Q E) E := by
  simp only [ePop, wp_bind]
  rfl
abbrev eNo : EX := fun _ _ _ => False
theorem wp_noX {α : Type} (o : Out α) {Q : α → Store → Prop} : (noX o).wp Q E = o.wp Q eNo := by cases o <;> simp [noX]
@[simp] theorem wp_pNil {Q : List (Key × D) → Store → Prop} : (pNil ρ S).wp Q E = Q [] S := wp_ok _
def kP1 (key : Key) (gp : SemP) (ρ : Env) (Q : List (Key × D) → Store → Prop) (E : EX) (x : D) (S : Store) : Prop := (gp ρ S).wp (fun xs S2 => Q ((key, x) :: xs) S2) E
def kP2 (key : Key) (x : D) (Q : List (Key × D) → Store → Prop) (kds : List (Key × D)) (S : Store) : Prop := Q ((key, x) :: kds) S
@[simp] theorem kP1_eq (key : Key) (gp : SemP) {Q : List (Key × D) → Store → Prop} : kP1 key gp ρ Q E x S = (gp ρ S).wp (kP2 key x Q) E := rfl
@[simp] theorem kP2_eq (key : Key) (kds : List (Key × D)) {Q : List (Key × D) → Store → Prop} : kP2 key x Q kds S = Q ((key, x) :: kds) S := rfl
@[simp] theorem wp_pCons (key : Key) (gp : SemP) {Q : List (Key × D) → Store → Prop} : (pCons key f gp ρ S).wp Q E = (f ρ S).wp (kP1 key gp ρ Q E) E := by
  simp only [pCons, wp_bind, wp_ok]
  rfl
@[simp] theorem wp_noXP (gp : SemP) {Q : List (Key × D) → Store → Prop} : (noXP gp ρ S).wp Q E = (gp ρ S).wp Q eNo := wp_noX _
def kDc (Q : D → Store → Prop) (kds : List (Key × D)) (S : Store) : Prop := kds.length ≤ 15 ∧ Q (.dct (mergeD kds)) S
@[simp] theorem kDc_eq (kds : List (Key × D)) : kDc Q kds S = (kds.length ≤ 15 ∧ Q (.dct (mergeD kds)) S) := rfl
@[simp] theorem wp_eDct (gp : SemP) : (eDct gp ρ S).wp Q E = (gp ρ S).wp (kDc Q) E := by
  simp only [eDct, wp_bind, wp_itestuck, wp_ok, decide_eq_true_eq]
  rfl
def kDcC (Q : D → Store → Prop) (kds : List (Key × D)) (S : Store) : Prop := (kds.length ≤ 15 ∧ closedV S.length (mergeD kds) = true) ∧ Q (.ref S.length) (S ++ [.dK (mergeD kds)])
@[simp] theorem kDcC_eq (kds : List (Key × D)) : kDcC Q kds S = ((kds.length ≤ 15 ∧ closedV S.length (mergeD kds) = true) ∧ Q (.ref S.length) (S ++ [.dK (mergeD kds)])) := rfl
@[simp] theorem wp_eDctC (gp : SemP) : (eDctC gp ρ S).wp Q E = (gp ρ S).wp (kDcC Q) E := by
  simp only [eDctC, wp_bind, wp_itestuck, wp_ok, Bool.and_eq_true, decide_eq_true_eq]
  rfl
def kIt (Q : List D → Store → Prop) (E : EX) (d : D) (S : Store) : Prop := (itOf d S).wp Q E
@[simp] theorem kIt_eq {Q : List D → Store → Prop} : kIt Q E d S = (itOf d S).wp Q E := rfl
@[simp] theorem wp_itSeq {Q : List D → Store → Prop} : (itSeq f ρ S).wp Q E = (f ρ S).wp (kIt Q E) E := by
  simp only [itSeq, wp_bind]
  rfl
def kR1 (Q : List D → Store → Prop) (ds : List D) (S : Store) : Prop := ∃ j, ds = [.int j] ∧ okR j = true ∧ Q (rng 0 j.toNat) S
@[simp] theorem kR1_eq {Q : List D → Store → Prop} : kR1 Q xs S = ∃ j, xs = [.int j] ∧ okR j = true ∧ Q (rng 0 j.toNat) S := rfl
@[simp] theorem wp_itR1 (fa : SemA) {Q : List D → Store → Prop} : (itR1 fa ρ S).wp Q E = (fa ρ S).wp (kR1 Q) E := by
  simp only [itR1, wp_bind]
  congr 1
  funext ds S1
  match ds with
  | [] => simp
  | [.int j] => simp
  | [.non] => simp
  | [.bl _] => simp
  | [.str _] => simp
  | [.tup _] => simp
  | [.ktp _] => simp
  | [.lst _] => simp
  | [.dct _] => simp
  | [.ref _] => simp
  | [.scr _] => simp
  | [.exn _ _ _] => simp
  | _ :: _ :: _ => simp
def kR2 (Q : List D → Store → Prop) (ds : List D) (S : Store) : Prop := match ds with
  | [.int i, .int j] => (okR i = true ∧ okR j = true) ∧ Q (rng i (j - i).toNat) S
  | _ => False
@[simp] theorem kR2_eq {Q : List D → Store → Prop} (i j : Int) : kR2 Q [.int i, .int j] S = ((okR i = true ∧ okR j = true) ∧ Q (rng i (j - i).toNat) S) := rfl
@[simp] theorem wp_itR2 (fa : SemA) {Q : List D → Store → Prop} : (itR2 fa ρ S).wp Q E = (fa ρ S).wp (kR2 Q) E := by
  simp only [itR2, wp_bind]
  congr 1
  funext ds S1
  unfold kR2
  split <;> simp
def kZip (Q : List D → Store → Prop) (ds : List D) (S : Store) : Prop := match ds with
  | [.lst xs, .lst ys] => Q (zipL xs ys) S
  | [.tup xs, .tup ys] => Q (zipL xs ys) S
  | [.lst xs, .tup ys] => Q (zipL xs ys) S
  | [.tup xs, .lst ys] => Q (zipL xs ys) S
  | _ => False
@[simp] theorem kZip_lt {Q : List D → Store → Prop} (xs ys : List D) : kZip Q [.lst xs, .tup ys] S = Q (zipL xs ys) S := rfl
@[simp] theorem kZip_tl {Q : List D → Store → Prop} (xs ys : List D) : kZip Q [.tup xs, .lst ys] S = Q (zipL xs ys) S := rfl
@[simp] theorem kZip_l {Q : List D → Store → Prop} (xs ys : List D) : kZip Q [.lst xs, .lst ys] S = Q (zipL xs ys) S := rfl
@[simp] theorem kZip_t {Q : List D → Store → Prop} (xs ys : List D) : kZip Q [.tup xs, .tup ys] S = Q (zipL xs ys) S := rfl
@[simp] theorem wp_itZip (fa : SemA) {Q : List D → Store → Prop} : (itZip fa ρ S).wp Q E = (fa ρ S).wp (kZip Q) E := by
  simp only [itZip, wp_bind]
  congr 1
  funext ds S1
  unfold kZip
  split <;> simp
def kEn (Q : List D → Store → Prop) (ds : List D) (S : Store) : Prop := match ds with
  | [.lst xs] => Q (enumL xs) S
  | [.tup xs] => Q (enumL xs) S
  | _ => False
@[simp] theorem kEn_l {Q : List D → Store → Prop} (xs : List D) : kEn Q [.lst xs] S = Q (enumL xs) S := rfl
@[simp] theorem kEn_t {Q : List D → Store → Prop} (xs : List D) : kEn Q [.tup xs] S = Q (enumL xs) S := rfl
@[simp] theorem wp_itEnum (fa : SemA) {Q : List D → Store → Prop} : (itEnum fa ρ S).wp Q E = (fa ρ S).wp (kEn Q) E := by
  simp only [itEnum, wp_bind]
  congr 1
  funext ds S1
  unfold kEn
  split <;> simp
def kLC (gg : SemG) (t : SemT) (e : SemE) (ρ : Env) (Q : List D → Store → Prop) (E : EX) (xs : List D) (S : Store) : Prop := (compGo (compStep gg t e ρ) xs [] S).wp Q E
@[simp] theorem kLC_eq (gg : SemG) (t : SemT) (e : SemE) {Q : List D → Store → Prop} : kLC gg t e ρ Q E xs S = (compGo (compStep gg t e ρ) xs [] S).wp Q E := rfl
@[simp] theorem wp_lComp (it : SemA) (g : SemG) (t : SemT) (e : SemE) (vs : List Nat) {Q : List D → Store → Prop} : (lComp it g t e vs ρ S).wp Q E = (it ρ S).wp (kLC g t e (wipeD ρ vs) Q E) E := by
  simp only [lComp, wp_bind]
  rfl
def forB (g : SemG) (b : SemS) : D → Env → Store → OutS := fun x ρ S => match g x ρ S with
  | some ρ1 => b ρ1 S
  | none => .stuck
@[simp] theorem wp_forB (g : SemG) (b : SemS) (x : D) : (forB g b x ρ S).wp k = ∃ ρ1, g x ρ S = some ρ1 ∧ (b ρ1 S).wp k := by
  unfold forB
  cases g x ρ S <;> simp
def kFor (gg : SemG) (bb : SemS) (ρ : Env) (k : KS) (xs : List D) (S : Store) : Prop := (forL (forB gg bb) xs ρ S).wp k
@[simp] theorem kFor_eq (gg : SemG) (bb : SemS) : kFor gg bb ρ k xs S = (forL (forB gg bb) xs ρ S).wp k := rfl
@[simp] theorem wp_sFor (it : SemA) (g : SemG) (b : SemS) : (sFor it g b ρ S).wp k = (it ρ S).wp (kFor g b ρ k) (kEx k ρ) := by
  unfold sFor
  rw [wpS_toS]
  rfl
@[simp] theorem gN_eq (i : Nat) (d : D) : gN i d ρ S = some (ρ.set i (some d)) := rfl
def gcQ (n : Nat) (Q : D → Store → Prop) (d : D) (S : Store) : Prop := if closed n d then Q d (S.take n) else Q d S
def gcE (n : Nat) (E : EX) : EX := fun c fs S => if closedV n fs then E c fs (S.take n) else E c fs S
def KS.fn (n : Nat) (Q : D → Store → Prop) (E : EX) : KS := ⟨fun _ S => Q .non (S.take n), gcQ n Q, fun _ _ => False, fun _ _ => False, fun c fs _ S => gcE n E c fs S⟩
@[simp] theorem fn_nx (n : Nat) (Q : D → Store → Prop) (E : EX) : (KS.fn n Q E).nx ρ S = Q .non (S.take n) := rfl
@[simp] theorem fn_rt (n : Nat) (Q : D → Store → Prop) (E : EX) (d : D) : (KS.fn n Q E).rt d S = gcQ n Q d S := rfl
@[simp] theorem fn_bk (n : Nat) (Q : D → Store → Prop) (E : EX) : (KS.fn n Q E).bk ρ S = False := rfl
@[simp] theorem fn_ct (n : Nat) (Q : D → Store → Prop) (E : EX) : (KS.fn n Q E).ct ρ S = False := rfl
@[simp] theorem fn_ex (n : Nat) (Q : D → Store → Prop) (E : EX) (c : Str) (fs : List (Str × D)) : (KS.fn n Q E).ex c fs ρ S = gcE n E c fs S := rfl
theorem wp_fnD (n : Nat) (b : SemS) (ds : List D) : (fnD n b ds S).wp Q E = (b (startD n ds) S).wp (KS.fn S.length Q E) := by
  unfold fnD
  cases b (startD n ds) S with
  | nx ρ S1 => simp [endOf, gc, closed]
  | rt d S1 =>
    simp only [endOf, gc, wpS_rt, fn_rt, gcQ]
    split <;> simp
  | bk ρ S1 => simp [endOf, gc]
  | ct ρ S1 => simp [endOf, gc]
  | exc c fs ρ S1 =>
    simp only [endOf, gc, wpS_exc, fn_ex, gcE]
    split <;> simp
  | stuck => simp [endOf, gc]
theorem gcQ_cl {n : Nat} {d : D} (hc : closed n d = true) (h : Q d (S.take n)) : gcQ n Q d S := by
  unfold gcQ
  rw [if_pos hc]
  exact h
theorem rt_cl {n : Nat} {d : D} (hc : closed n d = true) (h : Q d (S.take n)) : (KS.fn n Q E).rt d S := gcQ_cl hc h
theorem wp_forL {b : D → Env → Store → OutS} {xs : List D} (I : List D → Env → Store → Prop) (h0 : I xs ρ S)
    (hs : ∀ x xs ρ S, I (x :: xs) ρ S → (b x ρ S).wp ⟨I xs, k.rt, k.nx, I xs, k.ex⟩) (hd : ∀ ρ S, I [] ρ S → k.nx ρ S) : (forL b xs ρ S).wp k := by
  induction xs generalizing ρ S with
  | nil => exact ⟨hd _ _ h0⟩
  | cons x xs ih =>
    have h1 := (hs x xs ρ S h0).run
    unfold forL
    cases e : b x ρ S with
    | nx ρ1 S1 => rw [e] at h1; exact ih h1
    | ct ρ1 S1 => rw [e] at h1; exact ih h1
    | bk ρ1 S1 => rw [e] at h1; exact ⟨h1⟩
    | rt d S1 => rw [e] at h1; exact ⟨h1⟩
    | exc c fs ρ1 S1 => rw [e] at h1; exact ⟨h1⟩
    | stuck => rw [e] at h1; exact h1.elim
theorem wp_whileN {t : SemT} {b : SemS} (I : Nat → Env → Store → Prop)
    (hs : ∀ n ρ S, I n ρ S → (t ρ S).wp (fun c S1 => if c then (b ρ S1).wp ⟨fun ρ' S' => ∃ m, m < n ∧ I m ρ' S', k.rt, k.nx, fun ρ' S' => ∃ m, m < n ∧ I m ρ' S', k.ex⟩ else k.nx ρ S1) (fun c fs S => k.ex c fs ρ S)) :
    ∀ (n : Nat) (ρ : Env) (S : Store), I n ρ S → ∃ N, (whileN t b N ρ S).wp k := by
  intro n
  induction n using Nat.strongRecOn with
  | ind n ih =>
    intro ρ S h
    have h1 := (hs n ρ S h).run
    cases e : t ρ S with
    | stuck => rw [e] at h1; exact h1.elim
    | exc c fs S1 =>
      rw [e] at h1
      refine ⟨1, ?_⟩
      unfold whileN
      rw [e]
      exact ⟨h1⟩
    | ok c S1 =>
      rw [e] at h1
      simp only at h1
      cases c with
      | false =>
        refine ⟨1, ?_⟩
        unfold whileN
        rw [e]
        exact ⟨h1⟩
      | true =>
        simp only [if_true] at h1
        have h1 := h1.run
        cases e2 : b ρ S1 with
        | nx ρ1 S2 =>
          rw [e2] at h1
          obtain ⟨m, hm, hI⟩ := h1
          obtain ⟨N, hN⟩ := ih m hm ρ1 S2 hI
          refine ⟨N + 1, ?_⟩
          unfold whileN
          rw [e]
          simp only [toS, if_true, e2]
          exact hN
        | ct ρ1 S2 =>
          rw [e2] at h1
          obtain ⟨m, hm, hI⟩ := h1
          obtain ⟨N, hN⟩ := ih m hm ρ1 S2 hI
          refine ⟨N + 1, ?_⟩
          unfold whileN
          rw [e]
          simp only [toS, if_true, e2]
          exact hN
        | bk ρ1 S2 =>
          rw [e2] at h1
          refine ⟨1, ?_⟩
          unfold whileN
          rw [e]
          simp only [toS, if_true, e2]
          exact ⟨h1⟩
        | rt d S2 =>
          rw [e2] at h1
          refine ⟨1, ?_⟩
          unfold whileN
          rw [e]
          simp only [toS, if_true, e2]
          exact ⟨h1⟩
        | exc c fs ρ1 S2 =>
          rw [e2] at h1
          refine ⟨1, ?_⟩
          unfold whileN
          rw [e]
          simp only [toS, if_true, e2]
          exact ⟨h1⟩
        | stuck => rw [e2] at h1; exact h1.elim
theorem wp_sWhile {t : SemT} {b : SemS} (I : Nat → Env → Store → Prop) (n : Nat) (h0 : I n ρ S)
    (hs : ∀ n ρ S, I n ρ S → (t ρ S).wp (fun c S1 => if c then (b ρ S1).wp ⟨fun ρ' S' => ∃ m, m < n ∧ I m ρ' S', k.rt, k.nx, fun ρ' S' => ∃ m, m < n ∧ I m ρ' S', k.ex⟩ else k.nx ρ S1) (fun c fs S => k.ex c fs ρ S)) : (sWhile t b ρ S).wp k := by
  obtain ⟨N, hN⟩ := wp_whileN I hs n ρ S h0
  rw [sWhile_eq rfl (fun z => by rw [z] at hN; exact hN.run)]
  exact hN
theorem wp_compGo {F : D → Store → Out (Option D)} {Q : List D → Store → Prop} (I : List D → List D → Store → Prop) {xs acc : List D} (h0 : I xs acc S)
    (hs : ∀ x xs acc S, I (x :: xs) acc S → (F x S).wp (fun o S' => match o with | some y => sz acc.length = true ∧ I xs (acc ++ [y]) S' | none => I xs acc S') E) (hd : ∀ acc S, I [] acc S → Q acc S) : (compGo F xs acc S).wp Q E := by
  induction xs generalizing acc S with
  | nil => exact ⟨hd _ _ h0⟩
  | cons x xs ih =>
    have h1 := hs x xs acc S h0
    unfold compGo
    rw [wp_bind]
    refine h1.conseq fun o S' ho => ?_
    cases o with
    | some y =>
      simp only [wp_itestuck]
      exact ⟨ho.1, ih ho.2⟩
    | none => exact ih ho
/-- a pure map -/
theorem compGo_map {F : D → Store → Out (Option D)} {h : D → D} {S : Store} : ∀ {xs acc : List D}, (∀ x ∈ xs, F x S = .ok (some (h x)) S) → acc.length + xs.length ≤ 4000000 → compGo F xs acc S = .ok (acc ++ xs.map h) S
  | [], acc, _, _ => by simp [compGo]
  | x :: xs, acc, hF, hl => by
    unfold compGo
    rw [hF x List.mem_cons_self]
    simp only [Out.ok_bind]
    rw [if_pos (show sz acc.length = true by simp [sz]; simp at hl; omega), compGo_map (fun y hy => hF y (List.mem_cons_of_mem _ hy)) (by simp at hl ⊢; omega)]
    simp
def kCs (e : SemE) (ρ : Env) (Q : Option D → Store → Prop) (b : Bool) (S : Store) : Prop := if b then (e ρ S).wp (fun y S3 => Q (some y) S3) eNo else Q none S
def kCv (Q : Option D → Store → Prop) (y : D) (S : Store) : Prop := Q (some y) S
@[simp] theorem kCs_t (e : SemE) {Q : Option D → Store → Prop} : kCs e ρ Q true S = (e ρ S).wp (kCv Q) eNo := rfl
@[simp] theorem kCs_f (e : SemE) {Q : Option D → Store → Prop} : kCs e ρ Q false S = Q none S := rfl
@[simp] theorem kCv_eq {Q : Option D → Store → Prop} : kCv Q y S = Q (some y) S := rfl
@[simp] theorem wp_compStep (gg : SemG) (t : SemT) (e : SemE) (ρ : Env) (x : D) {Q : Option D → Store → Prop} : (compStep gg t e ρ x S).wp Q E = ∃ ρ1, gg x ρ S = some ρ1 ∧ (t ρ1 S).wp (kCs e ρ1 Q) eNo := by
  unfold compStep
  cases gg x ρ S with
  | none => simp
  | some ρ1 =>
    simp only [wp_bind, wp_noX, Option.some.injEq, exists_eq_left', wp_ite, wp_ok]
    rfl
@[simp] theorem wp_sYes {Q : Bool → Store → Prop} : (sYes ρ S).wp Q E = Q true S := wp_ok _
def kTry (tbl : XTbl) (hds : List (Str × Option Nat × SemS)) (k : KS) : KS := { k with ex := fun c fs ρ S => ∃ anc, tbl.at c = some anc ∧ (goH c fs anc hds ρ S).wp k }
@[simp] theorem kTry_nx (tbl : XTbl) (hds : List (Str × Option Nat × SemS)) : (kTry tbl hds k).nx = k.nx := rfl
@[simp] theorem kTry_rt (tbl : XTbl) (hds : List (Str × Option Nat × SemS)) : (kTry tbl hds k).rt = k.rt := rfl
@[simp] theorem kTry_bk (tbl : XTbl) (hds : List (Str × Option Nat × SemS)) : (kTry tbl hds k).bk = k.bk := rfl
@[simp] theorem kTry_ct (tbl : XTbl) (hds : List (Str × Option Nat × SemS)) : (kTry tbl hds k).ct = k.ct := rfl
@[simp] theorem kTry_ex (tbl : XTbl) (hds : List (Str × Option Nat × SemS)) (c : Str) (fs : List (Str × D)) : (kTry tbl hds k).ex c fs ρ S = ∃ anc, tbl.at c = some anc ∧ (goH c fs anc hds ρ S).wp k := rfl
@[simp] theorem wp_sTry (tbl : XTbl) (b : SemS) (hds : List (Str × Option Nat × SemS)) : (sTry tbl b hds ρ S).wp k = (b ρ S).wp (kTry tbl hds k) := by
  unfold sTry
  cases b ρ S with
  | exc c fs ρ1 S1 => cases h : tbl.at c <;> simp [h]
  | _ => simp
def kHd (i : Option Nat) (k : KS) : KS := ⟨fun ρ S => k.nx (unE i ρ) S, k.rt, fun ρ S => k.bk (unE i ρ) S, fun ρ S => k.ct (unE i ρ) S, fun _ _ _ _ => False⟩
@[simp] theorem kHd_nx (i : Option Nat) : (kHd i k).nx ρ S = k.nx (unE i ρ) S := rfl
@[simp] theorem kHd_rt (i : Option Nat) : (kHd i k).rt = k.rt := rfl
@[simp] theorem kHd_bk (i : Option Nat) : (kHd i k).bk ρ S = k.bk (unE i ρ) S := rfl
@[simp] theorem kHd_ct (i : Option Nat) : (kHd i k).ct ρ S = k.ct (unE i ρ) S := rfl
@[simp] theorem kHd_ex (i : Option Nat) (c : Str) (fs : List (Str × D)) : (kHd i k).ex c fs ρ S = False := rfl
@[simp] theorem unE_some (i : Nat) : unE (some i) ρ = ρ.set i none := rfl
@[simp] theorem unE_none : unE none ρ = ρ := rfl
@[simp] theorem inE_some (i : Nat) (d : D) : inE (some i) d ρ = ρ.set i (some d) := rfl
@[simp] theorem inE_none (d : D) : inE none d ρ = ρ := rfl
@[simp] theorem wp_goH_nil (c : Str) (fs : List (Str × D)) (anc : List Str) : (goH c fs anc [] ρ S).wp k = k.ex c fs ρ S := by
  unfold goH
  exact wpS_exc _ _
theorem wp_goH_yes (c : Str) (fs : List (Str × D)) (anc : List Str) (x : Str) (i : Option Nat) (g : SemS) (r : List (Str × Option Nat × SemS)) (h : anc.contains x = true) : (goH c fs anc ((x, i, g) :: r) ρ S).wp k = (g (inE i (caught c fs) ρ) S).wp (kHd i k) := by
  unfold goH
  rw [if_pos h]
  cases g (inE i (caught c fs) ρ) S <;> simp [hEnd]
def kRs (c : Str) (fl : List Str) (ρ : Env) (k : KS) (ds : List D) (S : Store) : Prop := ds.length = fl.length ∧ k.ex c (fl.zip ds) ρ S
@[simp] theorem kRs_eq (c : Str) (fl : List Str) (ds : List D) : kRs c fl ρ k ds S = (ds.length = fl.length ∧ k.ex c (fl.zip ds) ρ S) := rfl
@[simp] theorem wp_sRaise (c : Str) (fl : List Str) (fa : SemA) : (sRaise c fl fa ρ S).wp k = (fa ρ S).wp (kRs c fl ρ k) (kEx k ρ) := by
  simp only [sRaise, wpS_toS, wpS_ite, wpS_exc, wpS_stuck]
  congr 1
  funext ds S1
  simp
theorem gcE_cl {n : Nat} {c : Str} {fs : List (Str × D)} (hc : closedV n fs = true) (h : E c fs (S.take n)) : gcE n E c fs S := by
  unfold gcE
  rw [if_pos hc]
  exact h
end
end Fk
namespace Fk
open PySem PySem.Spec PyProof.Rows L2
section
variable {S : Store} {P : D → Prop} {i j : Int} {xs ys : List D}
@[simp] theorem dr_int : dr S (.int i) = .int i := rfl
@[simp] theorem dr_bl {b : Bool} : dr S (.bl b) = .bl b := rfl
@[simp] theorem dr_non : dr S .non = .non := rfl
@[simp] theorem dr_str {x : Str} : dr S (.str x) = .str x := rfl
@[simp] theorem dr_tup : dr S (.tup xs) = .tup xs := rfl
@[simp] theorem dr_lst : dr S (.lst xs) = .lst xs := rfl
@[simp] theorem dr_dct {kvs : List (Key × D)} : dr S (.dct kvs) = .dct kvs := rfl
@[simp] theorem dr_scr : dr S (.scr xs) = .scr xs := rfl
@[simp] theorem add_int : opAddA (.int i) (.int j) S = some (.int (i + j)) := rfl
@[simp] theorem sub_int : opSubA (.int i) (.int j) S = some (.int (i - j)) := rfl
@[simp] theorem neg_int : opNeg (.int i) S = some (.int (-i)) := rfl
@[simp] theorem lt_int : opLt (.int i) (.int j) S = some (.bl (decide (i < j))) := rfl
@[simp] theorem le_int : opLe (.int i) (.int j) S = some (.bl (decide (i ≤ j))) := rfl
@[simp] theorem gt_int : opGt (.int i) (.int j) S = some (.bl (decide (j < i))) := rfl
@[simp] theorem ge_int : opGe (.int i) (.int j) S = some (.bl (decide (j ≤ i))) := rfl
@[simp] theorem int_int : Fk.intD [.int i] S = some (.int i) := rfl
@[simp] theorem int_bl {b : Bool} : Fk.intD [.bl b] S = some (.int (if b then 1 else 0)) := rfl
@[simp] theorem abs_int : absDA [.int i] S = some (.int (if i < 0 then -i else i)) := rfl
@[simp] theorem len_lst : lenD [.lst xs] S = some (.int xs.length) := rfl
@[simp] theorem len_tup : lenD [.tup xs] S = some (.int xs.length) := rfl
@[simp] theorem tup_lst : tupD [.lst xs] S = some (.tup xs) := rfl
@[simp] theorem tup_tup : tupD [.tup xs] S = some (.tup xs) := rfl
@[simp] theorem lst_lst : lstD [.lst xs] S = some xs := rfl
@[simp] theorem lst_tup : lstD [.tup xs] S = some xs := rfl
@[simp] theorem isN_eq (d : D) : opIsN d .non S = some (.bl (isNon d)) := rfl
@[simp] theorem notN_eq (d : D) : opNotN d .non S = some (.bl (!isNon d)) := rfl
@[simp] theorem isNon_non : isNon .non = true := rfl
@[simp] theorem isNon_int : isNon (.int i) = false := rfl
@[simp] theorem isNon_tup : isNon (.tup xs) = false := rfl
@[simp] theorem isNon_lst : isNon (.lst xs) = false := rfl
@[simp] theorem isNon_bl {b : Bool} : isNon (.bl b) = false := rfl
@[simp] theorem it_lst : itOf (.lst xs) S = .ok xs S := rfl
@[simp] theorem it_tup : itOf (.tup xs) S = .ok xs S := rfl
@[simp] theorem it_scr : itOf (.scr xs) S = .ok xs S := rfl
@[simp] theorem ex_mulI : (∃ a, opMulA (.int i) (.int j) S = some a ∧ P a) = (mulOk i j = true ∧ P (.int (i * j))) := by
  unfold opMulA orO opMul
  by_cases h : mulOk i j = true
  · simp [h, orO, opMul]
  · simp [h, orO, opMul, opMul0, opMulB]
@[simp] theorem ex_div : (∃ a, opDiv (.int i) (.int j) S = some a ∧ P a) = (divOk j = true ∧ P (.int (i / j))) := by
  unfold opDiv
  by_cases h : divOk j = true <;> simp [h]
@[simp] theorem ex_mod : (∃ a, opMod (.int i) (.int j) S = some a ∧ P a) = (0 < j ∧ P (.int (i % j))) := by
  unfold opMod
  by_cases h : 0 < j <;> simp [h]
@[simp] theorem ex_pow : (∃ a, opPow (.int i) (.int j) S = some a ∧ P a) = (powOk i j = true ∧ P (.int (i ^ j.toNat))) := by
  unfold opPow
  by_cases h : powOk i j = true <;> simp [h]
@[simp] theorem ex_addT : (∃ a, opAddA (.tup xs) (.tup ys) S = some a ∧ P a) = (sz (xs.length + ys.length) = true ∧ P (.tup (xs ++ ys))) := by
  unfold opAddA orO opAdd
  simp only [dr_tup]
  by_cases h : sz (xs.length + ys.length) = true <;> simp [h, opAddB]
@[simp] theorem ex_addL : (∃ a, opAddA (.lst xs) (.lst ys) S = some a ∧ P a) = (sz (xs.length + ys.length) = true ∧ P (.lst (xs ++ ys))) := by
  unfold opAddA orO opAdd
  simp only [dr_lst]
  by_cases h : sz (xs.length + ys.length) = true <;> simp [h, opAddB]
theorem shaped_int : SeqAt.shaped (.int i) = true := by simp [SeqAt.shaped, PyData.canLay0, PyData.depth]
theorem shaped_bl {b : Bool} : SeqAt.shaped (.bool b) = true := by simp [SeqAt.shaped, PyData.canLay0, PyData.depth]
theorem eqA_of {d e : D} (h : opEqS d e S = none) : opEqA d e S = opEq d e S := by unfold opEqA orO; rw [h]
theorem neA_of {d e : D} (h : opNeS d e S = none) : opNeA d e S = opNe d e S := by unfold opNeA orO; rw [h]
@[simp] theorem eq_int : opEqA (.int i) (.int j) S = some (.bl (decide (i = j))) := by
  rw [eqA_of rfl]
  simp [opEq, eqD, dat, shaped_int, PyData.eqv]
  by_cases h : i = j <;> simp [h]
@[simp] theorem ne_int : opNeA (.int i) (.int j) S = some (.bl (!decide (i = j))) := by
  rw [neA_of rfl]
  simp [opNe, neD, dat, shaped_int, PyData.eqv]
  by_cases h : i = j <;> simp [h]
@[simp] theorem eq_str {x y : Str} : opEqA (.str x) (.str y) S = some (.bl (decide (x = y))) := rfl
@[simp] theorem ne_str {x y : Str} : opNeA (.str x) (.str y) S = some (.bl (!decide (x = y))) := rfl
@[simp] theorem eq_tup0 : opEqA (.tup xs) (.tup []) S = some (.bl xs.isEmpty) := rfl
theorem mulOk_of {i j : Int} (a b : Nat) (hi : i.natAbs < 2 ^ a) (hj : j.natAbs < 2 ^ b) (h : a + b ≤ 1000000) : mulOk i j = true := by
  have l : ∀ {n k : Nat}, n < 2 ^ k → n.log2 ≤ k := fun {n k} hn => by
    by_cases h0 : n = 0
    · subst h0
      simp
    · exact Nat.le_of_lt ((Nat.log2_lt h0).mpr hn)
  have l2 : ∀ {n k : Nat}, n < 2 ^ k → n.log2 < k ∨ k = 0 ∨ n = 0 := fun {n k} hn => by
    by_cases h0 : n = 0
    · exact .inr (.inr h0)
    · exact .inl ((Nat.log2_lt h0).mpr hn)
  simp only [mulOk, decide_eq_true_eq]
  have h1 := l hi
  have h2 := l hj
  rcases l2 hi with q | q | q
  · omega
  · subst q
    have : i.natAbs = 0 := by simpa using hi
    rw [this]
    rcases l2 hj with q | q | q
    · simp; omega
    · simp; omega
    · rw [q]; simp
  · rw [q]
    rcases l2 hj with q | q | q
    · simp; omega
    · subst q
      have : j.natAbs = 0 := by simpa using hj
      rw [this]
      simp
    · rw [q]; simp
@[simp] theorem pow1018 : powOk 10 18 = true := by decide
@[simp] theorem pow1020 : powOk 10 20 = true := by decide
@[simp] theorem pow106 : powOk 10 6 = true := by decide
@[simp] theorem pow1012 : powOk 10 12 = true := by decide
@[simp] theorem pow1030 : powOk 10 30 = true := by decide
@[simp] theorem pow1039 : powOk 10 39 = true := by decide
@[simp] theorem sum_ints {ns : List Int} : sumDA [.lst (ns.map D.int)] S = some (.int ns.sum) := by simp [sumDA, asInts_map]
@[simp] theorem sum_intsT {ns : List Int} : sumDA [.tup (ns.map D.int)] S = some (.int ns.sum) := by simp [sumDA, asInts_map]
@[simp] theorem max_2 : maxD [.int i, .int j] S = some (.int (if j > i then j else i)) := rfl
@[simp] theorem min_2 : minD [.int i, .int j] S = some (.int (if j < i then j else i)) := rfl
theorem max_ints {ns : List Int} (h : ns ≠ []) : maxD [.lst (ns.map D.int)] S = some (.int (maxL ns)) := by
  show ((asInts (ns.map D.int)).bind fun ns => if ns.isEmpty then none else some (D.int (maxL ns))) = _
  rw [asInts_map]
  cases ns with
  | nil => exact absurd rfl h
  | cons a r => rfl
theorem min_ints {ns : List Int} (h : ns ≠ []) : minD [.lst (ns.map D.int)] S = some (.int (minL ns)) := by
  show ((asInts (ns.map D.int)).bind fun ns => if ns.isEmpty then none else some (D.int (minL ns))) = _
  rw [asInts_map]
  cases ns with
  | nil => exact absurd rfl h
  | cons a r => rfl
theorem isi_eq (T : String) (d : D) (t : String) (b : Bool) (h : tyOf S d = some t) (hb : kitB t T = some b) : isiD T d S = some (.bl b) := by
  unfold isiD
  rw [h]
  simp [hb]
end
section
variable {S : Store} {i : Int} {b : Bool} {x : Str} {xs : List D} {kvs : List (Key × D)}
@[simp] theorem isi_int_non : isiD "int" .non S = some (.bl false) := isi_eq _ _ "NoneType" _ rfl (by decide +kernel)
@[simp] theorem isi_int_bl : isiD "int" (.bl b) S = some (.bl true) := isi_eq _ _ "bool" _ rfl (by decide +kernel)
@[simp] theorem isi_int_int : isiD "int" (.int i) S = some (.bl true) := isi_eq _ _ "int" _ rfl (by decide +kernel)
@[simp] theorem isi_int_str : isiD "int" (.str x) S = some (.bl false) := isi_eq _ _ "str" _ rfl (by decide +kernel)
@[simp] theorem isi_int_tup : isiD "int" (.tup xs) S = some (.bl false) := isi_eq _ _ "tuple" _ rfl (by decide +kernel)
@[simp] theorem isi_int_lst : isiD "int" (.lst xs) S = some (.bl false) := isi_eq _ _ "list" _ rfl (by decide +kernel)
@[simp] theorem isi_int_dct : isiD "int" (.dct kvs) S = some (.bl false) := isi_eq _ _ "dict" _ rfl (by decide +kernel)
@[simp] theorem isi_bool_non : isiD "bool" .non S = some (.bl false) := isi_eq _ _ "NoneType" _ rfl (by decide +kernel)
@[simp] theorem isi_bool_bl : isiD "bool" (.bl b) S = some (.bl true) := isi_eq _ _ "bool" _ rfl (by decide +kernel)
@[simp] theorem isi_bool_int : isiD "bool" (.int i) S = some (.bl false) := isi_eq _ _ "int" _ rfl (by decide +kernel)
@[simp] theorem isi_bool_str : isiD "bool" (.str x) S = some (.bl false) := isi_eq _ _ "str" _ rfl (by decide +kernel)
@[simp] theorem isi_bool_tup : isiD "bool" (.tup xs) S = some (.bl false) := isi_eq _ _ "tuple" _ rfl (by decide +kernel)
@[simp] theorem isi_bool_lst : isiD "bool" (.lst xs) S = some (.bl false) := isi_eq _ _ "list" _ rfl (by decide +kernel)
@[simp] theorem isi_bool_dct : isiD "bool" (.dct kvs) S = some (.bl false) := isi_eq _ _ "dict" _ rfl (by decide +kernel)
@[simp] theorem isi_str_non : isiD "str" .non S = some (.bl false) := isi_eq _ _ "NoneType" _ rfl (by decide +kernel)
@[simp] theorem isi_str_bl : isiD "str" (.bl b) S = some (.bl false) := isi_eq _ _ "bool" _ rfl (by decide +kernel)
@[simp] theorem isi_str_int : isiD "str" (.int i) S = some (.bl false) := isi_eq _ _ "int" _ rfl (by decide +kernel)
@[simp] theorem isi_str_str : isiD "str" (.str x) S = some (.bl true) := isi_eq _ _ "str" _ rfl (by decide +kernel)
@[simp] theorem isi_str_tup : isiD "str" (.tup xs) S = some (.bl false) := isi_eq _ _ "tuple" _ rfl (by decide +kernel)
@[simp] theorem isi_str_lst : isiD "str" (.lst xs) S = some (.bl false) := isi_eq _ _ "list" _ rfl (by decide +kernel)
@[simp] theorem isi_str_dct : isiD "str" (.dct kvs) S = some (.bl false) := isi_eq _ _ "dict" _ rfl (by decide +kernel)
@[simp] theorem isi_tuple_non : isiD "tuple" .non S = some (.bl false) := isi_eq _ _ "NoneType" _ rfl (by decide +kernel)
@[simp] theorem isi_tuple_bl : isiD "tuple" (.bl b) S = some (.bl false) := isi_eq _ _ "bool" _ rfl (by decide +kernel)
@[simp] theorem isi_tuple_int : isiD "tuple" (.int i) S = some (.bl false) := isi_eq _ _ "int" _ rfl (by decide +kernel)
@[simp] theorem isi_tuple_str : isiD "tuple" (.str x) S = some (.bl false) := isi_eq _ _ "str" _ rfl (by decide +kernel)
@[simp] theorem isi_tuple_tup : isiD "tuple" (.tup xs) S = some (.bl true) := isi_eq _ _ "tuple" _ rfl (by decide +kernel)
@[simp] theorem isi_tuple_lst : isiD "tuple" (.lst xs) S = some (.bl false) := isi_eq _ _ "list" _ rfl (by decide +kernel)
@[simp] theorem isi_tuple_dct : isiD "tuple" (.dct kvs) S = some (.bl false) := isi_eq _ _ "dict" _ rfl (by decide +kernel)
@[simp] theorem isi_list_non : isiD "list" .non S = some (.bl false) := isi_eq _ _ "NoneType" _ rfl (by decide +kernel)
@[simp] theorem isi_list_bl : isiD "list" (.bl b) S = some (.bl false) := isi_eq _ _ "bool" _ rfl (by decide +kernel)
@[simp] theorem isi_list_int : isiD "list" (.int i) S = some (.bl false) := isi_eq _ _ "int" _ rfl (by decide +kernel)
@[simp] theorem isi_list_str : isiD "list" (.str x) S = some (.bl false) := isi_eq _ _ "str" _ rfl (by decide +kernel)
@[simp] theorem isi_list_tup : isiD "list" (.tup xs) S = some (.bl false) := isi_eq _ _ "tuple" _ rfl (by decide +kernel)
@[simp] theorem isi_list_lst : isiD "list" (.lst xs) S = some (.bl true) := isi_eq _ _ "list" _ rfl (by decide +kernel)
@[simp] theorem isi_list_dct : isiD "list" (.dct kvs) S = some (.bl false) := isi_eq _ _ "dict" _ rfl (by decide +kernel)
@[simp] theorem isi_dict_non : isiD "dict" .non S = some (.bl false) := isi_eq _ _ "NoneType" _ rfl (by decide +kernel)
@[simp] theorem isi_dict_bl : isiD "dict" (.bl b) S = some (.bl false) := isi_eq _ _ "bool" _ rfl (by decide +kernel)
@[simp] theorem isi_dict_int : isiD "dict" (.int i) S = some (.bl false) := isi_eq _ _ "int" _ rfl (by decide +kernel)
@[simp] theorem isi_dict_str : isiD "dict" (.str x) S = some (.bl false) := isi_eq _ _ "str" _ rfl (by decide +kernel)
@[simp] theorem isi_dict_tup : isiD "dict" (.tup xs) S = some (.bl false) := isi_eq _ _ "tuple" _ rfl (by decide +kernel)
@[simp] theorem isi_dict_lst : isiD "dict" (.lst xs) S = some (.bl false) := isi_eq _ _ "list" _ rfl (by decide +kernel)
@[simp] theorem isi_dict_dct : isiD "dict" (.dct kvs) S = some (.bl true) := isi_eq _ _ "dict" _ rfl (by decide +kernel)
end
@[simp] theorem add_blint {b : Bool} {j : Int} {S : Store} : opAddA (.bl b) (.int j) S = some (.int (b2 b + j)) := rfl
@[simp] theorem sub_blint {b : Bool} {j : Int} {S : Store} : opSubA (.bl b) (.int j) S = some (.int (b2 b - j)) := rfl
@[simp] theorem sub_intbl {b : Bool} {j : Int} {S : Store} : opSubA (.int j) (.bl b) S = some (.int (j - b2 b)) := rfl
@[simp] theorem mul_blint {b : Bool} {j : Int} {S : Store} : opMulA (.bl b) (.int j) S = some (.int (b2 b * j)) := rfl
@[simp] theorem abs_bl {b : Bool} {S : Store} : absDA [.bl b] S = some (.int (b2 b)) := rfl
@[simp] theorem str_bl {b : Bool} {S : Store} : strDA [.bl b] S = some (.str (if b then "True" else "False")) := rfl
@[simp] theorem rev_tup {xs : List D} {S : Store} : opRev (.tup xs) S = some (.tup xs.reverse) := rfl
@[simp] theorem rev_lst {xs : List D} {S : Store} : opRev (.lst xs) S = some (.lst xs.reverse) := rfl
theorem atI_of {α : Type} {xs : List α} {i : Int} (h0 : 0 ≤ i) (h1 : i < xs.length) : ∃ x, x ∈ xs ∧ atI xs i = some x := by
  have hn : i.toNat < xs.length := by omega
  refine ⟨xs[i.toNat], List.getElem_mem _, ?_⟩
  unfold atI ixN
  rw [if_pos h0, if_pos h1]
  simp
theorem ix_tup {xs : List D} {i : Int} {S : Store} (h0 : 0 ≤ i) (h1 : i < xs.length) : ∃ x, x ∈ xs ∧ opIx (.tup xs) (.int i) S = some x := atI_of h0 h1
@[simp] theorem ix_lstE {xs : List D} {i : Int} {S : Store} : opIx (.lst xs) (.int i) S = atI xs i := rfl
@[simp] theorem ix_tupE {xs : List D} {i : Int} {S : Store} : opIx (.tup xs) (.int i) S = atI xs i := rfl
theorem atI_nat {α : Type} {xs : List α} (n : Nat) : atI xs (n : Int) = xs[n]? := by
  unfold atI ixN
  rw [if_pos (by omega)]
  by_cases h : (n : Int) < xs.length
  · rw [if_pos h]
    simp
  · rw [if_neg h, List.getElem?_eq_none (by omega)]
    rfl
@[simp] theorem atI_cons0 {α : Type} (x : α) (xs : List α) : atI (x :: xs) 0 = some x := atI_nat 0
theorem eq_of_wp {α : Type} {o : Out α} {v : α} {S : Store} (h : o.wp (fun a S' => a = v ∧ S' = S) fun _ _ _ => False) : o = .ok v S := by
  cases o with
  | ok a S1 => obtain ⟨rfl, rfl⟩ := h.run; rfl
  | exc c fs S1 => exact h.run.elim
  | stuck => exact h.run.elim
theorem cutD_take (xs : List D) (n : Nat) : cutD xs none (some (n : Int)) = xs.take n := by
  unfold cutD
  simp [HT.sIx]
  rw [if_neg (by omega)]
  omega
theorem cutD_drop (xs : List D) (n : Nat) : cutD xs (some (n : Int)) none = xs.drop n := by
  unfold cutD
  simp [HT.sIx]
  rw [if_neg (by omega)]
  by_cases h : n ≤ xs.length
  · rw [Nat.min_eq_left h]
    exact List.take_of_length_le (by simp)
  · rw [Nat.min_eq_right (by omega)]
    simp
    omega
@[simp] theorem sl_tup {xs : List D} {lo hi : Option Int} {S : Store} : opSl (.tup xs) lo hi S = some (.tup (cutD xs lo hi)) := rfl
@[simp] theorem sl_lst {xs : List D} {lo hi : Option Int} {S : Store} : opSl (.lst xs) lo hi S = some (.lst (cutD xs lo hi)) := rfl
@[simp] theorem sl_scr {xs : List D} {lo hi : Option Int} {S : Store} : opSl (.scr xs) lo hi S = some (.lst (cutD xs lo hi)) := rfl
theorem log2_len {n : Nat} (h : n ≤ 4000000) : ((n : Int)).natAbs.log2 < 9000 := by
  simp only [Int.natAbs_natCast]
  by_cases h0 : n = 0
  · subst h0; decide
  · have : n < 2 ^ 22 := by omega
    have := (Nat.log2_lt h0).mpr this
    omega
theorem log2_of {m : Int} (k : Nat) (hk : k ≤ 9000) (h0 : m ≠ 0) (h : m.natAbs < 2 ^ k) : m.natAbs.log2 < 9000 := by
  have := (Nat.log2_lt (by omega)).mpr h
  omega
theorem cellAt_of {S : Store} {n : Nat} {xs : List D} (h : S[n]? = some (.lst true xs)) : cellAt S (.ref n) = some (n, xs) := by
  show (match S[n]? with | some (.lst true xs) => some (n, xs) | _ => none) = _
  rw [h]
theorem dr_of {S : Store} {n : Nat} {b : Bool} {xs : List D} (h : S[n]? = some (.lst b xs)) : dr S (.ref n) = .lst xs := by
  rw [dr_ref, h]
  rfl
theorem isL_of {S : Store} {n : Nat} {b : Bool} {xs : List D} (h : S[n]? = some (.lst b xs)) : isL S (.ref n) = true := by
  show (match dr S (.ref n) with | .lst _ => true | _ => false) = true
  rw [dr_of h]
theorem appC_of {S : Store} {n : Nat} {xs : List D} {y : D} (h : S[n]? = some (.lst true xs)) (hs : xs.length ≤ 4000000) (hc : closed n y = true) : appC (.ref n) y S = .ok .non (S.set n (.lst true (xs ++ [y]))) := by
  unfold appC
  rw [cellAt_of h]
  simp [sz, hs, hc]
theorem tupD_of {S : Store} {n : Nat} {b : Bool} {xs : List D} (h : S[n]? = some (.lst b xs)) : tupD [.ref n] S = some (.tup xs) := by
  show (match dr S (.ref n) with | .lst xs => _ | .tup xs => _ | _ => _) = _
  rw [dr_of h]
@[simp] theorem eq_blint {b : Bool} {j : Int} {S : Store} : opEqA (.bl b) (.int j) S = some (.bl (decide (b2 b = j))) := by
  rw [eqA_of rfl]
  simp [opEq, eqD, dat, shaped_int, shaped_bl, PyData.eqv, b2]
  by_cases h : (if b = true then (1 : Int) else 0) = j <;> simp [h]
theorem div_ok {i j : Int} {S : Store} (h : divOk j = true) : opDiv (.int i) (.int j) S = some (.int (i / j)) := by
  unfold opDiv
  simp [h]
@[simp] theorem closedA_comp {α : Type} (n : Nat) (f : α → Int) (ns : List α) : closedA n (ns.map (D.int ∘ f)) = true := closedA_mem.mpr fun x h => by
  obtain ⟨i, _, rfl⟩ := List.mem_map.mp h
  simp
@[simp] theorem closedA_fun {α : Type} (n : Nat) (f : α → Int) (ns : List α) : closedA n (ns.map fun x => D.int (f x)) = true := closedA_comp n f ns
@[simp] theorem gT2 {i j : Nat} {d e : D} {ρ : Env} {S : Store} : gT [gN i, gN j] (.tup [d, e]) ρ S = some ((ρ.set i (some d)).set j (some e)) := rfl
@[simp] theorem gT3 {i j k : Nat} {d e f : D} {ρ : Env} {S : Store} : gT [gN i, gN j, gN k] (.tup [d, e, f]) ρ S = some (((ρ.set i (some d)).set j (some e)).set k (some f)) := rfl
@[simp] theorem gT4 {i j k l : Nat} {d e f g : D} {ρ : Env} {S : Store} : gT [gN i, gN j, gN k, gN l] (.tup [d, e, f, g]) ρ S = some ((((ρ.set i (some d)).set j (some e)).set k (some f)).set l (some g)) := rfl
theorem mul_ok {i j : Int} {S : Store} (h : mulOk i j = true) : opMulA (.int i) (.int j) S = some (.int (i * j)) := by
  unfold opMulA orO opMul
  simp [h]
theorem mulT_ok {xs : List D} {k : Int} {S : Store} (h : xs ≠ [] ∧ 2 ≤ k ∧ k ≤ 1000 ∧ xs.length ≤ 1000) : opMulA (.tup xs) (.int k) S = some (.tup (List.replicate k.toNat xs).flatten) := by
  have e : opMul (.tup xs) (.int k) S = some (.tup (List.replicate k.toNat xs).flatten) := by
    show (if decide (xs ≠ [] ∧ 2 ≤ k ∧ k ≤ 1000 ∧ xs.length ≤ 1000) = true then _ else _) = _
    rw [if_pos (decide_eq_true h)]
  unfold opMulA orO
  rw [e]
end Fk
namespace Fk
open PySem PySem.Spec PyProof.Rows L2
def keyOk : Key → Bool
  | .inl i => decide (i.natAbs.log2 < 1900)
  | .inr _ => true
mutual
def plain (b : Nat) : D → Bool
  | .int i => decide (i.natAbs.log2 < b)
  | .tup xs => plainA b xs
  | .lst xs => plainA b xs
  | .dct kvs => plainK b kvs
  | .ref _ => false
  | .scr _ => false
  | .ktp _ => false
  | .exn _ _ _ => false
  | _ => true
def plainA (b : Nat) : List D → Bool
  | [] => true
  | x :: xs => plain b x && plainA b xs
def plainK (b : Nat) : List (Key × D) → Bool
  | [] => true
  | (k, x) :: xs => keyOk k && plain b x && plainK b xs
end
mutual
def wt : D → Nat
  | .non => 4
  | .bl _ => 5
  | .int i => 3 + i.natAbs.log2
  | .str x => (reprText x).length
  | .tup xs => 3 + wtA xs
  | .lst xs => 3 + wtA xs
  | .dct kvs => 3 + wtK kvs
  | _ => 0
def wtA : List D → Nat
  | [] => 0
  | x :: xs => wt x + 2 + wtA xs
def wtK : List (Key × D) → Nat
  | [] => 0
  | (k, x) :: xs => (PyData.shown (keyD k)).length + 2 + wt x + 2 + wtK xs
end
mutual
def dep : D → Nat
  | .tup xs => depA xs + 1
  | .lst xs => depA xs + 1
  | .dct kvs => depK kvs + 1
  | _ => 0
def depA : List D → Nat
  | [] => 0
  | x :: xs => max (dep x) (depA xs)
def depK : List (Key × D) → Nat
  | [] => 0
  | (_, x) :: xs => max (dep x) (depK xs)
end
mutual
def toP : D → PyData
  | .non => .none
  | .bl b => .bool b
  | .int i => .int i
  | .str x => .str x
  | .tup xs => .tuple (toPA xs)
  | .lst xs => .list (toPA xs)
  | .dct kvs => .dict (toPK kvs)
  | _ => .none
def toPA : List D → List PyData
  | [] => []
  | x :: xs => toP x :: toPA xs
def toPK : List (Key × D) → List (PyData × PyData)
  | [] => []
  | (k, x) :: xs => (keyD k, toP x) :: toPK xs
end
theorem int_len {i : Int} (h : i.natAbs.log2 < 1900) : (PyData.shown (.int i)).length ≤ 3 + i.natAbs.log2 := by
  have := int_text_length_le (a := i) (k := i.natAbs.log2 + 1) (by omega) (by omega)
  show (Str.ofString (toString i)).length ≤ _
  have e := PySem.ofString_length (toString i)
  omega
theorem textFrom_le : ∀ (ts : List Str) (k : Nat) (acc : Str), (textFrom k acc ts).length ≤ acc.length + piled ts
  | [], k, acc => by simp [textFrom, piled]
  | t :: ts, k, acc => by
    have ih := textFrom_le ts (k + 1) (acc ++ (if k > 0 then ", " else "" : String) ++ t)
    unfold textFrom
    refine Nat.le_trans ih ?_
    rw [strLen_append, strLen_append, piled_cons]
    have : ((if k > 0 then ", " else "" : String) : Str).length ≤ 2 := by split <;> decide
    omega
theorem join_le (ts : List Str) : (Str.join ", " ts).length ≤ piled ts := by
  by_cases h : ts = []
  · subst h; decide
  · have := join_length_add ts h
    omega
theorem tupleText_le (ts : List Str) : (tupleText ts).length ≤ 3 + piled ts := by
  unfold tupleText
  rw [strLen_append, strLen_append]
  have h1 := join_le ts
  have h2 : ((if ts.length == 1 then ",)" else ")" : String) : Str).length ≤ 2 := by split <;> decide
  have h3 : ("(" : Str).length = 1 := rfl
  omega
theorem listText_le (ts : List Str) : (listText ts).length ≤ 2 + piled ts := by
  unfold listText
  rw [strLen_append]
  have h1 := textFrom_le ts 0 "["
  have h2 : ("[" : Str).length = 1 := rfl
  have h3 : ("]" : Str).length = 1 := rfl
  omega
theorem dictText_le (ts : List Str) : (dictText ts).length ≤ 2 + piled ts := by
  unfold dictText
  rw [strLen_append, strLen_append]
  have h1 := join_le ts
  have h2 : ("{" : Str).length = 1 := rfl
  have h3 : ("}" : Str).length = 1 := rfl
  omega
mutual
theorem plain_dat {b : Nat} (hb : b ≤ 1900) : ∀ {d : D}, plain b d = true → dat d = some (toP d) ∧ (toP d).showable = true ∧ (toP d).shown.length ≤ wt d ∧ (toP d).depth ≤ dep d
  | .non, _ => by simp [dat, toP, PyData.showable, wt, PyData.depth]; decide
  | .bl b, _ => by cases b <;> simp [dat, toP, PyData.showable, wt, PyData.depth] <;> decide
  | .int i, h => by
    have h' : i.natAbs.log2 < 1900 := by
      have : i.natAbs.log2 < b := by simpa [plain] using h
      omega
    refine ⟨by simp [dat, toP], by simp [toP, PyData.showable]; omega, by simpa [toP, wt] using int_len h', by simp [toP, PyData.depth]⟩
  | .str x, _ => by simp [dat, toP, PyData.showable, wt, PyData.depth, PyData.shown]
  | .tup xs, h => by
    obtain ⟨h1, h2, h3, h4⟩ := plain_datA hb (xs := xs) (by simpa [plain] using h)
    refine ⟨by simp [dat, toP, h1], by simp [toP, PyData.showable, h2], ?_, by simp [toP, PyData.depth, dep]; omega⟩
    simp only [toP, PyData.shown, wt]
    have := tupleText_le (PyData.shownAll (toPA xs))
    omega
  | .lst xs, h => by
    obtain ⟨h1, h2, h3, h4⟩ := plain_datA hb (xs := xs) (by simpa [plain] using h)
    refine ⟨by simp [dat, toP, h1], by simp [toP, PyData.showable, h2], ?_, by simp [toP, PyData.depth, dep]; omega⟩
    simp only [toP, PyData.shown, wt]
    have := listText_le (PyData.shownAll (toPA xs))
    omega
  | .dct kvs, h => by
    obtain ⟨h1, h2, h3, h4⟩ := plain_datK hb (xs := kvs) (by simpa [plain] using h)
    refine ⟨by simp [dat, toP, h1], by simp [toP, PyData.showable, h2], ?_, by simp [toP, PyData.depth, dep]; omega⟩
    simp only [toP, PyData.shown, wt]
    have := dictText_le (PyData.shownKv (toPK kvs))
    omega
  | .ref _, h => by simp [plain] at h
  | .scr _, h => by simp [plain] at h
  | .ktp _, h => by simp [plain] at h
  | .exn _ _ _, h => by simp [plain] at h
theorem plain_datA {b : Nat} (hb : b ≤ 1900) : ∀ {xs : List D}, plainA b xs = true → datAll xs = some (toPA xs) ∧ PyData.showableAll (toPA xs) = true ∧ piled (PyData.shownAll (toPA xs)) ≤ wtA xs ∧ PyData.depthAll (toPA xs) ≤ depA xs
  | [], _ => by simp [datAll, toPA, PyData.showableAll, PyData.shownAll, piled, wtA, PyData.depthAll, depA]
  | x :: xs, h => by
    have h' : plain b x = true ∧ plainA b xs = true := by simpa [plainA] using h
    obtain ⟨a1, a2, a3, a4⟩ := plain_dat hb h'.1
    obtain ⟨b1, b2, b3, b4⟩ := plain_datA hb h'.2
    refine ⟨by simp [datAll, toPA, a1, b1], by simp [toPA, PyData.showableAll, a2, b2], ?_, by simp [toPA, PyData.depthAll, depA]; omega⟩
    simp only [toPA, PyData.shownAll, piled_cons, wtA]
    omega
theorem plain_datK {b : Nat} (hb : b ≤ 1900) : ∀ {xs : List (Key × D)}, plainK b xs = true → datKV xs = some (toPK xs) ∧ PyData.showableKv (toPK xs) = true ∧ piled (PyData.shownKv (toPK xs)) ≤ wtK xs ∧ PyData.depthKv (toPK xs) ≤ depK xs
  | [], _ => by simp [datKV, toPK, PyData.showableKv, PyData.shownKv, piled, wtK, PyData.depthKv, depK]
  | (k, x) :: xs, h => by
    have h' : (keyOk k = true ∧ plain b x = true) ∧ plainK b xs = true := by simpa [plainK] using h
    obtain ⟨a1, a2, a3, a4⟩ := plain_dat hb h'.1.2
    obtain ⟨b1, b2, b3, b4⟩ := plain_datK hb h'.2
    have hk : (keyD k).showable = true ∧ (keyD k).depth = 0 := by
      cases k with
      | inl i =>
        have := h'.1.1
        simp [keyOk] at this
        exact ⟨by simp [keyD, PyData.showable]; omega, by simp [keyD, PyData.depth]⟩
      | inr y => exact ⟨by simp [keyD, PyData.showable], by simp [keyD, PyData.depth]⟩
    refine ⟨by simp [datKV, toPK, a1, b1], by simp [toPK, PyData.showableKv, a2, b2, hk.1], ?_, by simp [toPK, PyData.depthKv, depK, hk.2]; omega⟩
    simp only [toPK, PyData.shownKv, piled_cons, wtK, strLen_append]
    have : ((": " : String) : Str).length = 2 := rfl
    omega
end
/-- repr of plain data -/
theorem repr_plain {b : Nat} (hb : b ≤ 1900) {d : D} {S : Store} (h : plain b d = true) (hw : wt d ≤ 16000000) (hd : dep d ≤ 60) : reprD [d] S = some (.str (toP d).shown) := by
  obtain ⟨h1, h2, h3, h4⟩ := plain_dat hb h
  have e : dr S d = d := by cases d <;> first | rfl | simp [plain] at h
  show (dat (dr S d)).bind _ = _
  rw [e, h1]
  simp [h2]
  omega
mutual
theorem plain_closed {b : Nat} (n : Nat) : ∀ {d : D}, plain b d = true → closed n d = true
  | .non, _ => by simp
  | .bl _, _ => by simp
  | .int _, _ => by simp
  | .str _, _ => by simp
  | .tup xs, h => by simp only [closed_tup]; exact plain_closedA n (by simpa [plain] using h)
  | .lst xs, h => by simp only [closed_lst]; exact plain_closedA n (by simpa [plain] using h)
  | .dct kvs, h => by simp only [closed]; exact plain_closedK n (by simpa [plain] using h)
  | .ref _, h => by simp [plain] at h
  | .scr _, h => by simp [plain] at h
  | .ktp _, h => by simp [plain] at h
  | .exn _ _ _, h => by simp [plain] at h
theorem plain_closedA {b : Nat} (n : Nat) : ∀ {xs : List D}, plainA b xs = true → closedA n xs = true
  | [], _ => by simp
  | x :: xs, h => by
    have h' : plain b x = true ∧ plainA b xs = true := by simpa [plainA] using h
    simp [plain_closed n h'.1, plain_closedA n h'.2]
theorem plain_closedK {b : Nat} (n : Nat) : ∀ {xs : List (Key × D)}, plainK b xs = true → closedK n xs = true
  | [], _ => by simp [closedK]
  | (k, x) :: xs, h => by
    have h' : (keyOk k = true ∧ plain b x = true) ∧ plainK b xs = true := by simpa [plainK] using h
    simp [closedK, plain_closed n h'.1.2, plain_closedK n h'.2]
end
theorem plainA_iff {b : Nat} {xs : List D} : plainA b xs = true ↔ ∀ x ∈ xs, plain b x = true := by
  induction xs with
  | nil => simp [plainA]
  | cons x xs ih => simp [plainA, ih]
theorem plainA_append (b : Nat) (xs ys : List D) : plainA b (xs ++ ys) = (plainA b xs && plainA b ys) := by
  induction xs with
  | nil => simp [plainA]
  | cons x xs ih => simp [plainA, ih, Bool.and_assoc]
theorem wtA_append (xs ys : List D) : wtA (xs ++ ys) = wtA xs + wtA ys := by
  induction xs with
  | nil => simp [wtA]
  | cons x xs ih => simp [wtA, ih]; omega
theorem depA_append (xs ys : List D) : depA (xs ++ ys) = max (depA xs) (depA ys) := by
  induction xs with
  | nil => simp [depA]
  | cons x xs ih => simp only [List.cons_append, depA, ih]; omega
theorem wtA_len (xs : List D) : xs.length ≤ wtA xs := by
  induction xs with
  | nil => simp [wtA]
  | cons x xs ih => simp [wtA]; omega
theorem wtA_mem {xs : List D} {x : D} (h : x ∈ xs) : wt x + 2 ≤ wtA xs := by
  induction xs with
  | nil => cases h
  | cons y xs ih =>
    rcases List.mem_cons.mp h with rfl | h
    · simp [wtA]
    · have := ih h
      simp [wtA]
      omega
theorem depA_mem {xs : List D} {x : D} (h : x ∈ xs) : dep x ≤ depA xs := by
  induction xs with
  | nil => cases h
  | cons y xs ih =>
    rcases List.mem_cons.mp h with rfl | h
    · simp [depA]; omega
    · have := ih h
      simp [depA]
      omega
theorem wtA_sub {xs ys : List D} (h : xs.Sublist ys) : wtA xs ≤ wtA ys := by
  induction h with
  | slnil => simp
  | cons _ _ ih => simp [wtA]; omega
  | cons_cons _ _ ih => simp [wtA]; omega
theorem depA_sub {xs ys : List D} (h : xs.Sublist ys) : depA xs ≤ depA ys := by
  induction h with
  | slnil => simp
  | cons _ _ ih => simp [depA]; omega
  | cons_cons _ _ ih => simp [depA]; omega
theorem plainA_sub {b : Nat} {xs ys : List D} (h : xs.Sublist ys) (hp : plainA b ys = true) : plainA b xs = true := plainA_iff.mpr fun x hx => plainA_iff.mp hp x (h.subset hx)
/-- good data: plain, its ints of so many bits, so heavy, so deep -/
structure Gd (b w k : Nat) (d : D) : Prop where
  p : plain b d = true
  w : wt d ≤ w
  k : dep d ≤ k
structure GdA (b w k : Nat) (xs : List D) : Prop where
  p : plainA b xs = true
  w : wtA xs ≤ w
  k : depA xs ≤ k
mutual
theorem plain_mono {b b' : Nat} (hb : b ≤ b') : ∀ {d : D}, plain b d = true → plain b' d = true
  | .non, _ => by simp [plain]
  | .bl _, _ => by simp [plain]
  | .int i, h => by
    have : i.natAbs.log2 < b := by simpa [plain] using h
    simp [plain]
    omega
  | .str _, _ => by simp [plain]
  | .tup xs, h => by simp only [plain] at h ⊢; exact plainA_mono hb h
  | .lst xs, h => by simp only [plain] at h ⊢; exact plainA_mono hb h
  | .dct kvs, h => by simp only [plain] at h ⊢; exact plainK_mono hb h
  | .ref _, h => by simp [plain] at h
  | .scr _, h => by simp [plain] at h
  | .ktp _, h => by simp [plain] at h
  | .exn _ _ _, h => by simp [plain] at h
theorem plainA_mono {b b' : Nat} (hb : b ≤ b') : ∀ {xs : List D}, plainA b xs = true → plainA b' xs = true
  | [], _ => by simp [plainA]
  | x :: xs, h => by
    have h' : plain b x = true ∧ plainA b xs = true := by simpa [plainA] using h
    simp [plainA, plain_mono hb h'.1, plainA_mono hb h'.2]
theorem plainK_mono {b b' : Nat} (hb : b ≤ b') : ∀ {xs : List (Key × D)}, plainK b xs = true → plainK b' xs = true
  | [], _ => by simp [plainK]
  | (k, x) :: xs, h => by
    have h' : (keyOk k = true ∧ plain b x = true) ∧ plainK b xs = true := by simpa [plainK] using h
    simp [plainK, h'.1.1, plain_mono hb h'.1.2, plainK_mono hb h'.2]
end
section
variable {b b' w k w' k' n : Nat} {d : D} {xs ys : List D}
theorem Gd.mono (h : Gd b w k d) (hw : w ≤ w') (hk : k ≤ k') : Gd b w' k' d := ⟨h.p, Nat.le_trans h.w hw, Nat.le_trans h.k hk⟩
theorem Gd.bits (h : Gd b w k d) (hb : b ≤ b') : Gd b' w k d := ⟨plain_mono hb h.p, h.w, h.k⟩
theorem GdA.mono (h : GdA b w k xs) (hw : w ≤ w') (hk : k ≤ k') : GdA b w' k' xs := ⟨h.p, Nat.le_trans h.w hw, Nat.le_trans h.k hk⟩
theorem GdA.bits (h : GdA b w k xs) (hb : b ≤ b') : GdA b' w k xs := ⟨plainA_mono hb h.p, h.w, h.k⟩
theorem GdA.nil : GdA b w k [] := ⟨by simp [plainA], by simp [wtA], by simp [depA]⟩
theorem GdA.one (h : Gd b w k d) : GdA b (w + 2) k [d] := ⟨by simp [plainA, h.p], by have := h.w; simp [wtA]; omega, by have := h.k; simp [depA]; omega⟩
theorem GdA.cons (h : Gd b w k d) (g : GdA b w' k xs) : GdA b (w + 2 + w') k (d :: xs) := ⟨by simp [plainA, h.p, g.p], by have := h.w; have := g.w; simp [wtA]; omega, by have := h.k; have := g.k; simp [depA]; omega⟩
theorem GdA.append (h : GdA b w k xs) (g : GdA b w' k ys) : GdA b (w + w') k (xs ++ ys) := ⟨by rw [plainA_append, h.p, g.p]; rfl, by rw [wtA_append]; have := h.w; have := g.w; omega, by rw [depA_append]; have := h.k; have := g.k; omega⟩
theorem GdA.sub (h : GdA b w k ys) (s : xs.Sublist ys) : GdA b w k xs := ⟨plainA_sub s h.p, Nat.le_trans (wtA_sub s) h.w, Nat.le_trans (depA_sub s) h.k⟩
theorem GdA.mem (h : GdA b w k xs) {x : D} (hx : x ∈ xs) : Gd b w k x := ⟨plainA_iff.mp h.p x hx, by have := wtA_mem hx; have := h.w; omega, by have := depA_mem hx; have := h.k; omega⟩
theorem GdA.len (h : GdA b w k xs) : xs.length ≤ w := Nat.le_trans (wtA_len xs) h.w
theorem GdA.tup (h : GdA b w k xs) : Gd b (w + 3) (k + 1) (.tup xs) := ⟨by simp [plain, h.p], by have := h.w; simp [wt]; omega, by have := h.k; simp [dep]; omega⟩
theorem GdA.lst (h : GdA b w k xs) : Gd b (w + 3) (k + 1) (.lst xs) := ⟨by simp [plain, h.p], by have := h.w; simp [wt]; omega, by have := h.k; simp [dep]; omega⟩
theorem Gd.repr {S : Store} (h : Gd b w k d) (hb : b ≤ 1900 := by decide) (hw : w ≤ 16000000 := by decide) (hk : k ≤ 60 := by decide) : reprD [d] S = some (.str (toP d).shown) := repr_plain hb h.p (Nat.le_trans h.w hw) (Nat.le_trans h.k hk)
theorem Gd.closed (h : Gd b w k d) : closed n d = true := plain_closed n h.p
theorem GdA.closed (h : GdA b w k xs) : closedA n xs = true := plain_closedA n h.p
theorem Gd.ofLog {i : Int} (h1 : i.natAbs.log2 < b) (h2 : i.natAbs.log2 + 3 ≤ w) : Gd b w k (.int i) := ⟨by simpa [plain] using h1, by simp [wt]; omega, by simp [dep]⟩
theorem Gd.int {i : Int} (hb : 0 < b) (h : i.natAbs < 2 ^ b) (hw : b + 2 ≤ w) : Gd b w k (.int i) := by
  have hl : i.natAbs.log2 < b := by
    by_cases h0 : i.natAbs = 0
    · rw [h0]; simpa using hb
    · exact (Nat.log2_lt h0).mpr h
  exact Gd.ofLog hl (by omega)
theorem Gd.bl {c : Bool} (hw : 5 ≤ w) : Gd b w k (.bl c) := ⟨by simp [plain], by simp [wt]; omega, by simp [dep]⟩
end
def gdB (b w k : Nat) (d : D) : Bool := plain b d && (decide (wt d ≤ w) && decide (dep d ≤ k))
theorem gdB_ok {b w k : Nat} {d : D} (h : gdB b w k d = true) : Gd b w k d := by
  simp only [gdB, Bool.and_eq_true, decide_eq_true_eq] at h
  exact ⟨h.1, h.2.1, h.2.2⟩
theorem log2_le_of {a b : Nat} (h : a < 2 ^ b) (hb : 0 < b) : a.log2 < b := by
  by_cases h0 : a = 0
  · subst h0; simpa using hb
  · exact (Nat.log2_lt h0).mpr h
end Fk
set_option maxHeartbeats 1000000
namespace Fk
open PySem PySem.Spec PyProof.Rows L2
end Fk
set_option maxHeartbeats 1000000
namespace Fk
open PySem PySem.Spec PyProof.Rows L2
theorem comp_map {α : Type} {enc h : α → D} {F : D → Store → Out (Option D)} {S : Store} {as : List α} (hF : ∀ a ∈ as, F (enc a) S = .ok (some (h a)) S) (hl : as.length ≤ 4000000) : compGo F (as.map enc) [] S = .ok (as.map h) S := by
  have key : ∀ (as : List α) (acc : List D), (∀ a ∈ as, F (enc a) S = .ok (some (h a)) S) → acc.length + as.length ≤ 4000000 → compGo F (as.map enc) acc S = .ok (acc ++ as.map h) S := fun as => by
    induction as with
    | nil => intro acc _ _; simp [compGo]
    | cons a r ih =>
      intro acc hF hl
      rw [List.map_cons]
      unfold compGo
      rw [hF a List.mem_cons_self]
      simp only [Out.ok_bind]
      simp only [List.length_cons] at hl
      rw [if_pos (show sz acc.length = true by simp [sz]; omega), ih _ (fun b hb => hF b (List.mem_cons_of_mem _ hb)) (by simp; omega)]
      simp
  simpa using key as [] hF (by simpa using hl)
theorem comp_filter {α : Type} {enc h : α → D} {p : α → Bool} {F : D → Store → Out (Option D)} {S : Store} {as : List α} (hF : ∀ a ∈ as, F (enc a) S = .ok (if p a then some (h a) else none) S) (hl : as.length ≤ 4000000) : compGo F (as.map enc) [] S = .ok ((as.filter p).map h) S := by
  have key : ∀ (as : List α) (acc : List D), (∀ a ∈ as, F (enc a) S = .ok (if p a then some (h a) else none) S) → acc.length + as.length ≤ 4000000 → compGo F (as.map enc) acc S = .ok (acc ++ (as.filter p).map h) S := fun as => by
    induction as with
    | nil => intro acc _ _; simp [compGo]
    | cons a r ih =>
      intro acc hF hl
      rw [List.map_cons]
      unfold compGo
      rw [hF a List.mem_cons_self]
      simp only [Out.ok_bind]
      simp only [List.length_cons] at hl
      cases e : p a with
      | true =>
        simp only [if_true]
        rw [if_pos (show sz acc.length = true by simp [sz]; omega), ih _ (fun b hb => hF b (List.mem_cons_of_mem _ hb)) (by simp; omega)]
        simp [e]
      | false =>
        simp only [Bool.false_eq_true, if_false]
        rw [ih _ (fun b hb => hF b (List.mem_cons_of_mem _ hb)) (by omega)]
        simp [e]
  simpa using key as [] hF (by simpa using hl)
theorem comp_enc {α β : Type} {enc : α → D} {enc' : β → D} {F : D → Store → Out (Option D)} {S : Store} {as : List α} (h : α → β) (hF : ∀ a ∈ as, F (enc a) S = .ok (some (enc' (h a))) S) (hl : as.length ≤ 4000000) : compGo F (as.map enc) [] S = .ok ((as.map h).map enc') S := by
  rw [Fk.comp_map (h := fun a => enc' (h a)) hF hl, List.map_map]
  rfl
theorem comp_ints {α : Type} {enc : α → D} {F : D → Store → Out (Option D)} {S : Store} {as : List α} (h : α → Int) (hF : ∀ a ∈ as, F (enc a) S = .ok (some (.int (h a))) S) (hl : as.length ≤ 4000000) : compGo F (as.map enc) [] S = .ok ((as.map h).map D.int) S := comp_enc h hF hl
theorem exc_of_wp {α : Type} {o : Out α} {c : Str} {fs : List (Str × D)} {S : Store} (h : o.wp (fun _ _ => False) fun c' fs' S' => c' = c ∧ fs' = fs ∧ S' = S) : o = .exc c fs S := by
  cases o with
  | ok a S1 => exact h.run.elim
  | exc c fs S1 => obtain ⟨rfl, rfl, rfl⟩ := h.run; rfl
  | stuck => exact h.run.elim
abbrev tI (ns : List Int) : D := .tup (ns.map D.int)
abbrev lI (ns : List Int) : D := .lst (ns.map D.int)
theorem datIs : ∀ g : List Int, datAll (g.map D.int) = some (g.map PyData.int)
  | [] => by simp [datAll]
  | i :: g => by simp [datAll, dat, datIs g]
theorem layIs : ∀ g : List Int, PyData.canLayAll0 (g.map PyData.int) = true
  | [] => by simp [PyData.canLayAll0]
  | i :: g => by simp [PyData.canLayAll0, PyData.canLay0, layIs g]
theorem depIs : ∀ g : List Int, PyData.depthAll (g.map PyData.int) = 0
  | [] => by simp [PyData.depthAll]
  | i :: g => by simp [PyData.depthAll, PyData.depth, depIs g]
theorem shLI (g : List Int) : SeqAt.shaped (.list (g.map PyData.int)) = true := by simp [SeqAt.shaped, PyData.canLay0, layIs, PyData.depth, depIs]
theorem eqvIs : ∀ xs ys : List Int, PyData.eqvAll (xs.map PyData.int) (ys.map PyData.int) = decide (xs = ys)
  | [], [] => by simp [PyData.eqvAll]
  | [], _ :: _ => by simp [PyData.eqvAll]
  | _ :: _, [] => by simp [PyData.eqvAll]
  | x :: xs, y :: ys => by
    simp [PyData.eqvAll, PyData.eqv, eqvIs xs ys]
    by_cases h : x = y <;> simp [h]
@[simp] theorem zip_tI (xs ys : List Int) : zipL (xs.map D.int) (ys.map D.int) = (xs.zip ys).map fun p => .tup [.int p.1, .int p.2] := by
  unfold zipL
  rw [List.zip_map, List.map_map]
  rfl
theorem rng_eq (n : Nat) : rng 0 n = (List.range n).map fun (i : Nat) => D.int i := by simp [rng]
theorem natAbs_pow {i : Int} {a b : Nat} (h : i.natAbs < 2 ^ a) (hab : a ≤ b) : i.natAbs < 2 ^ b := Nat.lt_of_lt_of_le h (Nat.pow_le_pow_right (by decide) hab)
end Fk
set_option maxHeartbeats 1000000
noncomputable section
namespace Fk
open PySem PySem.Spec PyProof.Rows L2
open Classical in
def compGoK (n : Nat) (all : List D) (f : D → Store → Out (Option D)) : List D → List D → Store → Out (List D)
  | [], acc, S => if S[n]? = some (.lst true all) then .ok acc S else .stuck
  | x :: xs, acc, S => if S[n]? = some (.lst true all) then (f x S).bind fun o S1 => match o with
    | some y => if sz acc.length then compGoK n all f xs (acc ++ [y]) S1 else .stuck
    | none => compGoK n all f xs acc S1
    else .stuck
def lCKc (g : SemG) (t : SemT) (e : SemE) (vs : List Nat) (ρ : Env) (n : Nat) (S : Store) : Option Cell → Out (List D)
  | some (.lst true xs) => compGoK n xs (compStep g t e (wipeD ρ vs)) xs [] S
  | _ => .stuck
def lCK (g : SemG) (t : SemT) (e : SemE) (vs : List Nat) (ρ : Env) : D → Store → Out (List D)
  | .ref n, S => lCKc g t e vs ρ n S S[n]?
  | _, _ => .stuck
def lCompK (f : SemE) (g : SemG) (t : SemT) (e : SemE) (vs : List Nat) : SemA := fun ρ S => (f ρ S).bind (lCK g t e vs ρ)
section
end
def kLK (g : SemG) (t : SemT) (e : SemE) (vs : List Nat) (ρ : Env) (Q : List D → Store → Prop) (E : EX) (d : D) (S : Store) : Prop := (lCK g t e vs ρ d S).wp Q E
@[simp] theorem wp_lCompK (f : SemE) (g : SemG) (t : SemT) (e : SemE) (vs : List Nat) {ρ : Env} {S : Store} {Q : List D → Store → Prop} {E : EX} : (lCompK f g t e vs ρ S).wp Q E = (f ρ S).wp (kLK g t e vs ρ Q E) E := by
  simp only [lCompK, wp_bind]
  rfl
end Fk
set_option maxHeartbeats 4000000
namespace Fk
open PySem PySem.Spec PyProof.Rows L2
def okL (i : Int) : Bool := decide (-4000000 ≤ i ∧ i ≤ 4000000)
def lR1 (d : D) (S : Store) : Out (List D) := match d with
  | .int n => if okL n then .ok (rng 0 n.toNat) S else .stuck
  | _ => .stuck
def lRg1 (f : SemE) : SemA := fun ρ S => (f ρ S).bind lR1
def lR2 (d e : D) (S : Store) : Out (List D) := match d, e with
  | .int m, .int n => if okL m && okL n then .ok (rng m (n - m).toNat) S else .stuck
  | _, _ => .stuck
def lRg2 (f g : SemE) : SemA := fun ρ S => (f ρ S).bind fun d S1 => (g ρ S1).bind (lR2 d)
section
end
section
variable {E : EX} {ρ : Env} {S : Store} {f g : SemE} {Q : List D → Store → Prop} {d e : D}
def kLg1 (Q : List D → Store → Prop) (d : D) (S : Store) : Prop := ∃ n, d = .int n ∧ okL n = true ∧ Q (rng 0 n.toNat) S
@[simp] theorem kLg1_eq : kLg1 Q d S = ∃ n, d = .int n ∧ okL n = true ∧ Q (rng 0 n.toNat) S := rfl
@[simp] theorem wp_lRg1 : (lRg1 f ρ S).wp Q E = (f ρ S).wp (kLg1 Q) E := by
  simp only [lRg1, wp_bind]
  congr 1
  funext d S1
  cases d <;> simp [lR1, kLg1]
def kLg2 (Q : List D → Store → Prop) (d e : D) (S : Store) : Prop := ∃ m n, d = .int m ∧ e = .int n ∧ (okL m && okL n) = true ∧ Q (rng m (n - m).toNat) S
@[simp] theorem kLg2_eq : kLg2 Q d e S = ∃ m n, d = .int m ∧ e = .int n ∧ (okL m && okL n) = true ∧ Q (rng m (n - m).toNat) S := rfl
def kLg3 (g : SemE) (ρ : Env) (Q : List D → Store → Prop) (E : EX) (d : D) (S : Store) : Prop := (g ρ S).wp (kLg2 Q d) E
@[simp] theorem kLg3_eq : kLg3 g ρ Q E d S = (g ρ S).wp (kLg2 Q d) E := rfl
@[simp] theorem wp_lRg2 : (lRg2 f g ρ S).wp Q E = (f ρ S).wp (kLg3 g ρ Q E) E := by
  simp only [lRg2, wp_bind]
  congr 1
  funext d S1
  rw [kLg3_eq]
  congr 1
  funext e S2
  unfold lR2 kLg2
  cases d <;> cases e <;> simp
end
def opIsB : D → D → Store → Option D := fun d e _ => match d, e with
  | .bl a, .bl b => some (.bl (decide (a = b)))
  | _, _ => none
def opNotB : D → D → Store → Option D := fun d e _ => match d, e with
  | .bl a, .bl b => some (.bl (!decide (a = b)))
  | _, _ => none
section
end
@[simp] theorem isB_eq {a b : Bool} {S : Store} : opIsB (.bl a) (.bl b) S = some (.bl (decide (a = b))) := rfl
@[simp] theorem notB_eq {a b : Bool} {S : Store} : opNotB (.bl a) (.bl b) S = some (.bl (!decide (a = b))) := rfl
end Fk
set_option maxHeartbeats 0
noncomputable section
namespace Sm
open PySem PySem.Spec PyProof.Rows L2 Fk
def g__law_deck_k28 : SemS :=
    (sRet (cellL (lDisp (aCons (cellL (lComp (itSeq (eSl opSl (eVar 0) oNone (oSome (eC (.int 63))))) (gN 1) sYes (eOps absDA (aCons (eVar 1) aNil)) [1])) (aCons (eC (.int 0)) aNil)))))
def f__law_deck_k28 : FSem := fnD 2 g__law_deck_k28
def g__law_draw_k28 : SemS :=
    (sSeq (sSetI (eVar 0) (eC (.int 1)) (eBin opAddA (eBin opIx (eVar 0) (eC (.int 1))) (eC (.int 1))))
    (sSeq (sAsgT (gT [(gN 2), (gN 3)]) (eTup (aCons (eC (.int 0)) (aCons (eUn opNeg (eC (.int 1))) aNil))))
    (sSeq (sIf (tOfE (eBin opGt (eOps lenD (aCons (eBin opIx (eVar 0) (eC (.int 0))) aNil)) (eC (.int 0)))) (sSeq (sAsg 3 (eBin opMod (eOps intD (aCons (eBin opIx (eVar 0) (eC (.int 1))) aNil)) (eOps lenD (aCons (eBin opIx (eVar 0) (eC (.int 0))) aNil))))
    (sAsg 2 (eBin opIx (eBin opIx (eVar 0) (eC (.int 0))) (eVar 3)))) sNext)
    (sSeq (sIf (tOfE (eBin opGe (eVar 2) (eBin opPow (eC (.int 10)) (eC (.int 18))))) (sSeq (sSetI (eBin opIx (eVar 0) (eC (.int 0))) (eVar 3) (eBin opDiv (eOps intD (aCons (eVar 2) aNil)) (eVar 1)))
    (sRet (eBin opMod (eOps intD (aCons (eVar 2) aNil)) (eVar 1)))) sNext)
    (sSeq (sAsg 4 (eBin opAddA (eBin opAddA (eBin opMod (eOps intD (aCons (eVar 2) aNil)) (eC (.int 2147483563))) (eBin opMulA (eC (.int 7417)) (eBin opIx (eVar 0) (eC (.int 1))))) (eC (.int 13))))
    (sRet (eBin opMod (eOps intD (aCons (eBin opMod (eOps intD (aCons (eBin opPow (eVar 4) (eC (.int 5))) aNil)) (eC (.int 2147483549))) aNil)) (eVar 1))))))))
def f__law_draw_k28 : FSem := fnD 5 g__law_draw_k28
def g__law_one_k28 : SemS :=
    (sRet (eBin opIx (eVar 1) (eCall f__law_draw_k28 [] (aCons (eVar 0) (aCons (eOps lenD (aCons (eVar 1) aNil)) aNil)))))
def f__law_one_k28 : FSem := fnD 2 g__law_one_k28
def g__law_mixed_row : SemS :=
    (sSeq (sPar 2 3 (aCons (eCall f__law_one_k28 [] (aCons (eVar 0) (aCons (eVar 1) aNil))) (aCons (eCall f__law_one_k28 [] (aCons (eVar 0) (aCons (eVar 1) aNil))) aNil)))
    (sSeq (sAsg 4 (eCall f__law_draw_k28 [] (aCons (eVar 0) (aCons (eC (.int 3)) aNil))))
    (sSeq (sIf (tOfE (eBin opEqA (eCall f__law_draw_k28 [] (aCons (eVar 0) (aCons (eC (.int 3)) aNil))) (eC (.int 0)))) (sRet (eOps tupD (aCons (frz (lComp (itSeq (eVar 2)) (gN 5) sYes (eVar 5) [5])) aNil))) sNext)
    (sRet (eOps tupD (aCons (frz (lComp (itZip (aCons (eVar 2) (aCons (eVar 3) aNil))) (gT [(gN 5), (gN 6)]) sYes (eBin opSubA (eBin opDiv (eBin opAddA (eVar 5) (eVar 6)) (eC (.int 2))) (eVar 4)) [5, 6])) aNil))))))
def f__law_mixed_row : FSem := fnD 7 g__law_mixed_row
def g__law_mark_k28 : SemS :=
    (sSeq (sIf (tOfE (eBin opEqA (eCall f__law_draw_k28 [] (aCons (eVar 0) (aCons (eC (.int 9)) aNil))) (eC (.int 0)))) (sRet (eCall f__law_one_k28 [] (aCons (eVar 0) (aCons (frz (lDisp (aCons (eVar 1) (aCons (eBin opSubA (eC (.int 0)) (eVar 1)) (aCons (eBin opSubA (eVar 1) (eC (.int 1))) (aCons (eBin opSubA (eCall f__law_draw_k28 [] (aCons (eVar 0) (aCons (eBin opAddA (eBin opMulA (eC (.int 2)) (eVar 1)) (eC (.int 1))) aNil))) (eVar 1)) aNil)))))) aNil)))) sNext)
    (sRet (eBin opSubA (eCall f__law_draw_k28 [] (aCons (eVar 0) (aCons (eC (.int 13)) aNil))) (eC (.int 6)))))
def f__law_mark_k28 : FSem := fnD 2 g__law_mark_k28
def g__law_most : SemS :=
    (sRet (eOps maxD (aCons (frz (lComp (itSeq (eVar 0)) (gN 1) sYes (eOps intD (aCons (eVar 1) aNil)) [1])) aNil)))
def f__law_most : FSem := fnD 2 g__law_most
def g__law_least_k30 : SemS :=
    (sRet (eOps minD (aCons (frz (lComp (itSeq (eVar 0)) (gN 1) sYes (eOps intD (aCons (eVar 1) aNil)) [1])) aNil)))
def f__law_least_k30 : FSem := fnD 2 g__law_least_k30
def g_least_of : SemS :=
    (sRet (eOps minD (aCons (frz (lComp (itSeq (eVar 0)) (gN 1) sYes (eOps intD (aCons (eVar 1) aNil)) [1])) aNil)))
def f_least_of : FSem := fnD 2 g_least_of
def g_divisor_of : SemS :=
    (sSeq (sAsg 1 (eC (.int 0)))
    (sSeq (sFor (itSeq (eVar 0)) (gN 2)
   (sSeq (sAsg 3 (eOps absDA (aCons (eVar 2) aNil)))
    (sWhile (tOfE (eBin opNeA (eVar 3) (eC (.int 0))))
   (sPar 1 3 (aCons (eVar 3) (aCons (eBin opMod (eVar 1) (eVar 3)) aNil))))))
    (sRet (eVar 1))))
def f_divisor_of : FSem := fnD 4 g_divisor_of
def g__law_divisor : SemS :=
    (sSeq (sAsg 1 (eC (.int 0)))
    (sSeq (sFor (itSeq (eVar 0)) (gN 2)
   (sSeq (sAsg 3 (eOps absDA (aCons (eVar 2) aNil)))
    (sWhile (tOfE (eBin opNeA (eVar 3) (eC (.int 0))))
   (sPar 1 3 (aCons (eVar 3) (aCons (eBin opMod (eOps intD (aCons (eVar 1) aNil)) (eVar 3)) aNil))))))
    (sRet (eVar 1))))
def f__law_divisor : FSem := fnD 4 g__law_divisor
def g__law_plain : SemS :=
    (sSeq (sAsg 1 (cellL (lDisp aNil)))
    (sSeq (sFor (itSeq (eVar 0)) (gN 2)
   (sExp (eApp (eVar 1) (frz (lComp (itEnum (aCons (eVar 2) aNil)) (gT [(gN 5), (gN 6)]) sYes (eBin opSubA (eVar 6) (eCall f__law_least_k30 [] (aCons (frz (lComp (itSeq (eVar 0)) (gN 7) sYes (eBin opIx (eVar 7) (eVar 5)) [7])) aNil))) [5, 6])))))
    (sSeq (sAsg 3 (cellL (lDisp aNil)))
    (sSeq (sFor (itSeq (eVar 1)) (gN 2)
   (sExp (eExt (eVar 3) (eVar 2))))
    (sSeq (sAsg 4 (eOps maxD (aCons (eC (.int 1)) (aCons (eCall f__law_divisor [] (aCons (eVar 3) aNil)) aNil))))
    (sRet (eOps tupD (aCons (frz (lComp (itSeq (eVar 1)) (gN 2) sYes (eOps tupD (aCons (frz (lComp (itSeq (eVar 2)) (gN 6) sYes (eBin opDiv (eVar 6) (eVar 4)) [6])) aNil)) [2])) aNil))))))))
def f__law_plain : FSem := fnD 8 g__law_plain
def g__law_bent_k33 : SemS :=
    (sSeq (sPar 2 3 (aCons (eCall f__law_draw_k28 [] (aCons (eVar 0) (aCons (eOps lenD (aCons (eVar 1) aNil)) aNil))) (aCons (eCall f__law_draw_k28 [] (aCons (eVar 0) (aCons (eOps lenD (aCons (eBin opIx (eVar 1) (eC (.int 0))) aNil)) aNil))) aNil)))
    (sSeq (sAsg 4 (cellL (eOps lstD (aCons (eBin opIx (eVar 1) (eVar 2)) aNil))))
    (sSeq (sSetI (eVar 4) (eVar 3) (eBin opAddA (eBin opIx (eVar 4) (eVar 3)) (eIf (tOfE (eBin opLt (eBin opIx (eVar 4) (eVar 3)) (eBin opPow (eC (.int 10)) (eC (.int 6))))) (eC (.int 1)) (eUn opNeg (eC (.int 1))))))
    (sRet (eBin opAddA (eBin opAddA (eSl opSl (eVar 1) oNone (oSome (eVar 2))) (eTup (aCons (eOps tupD (aCons (eVar 4) aNil)) aNil))) (eSl opSl (eVar 1) (oSome (eBin opAddA (eVar 2) (eC (.int 1)))) oNone))))))
def f__law_bent_k33 : FSem := fnD 5 g__law_bent_k33
def g_most_of : SemS :=
    (sRet (eOps maxD (aCons (frz (lComp (itSeq (eVar 0)) (gN 1) sYes (eOps intD (aCons (eVar 1) aNil)) [1])) aNil)))
def f_most_of : FSem := fnD 2 g_most_of
def g_tops_of : SemS :=
    (sRet (eOps tupD (aCons (frz (lComp (itR1 (aCons (eOps lenD (aCons (eBin opIx (eVar 0) (eC (.int 0))) aNil)) aNil)) (gN 1) sYes (eCall f_most_of [] (aCons (frz (lComp (itSeq (eVar 0)) (gN 2) sYes (eBin opIx (eVar 2) (eVar 1)) [2])) aNil)) [1])) aNil)))
def f_tops_of : FSem := fnD 3 g_tops_of
def g_most_apart : SemS :=
    (sSeq (sAsg 1 (cellL (lDisp aNil)))
    (sSeq (sFor (itEnum (aCons (eCall f_tops_of [] (aCons (eVar 0) aNil)) aNil)) (gT [(gN 2), (gN 3)])
   (sExp (eApp (eVar 1) (eBin opSubA (eVar 3) (eCall f_least_of [] (aCons (frz (lComp (itSeq (eVar 0)) (gN 4) sYes (eBin opIx (eVar 4) (eVar 2)) [4])) aNil))))))
    (sRet (eCall f_most_of [] (aCons (eVar 1) aNil)))))
def f_most_apart : FSem := fnD 5 g_most_apart
def g_primitive : SemS :=
    (sSeq (sAsg 1 (eCall f_divisor_of [] (aCons (eVar 0) aNil)))
    (sRet (eOps tupD (aCons (frz (lComp (itSeq (eVar 0)) (gN 2) sYes (eBin opDiv (eVar 2) (eVar 1)) [2])) aNil))))
def f_primitive : FSem := fnD 3 g_primitive
def g_fraction : SemS :=
    (sRet (eCall f_primitive [] (aCons (eTup (aCons (eVar 0) (aCons (eVar 1) aNil))) aNil)))
def f_fraction : FSem := fnD 2 g_fraction
def g__law_primitive_k28 : SemS :=
    (sSeq (sAsg 1 (eCall f__law_divisor [] (aCons (eVar 0) aNil)))
    (sRet (eOps tupD (aCons (frz (lComp (itSeq (eVar 0)) (gN 2) sYes (eBin opDiv (eVar 2) (eVar 1)) [2])) aNil))))
def f__law_primitive_k28 : FSem := fnD 3 g__law_primitive_k28
def g__law_draw : SemS :=
    (sSeq (sAsg 2 (eBin opDget (eVar 0) (eC (.str "great"))))
    (sSeq (sWhile (tOfE (eBin opNeA (eVar 2) (frz (lDisp aNil))))
   (sSeq (sIf (tOfE (eBin opGt (eBin opIx (eVar 2) (eUn opNeg (eC (.int 1)))) (eC (.int 0)))) (sSeq (sAsg 3 (eBin opMod (eOps intD (aCons (eBin opIx (eVar 2) (eUn opNeg (eC (.int 1)))) aNil)) (eVar 1)))
    (sSeq (sSetI (eVar 2) (eUn opNeg (eC (.int 1))) (eBin opDiv (eOps intD (aCons (eBin opIx (eVar 2) (eUn opNeg (eC (.int 1)))) aNil)) (eVar 1)))
    (sRet (eVar 3)))) sNext)
    (sExp (ePop (eVar 2)))))
    (sSeq (sDPut (eVar 0) (eC (.str "turn")) (eBin opAddA (eBin opDget (eVar 0) (eC (.str "turn"))) (eC (.int 1))))
    (sSeq (sAsg 4 (eBin opIx (eBin opDget (eVar 0) (eC (.str "small"))) (eBin opMod (eOps intD (aCons (eBin opDget (eVar 0) (eC (.str "turn"))) aNil)) (eOps lenD (aCons (eBin opDget (eVar 0) (eC (.str "small"))) aNil)))))
    (sSeq (sAsg 5 (eBin opAddA (eBin opMulA (eVar 4) (eC (.int 6364136223846793005))) (eBin opMulA (eBin opDget (eVar 0) (eC (.str "turn"))) (eC (.int 1442695040888963407)))))
    (sSeq (sAsg 5 (eBin opMod (eOps intD (aCons (eVar 5) aNil)) (eC (.int 18446744073709551557))))
    (sSeq (sAsg 5 (eBin opMod (eOps intD (aCons (eBin opMulA (eVar 5) (eBin opAddA (eBin opDiv (eVar 5) (eC (.int 4294967296))) (eC (.int 17)))) aNil)) (eC (.int 18446744073709551557))))
    (sRet (eBin opMod (eOps intD (aCons (eBin opDiv (eVar 5) (eC (.int 65536))) aNil)) (eVar 1))))))))))
def f__law_draw : FSem := fnD 6 g__law_draw
def g__law_one : SemS :=
    (sRet (eBin opIx (eVar 1) (eCall f__law_draw [] (aCons (eVar 0) (aCons (eOps lenD (aCons (eVar 1) aNil)) aNil)))))
def f__law_one : FSem := fnD 2 g__law_one
def g_is_integer : SemS :=
    (sSeq (sIf (sOr (sNot (tOfE (eUn (isiD "int") (eVar 0)))) (sOr (tOfE (eUn (isiD "bool") (eVar 0))) (tOfE (eBin opLt (eVar 0) (eVar 1))))) (sRet (eC (.bl false))) sNext)
    (sRet (vOr (eBin opIsN (eVar 2) (eC .non)) (eBin opLe (eVar 0) (eVar 2)))))
def f_is_integer : FSem := fnD 3 g_is_integer
def g__law_mark : SemS :=
    (sSeq (sAsg 1 (eCall f__law_draw [] (aCons (eVar 0) (aCons (eC (.int 8)) aNil))))
    (sSeq (sIf (tOfE (eBin opLt (eVar 1) (eC (.int 6)))) (sRet (eBin opSubA (eCall f__law_draw [] (aCons (eVar 0) (aCons (eC (.int 9)) aNil))) (eC (.int 4)))) sNext)
    (sRet (eIf (tOfE (eBin opEqA (eVar 1) (eC (.int 6)))) (eBin opSubA (eCall f__law_draw [] (aCons (eVar 0) (aCons (eBin opAddA (eBin opMulA (eC (.int 2)) (eBin opPow (eC (.int 10)) (eC (.int 6)))) (eC (.int 1))) aNil))) (eBin opPow (eC (.int 10)) (eC (.int 6)))) (eCall f__law_one [] (aCons (eVar 0) (aCons (frz (lDisp (aCons (eBin opPow (eC (.int 10)) (eC (.int 6))) (aCons (eUn opNeg (eBin opPow (eC (.int 10)) (eC (.int 6)))) aNil)))) aNil)))))))
def f__law_mark : FSem := fnD 2 g__law_mark
def g__law_row : SemS :=
    (sRet (eOps tupD (aCons (frz (lComp (itR1 (aCons (eVar 1) aNil)) (gN 2) sYes (eCall f__law_mark [] (aCons (eVar 0) aNil)) [2])) aNil)))
def f__law_row : FSem := fnD 3 g__law_row
def g_require_word : SemS :=
    (sIf (sNot (tOfE (eCall f_is_integer [] (aCons (eVar 1) (aCons (eC (.int 0)) (aCons (eBin opSubA (eOps lenD (aCons (eVar 0) aNil)) (eC (.int 1))) aNil)))))) (sRaise "NoWord" ["given"] (aCons (eVar 1) aNil)) sNext)
def f_require_word : FSem := fnD 2 g_require_word
def g_greatest_loss : SemS :=
    (sSeq (sExp (eCall f_require_word [] (aCons (eVar 0) (aCons (eVar 1) aNil))))
    (sSeq (sAsg 2 (frz (lComp (itZip (aCons (eCall f_tops_of [] (aCons (eVar 0) aNil)) (aCons (eBin opIx (eVar 0) (eVar 1)) aNil))) (gT [(gN 3), (gN 4)]) sYes (eBin opSubA (eVar 3) (eVar 4)) [3, 4])))
    (sRet (eTup (aCons (eCall f_most_of [] (aCons (eVar 2) aNil)) (aCons (eIdx (eVar 2) (eCall f_most_of [] (aCons (eVar 2) aNil))) aNil))))))
def f_greatest_loss : FSem := fnD 5 g_greatest_loss
def g_steady : SemS :=
    (sSeq (sAsg 1 (frz (lComp (itR1 (aCons (eOps lenD (aCons (eVar 0) aNil)) aNil)) (gN 2) sYes (eBin opIx (eCall f_greatest_loss [] (aCons (eVar 0) (aCons (eVar 2) aNil))) (eC (.int 0))) [2])))
    (sRet (eTup (aCons (eIdx (eVar 1) (eCall f_least_of [] (aCons (eVar 1) aNil))) (aCons (eCall f_least_of [] (aCons (eVar 1) aNil)) aNil)))))
def f_steady : FSem := fnD 3 g_steady
end Sm
end
set_option maxHeartbeats 1000000
noncomputable section
namespace DB
open PySem PySem.Spec PyProof.Rows L2 Fk Sm
def st (cs : List Int) (t : Int) (T : Store) : Store := .lst true (cs.map D.int) :: .lst true [.ref 0, .int t] :: T
def Dk (n : Nat) (T S : Store) : Prop := ∃ cs t, S = st cs t T ∧ (∀ x ∈ cs, 0 ≤ x) ∧ 0 ≤ t ∧ t ≤ n ∧ cs.length ≤ 63
theorem Dk.mono {n m : Nat} {T S : Store} (h : Dk n T S) (hm : n ≤ m) : Dk m T S := by
  obtain ⟨cs, t, e, h1, h2, h3, h4⟩ := h
  exact ⟨cs, t, e, h1, h2, by omega, h4⟩
theorem Dk.len {n : Nat} {T S : Store} (h : Dk n T S) : S.length = T.length + 2 := by
  obtain ⟨cs, t, rfl, _⟩ := h
  rfl
theorem Dk.take {n : Nat} {T U S : Store} (h : Dk n (T ++ U) S) {k : Nat} (hk : k = T.length + 2) : Dk n T (S.take k) := by
  obtain ⟨cs, t, rfl, h1⟩ := h
  subst hk
  exact ⟨cs, t, by simp [st], h1⟩
theorem Dk.take0 {n : Nat} {T S : Store} (h : Dk n T S) {k : Nat} (hk : k = T.length + 2) : Dk n T (S.take k) := Dk.take (U := []) (by simpa using h) hk
theorem Dk.put {n : Nat} {T S : Store} (h : Dk n T S) (U : Store) : Dk n (T ++ U) (S ++ U) := by
  obtain ⟨cs, t, rfl, h1⟩ := h
  exact ⟨cs, t, by simp [st], h1⟩
theorem Dk.at {n : Nat} {T S : Store} (h : Dk n T S) (i : Nat) : S[i + 2]? = T[i]? := by
  obtain ⟨cs, t, rfl, h1⟩ := h
  rfl
theorem Dk.set {n : Nat} {T S : Store} (h : Dk n T S) (i : Nat) (c : Cell) : Dk n (T.set i c) (S.set (i + 2) c) := by
  obtain ⟨cs, t, rfl, h1⟩ := h
  exact ⟨cs, t, by simp [st], h1⟩
section
variable {cs : List Int} {t : Int} {T : Store}
@[simp] theorem ix_t : opIx (.ref 1) (.int 1) (st cs t T) = some (.int t) := rfl
@[simp] theorem ix_c : opIx (.ref 1) (.int 0) (st cs t T) = some (.ref 0) := rfl
@[simp] theorem ix_n {i : Int} : opIx (.ref 0) (.int i) (st cs t T) = atI (cs.map D.int) i := rfl
@[simp] theorem len_c : lenD [.ref 0] (st cs t T) = some (.int cs.length) := by show some (D.int _) = _; simp
@[simp] theorem set_t {u : Int} : setC (.ref 1) (.int 1) (.int u) (st cs t T) = some (st cs u T) := rfl
theorem set_c {k : Nat} {u : Int} (h : k < cs.length) : setC (.ref 0) (.int k) (.int u) (st cs t T) = some (st (cs.set k u) t T) := by
  show (if closed 0 (.int u) then (ixN (cs.map D.int).length (k : Int)).map _ else none) = _
  simp only [closed_int, if_true, ixN, List.length_map]
  rw [if_pos (by omega), if_pos (by omega)]
  simp [st, List.map_set]
end
theorem draw {n : Nat} {T S : Store} {m : Int} {E : EX} (h : Dk n T S) (hn : n ≤ 10 ^ 12) (h0 : 0 < m) (hm : m.natAbs.log2 < 9000) : (f__law_draw_k28 [.ref 1, .int m] S).wp (fun r S' => ∃ i, r = .int i ∧ 0 ≤ i ∧ i < m ∧ Dk (n + 1) T S') E := by
  obtain ⟨cs, t, rfl, h1, h2, h3, h4⟩ := h
  unfold f__law_draw_k28
  rw [wp_fnD]
  have e0 : divOk m = true := by simp [divOk, h0, hm]
  have em : mulOk 7417 (t + 1) = true := mulOk_of 20 50 (by decide) (by omega) (by decide)
  have fin : ∀ (c : Int), 0 ≤ c → powOk (c % 2147483563 + 7417 * (t + 1) + 13) 5 = true := fun c hc => by
    simp [powOk]
    omega
  have bm := fun (x : Int) => Int.emod_nonneg x (show m ≠ 0 by omega)
  have bl := fun (x : Int) => Int.emod_lt_of_pos x h0
  simp [-Bool.exists_bool, g__law_draw_k28, startD, powOk, sz]
  by_cases hl : 0 < cs.length
  · have hl' : (0 : Int) < (cs.length : Int) := by omega
    have k0 := Int.emod_nonneg (t + 1) (show (cs.length : Int) ≠ 0 by omega)
    have k1 := Int.emod_lt_of_pos (t + 1) hl'
    obtain ⟨k, hk⟩ : ∃ k : Nat, (t + 1) % (cs.length : Int) = k := ⟨((t + 1) % (cs.length : Int)).toNat, by omega⟩
    have hkl : k < cs.length := by omega
    have hx : atI (cs.map D.int) (k : Int) = some (.int cs[k]) := by rw [Fk.atI_nat]; simp [hkl]
    have hc := h1 cs[k] (List.getElem_mem hkl)
    simp [-Bool.exists_bool, hl, hk, hx]
    by_cases hb : 1000000000000000000 ≤ cs[k]
    · simp [-Bool.exists_bool, hb, e0, set_c hkl, h0]
      refine gcQ_cl (by simp) ⟨_, rfl, bm _, bl _, cs.set k (cs[k] / m), t + 1, by simp [st], fun x hx => ?_, by omega, by omega, by simpa using h4⟩
      rcases List.mem_or_eq_of_mem_set hx with q | q
      · exact h1 x q
      · rw [q]
        exact Int.ediv_nonneg hc (by omega)
    · simp [-Bool.exists_bool, hb, em, h0, fin _ hc]
      exact gcQ_cl (by simp) ⟨_, rfl, bm _, bl _, cs, t + 1, by simp [st], h1, by omega, by omega, h4⟩
  · have hn : cs = [] := by cases cs with
      | nil => rfl
      | cons a r => simp at hl
    subst hn
    have := fin 0 (by omega)
    simp at this
    simp [-Bool.exists_bool, em, h0, this]
    exact gcQ_cl (by simp) ⟨_, rfl, bm _, bl _, [], t + 1, by simp [st], by simp, by omega, by omega, by simp⟩
end DB
end
set_option maxHeartbeats 1000000
noncomputable section
namespace Sp
open PySem PySem.Spec PyProof.Rows L2 Fk Sm
def st (g sm : List Int) (t : Int) (T : Store) : Store := .lst true (g.map D.int) :: .dK [(.inr "great", .ref 0), (.inr "small", .lst (sm.map D.int)), (.inr "turn", .int t)] :: T
def Bx (n : Nat) (T S : Store) : Prop := ∃ g sm t, S = st g sm t T ∧ (∀ x ∈ g, 0 ≤ x) ∧ sm ≠ [] ∧ (∀ x ∈ sm, 0 ≤ x ∧ x < 10 ^ 18) ∧ 0 ≤ t ∧ t ≤ n ∧ sm.length ≤ 64
theorem Bx.mono {n m : Nat} {T S : Store} (h : Bx n T S) (hm : n ≤ m) : Bx m T S := by
  obtain ⟨g, sm, t, e, h1, h2, h3, h4, h5, h6⟩ := h
  exact ⟨g, sm, t, e, h1, h2, h3, h4, by omega, h6⟩
theorem Bx.len {n : Nat} {T S : Store} (h : Bx n T S) : S.length = T.length + 2 := by
  obtain ⟨g, sm, t, rfl, _⟩ := h
  rfl
section
variable {g sm : List Int} {t : Int} {T : Store}
theorem get_great : opDget (.ref 1) (.str "great") (st g sm t T) = some (.ref 0) := rfl
theorem get_small : opDget (.ref 1) (.str "small") (st g sm t T) = some (.lst (sm.map D.int)) := rfl
theorem get_turn : opDget (.ref 1) (.str "turn") (st g sm t T) = some (.int t) := rfl
theorem put_turn {u : Int} : dputC (.ref 1) (.str "turn") (.int u) (st g sm t T) = some (st g sm u T) := rfl
theorem datInts : ∀ g : List Int, datAll (g.map D.int) = some (g.map PyData.int)
  | [] => by simp [datAll]
  | i :: g => by simp [datAll, dat, datInts g]
theorem layInts : ∀ g : List Int, PyData.canLayAll0 (g.map PyData.int) = true
  | [] => by simp [PyData.canLayAll0]
  | i :: g => by simp [PyData.canLayAll0, PyData.canLay0, layInts g]
theorem depInts : ∀ g : List Int, PyData.depthAll (g.map PyData.int) = 0
  | [] => by simp [PyData.depthAll]
  | i :: g => by simp [PyData.depthAll, PyData.depth, depInts g]
theorem shInts (g : List Int) : SeqAt.shaped (.list (g.map PyData.int)) = true := by
  simp [SeqAt.shaped, PyData.canLay0, layInts, PyData.depth, depInts]
theorem ne_great : opNeA (.ref 0) (.lst []) (st g sm t T) = some (.bl (!g.isEmpty)) := by
  have e1 : dr (st g sm t T) (.ref 0) = .lst (g.map D.int) := rfl
  have e2 : dr (st g sm t T) (.lst []) = .lst [] := rfl
  rw [neA_of rfl]
  unfold opNe neD
  rw [e1, e2]
  simp only [dat, datInts, datAll, Option.map_some, Option.bind_some]
  have e3 : SeqAt.shaped (.list []) = true := shInts []
  rw [shInts, e3]
  simp only [Bool.and_self, if_true, Option.map_some]
  cases g <;> simp [PyData.eqv, PyData.eqvAll]
theorem ixN_last (n : Nat) : ixN (n + 1) (-1) = some n := by
  unfold ixN
  rw [if_neg (by decide), if_pos (by omega)]
  congr 1
  omega
theorem ix_great {x : Int} : opIx (.ref 0) (.int (-1)) (st (g ++ [x]) sm t T) = some (.int x) := by
  have e1 : dr (st (g ++ [x]) sm t T) (.ref 0) = .lst ((g ++ [x]).map D.int) := rfl
  unfold opIx
  rw [e1]
  simp [atI, ixN_last]
theorem set_great {x y : Int} : setC (.ref 0) (.int (-1)) (.int y) (st (g ++ [x]) sm t T) = some (st (g ++ [y]) sm t T) := by
  unfold setC
  have e1 : cellAt (st (g ++ [x]) sm t T) (.ref 0) = some (0, (g ++ [x]).map D.int) := rfl
  rw [e1]
  simp [ixN_last, st]
theorem pop_great {x : Int} : popC (.ref 0) (st (g ++ [x]) sm t T) = .ok (.int x) (st g sm t T) := by
  unfold popC
  have e1 : cellAt (st (g ++ [x]) sm t T) (.ref 0) = some (0, (g ++ [x]).map D.int) := rfl
  rw [e1]
  simp [st]
end
theorem draw {n : Nat} {T S : Store} {m : Int} {E : EX} (h : Bx n T S) (hn : n ≤ 10 ^ 30) (h1 : 1 ≤ m) (h2 : m.natAbs.log2 < 9000) : (f__law_draw [.ref 1, .int m] S).wp (fun r S' => ∃ d, r = .int d ∧ 0 ≤ d ∧ d < m ∧ Bx (n + 1) T S') E := by
  obtain ⟨g, sm, t, rfl, hg, hs, hs2, ht, htn, hl⟩ := h
  unfold f__law_draw
  rw [wp_fnD]
  simp [g__law_draw, startD, get_great]
  refine wp_sWhile (fun n ρ S => ∃ g', n = g'.length ∧ ρ = [some (.ref 1), some (.int m), some (.ref 0), none, none, none] ∧ S = st g' sm t T ∧ ∀ x ∈ g', 0 ≤ x) g.length ⟨g, rfl, rfl, rfl, hg⟩ ?_
  rintro _ _ _ ⟨g', rfl, rfl, rfl, hg'⟩
  rcases List.eq_nil_or_concat g' with rfl | ⟨g1, x, rfl⟩
  · have hp : 0 < (sm.length : Int) := by
      have : sm.length ≠ 0 := fun z => hs (List.eq_nil_of_length_eq_zero z)
      omega
    obtain ⟨y, hy, hix⟩ := atI_of (xs := sm.map D.int) (Int.emod_nonneg (t + 1) (Int.ne_of_gt hp)) (by rw [List.length_map]; exact Int.emod_lt_of_pos _ hp)
    obtain ⟨z, hz, rfl⟩ := List.mem_map.mp hy
    simp [ne_great, get_turn, put_turn, get_small, hix, sz, divOk, hp]
    have z1 := hs2 z hz
    have q0 : 0 ≤ (z * 6364136223846793005 + (t + 1) * 1442695040888963407) % 18446744073709551557 := Int.emod_nonneg _ (by decide)
    have q1 : (z * 6364136223846793005 + (t + 1) * 1442695040888963407) % 18446744073709551557 < 18446744073709551557 := Int.emod_lt_of_pos _ (by decide)
    generalize (z * 6364136223846793005 + (t + 1) * 1442695040888963407) % 18446744073709551557 = w at q0 q1 ⊢
    refine ⟨by omega, mulOk_of 64 64 (by omega) (by decide) (by decide), mulOk_of 128 64 (by omega) (by decide) (by decide), by decide +kernel, mulOk_of 65 65 (by omega) (by omega) (by decide), by decide +kernel, by omega, ?_⟩
    refine gcQ_cl (closed_int _ _) ⟨_, rfl, Int.emod_nonneg _ (by omega), Int.emod_lt_of_pos _ (by omega), ?_⟩
    refine ⟨[], sm, t + 1, by simp [st], by simp, hs, hs2, by omega, by omega, hl⟩
  · rw [List.concat_eq_append] at hg' ⊢
    have hx : 0 ≤ x := hg' x (by simp)
    have hg1 : ∀ y ∈ g1, 0 ≤ y := fun y hy => hg' y (by simp [hy])
    simp [ne_great, ix_great, pop_great, sz, divOk]
    by_cases h0 : 0 < x
    · refine .inr ⟨h0, by omega, ⟨by omega, h2⟩, _, set_great, ?_⟩
      refine gcQ_cl (closed_int _ _) ⟨_, rfl, Int.emod_nonneg _ (by omega), Int.emod_lt_of_pos _ (by omega), ?_⟩
      refine ⟨g1 ++ [x / m], sm, t, by simp [st], ?_, hs, hs2, ht, by omega, hl⟩
      intro y hy
      rcases List.mem_append.mp hy with hy | hy
      · exact hg1 y hy
      · simp at hy
        subst hy
        exact Int.ediv_nonneg hx (by omega)
    · exact .inl ⟨by omega, g1.length, by omega, g1, rfl, rfl, hg1⟩
theorem Bx.take {n : Nat} {T U S : Store} (h : Bx n (T ++ U) S) {k : Nat} (hk : k = T.length + 2) : Bx n T (S.take k) := by
  obtain ⟨g, sm, t, rfl, h1⟩ := h
  subst hk
  exact ⟨g, sm, t, by simp [st], h1⟩
theorem Bx.take0 {n : Nat} {T S : Store} (h : Bx n T S) {k : Nat} (hk : k = T.length + 2) : Bx n T (S.take k) := Bx.take (U := []) (by simpa using h) hk
theorem Bx.put {n : Nat} {T S : Store} (h : Bx n T S) (U : Store) : Bx n (T ++ U) (S ++ U) := by
  obtain ⟨g, sm, t, rfl, h1⟩ := h
  exact ⟨g, sm, t, by simp [st], h1⟩
theorem Bx.at {n : Nat} {T S : Store} (h : Bx n T S) (i : Nat) : S[i + 2]? = T[i]? := by
  obtain ⟨g, sm, t, rfl, h1⟩ := h
  rfl
theorem Bx.set {n : Nat} {T S : Store} (h : Bx n T S) (i : Nat) (c : Cell) : Bx n (T.set i c) (S.set (i + 2) c) := by
  obtain ⟨g, sm, t, rfl, h1⟩ := h
  exact ⟨g, sm, t, by simp [st], h1⟩
/-- one of a list, frozen or a cell -/
theorem oneD {n : Nat} {T S : Store} {xs : List D} {d : D} {E : EX} (h : Bx n T S) (hn : n ≤ 10 ^ 30) (hd : ∀ m S', Bx m T S' → dr S' d = .lst xs) (hx : xs ≠ []) (hl : xs.length ≤ 4000000) (hc : ∀ x ∈ xs, closed S.length x = true) : (f__law_one [.ref 1, d] S).wp (fun r S' => r ∈ xs ∧ Bx (n + 1) T S') E := by
  unfold f__law_one
  rw [wp_fnD]
  have h0 : xs.length ≠ 0 := fun z => hx (List.eq_nil_of_length_eq_zero z)
  have e1 : lenD [d] S = some (.int xs.length) := by
    show (match dr S d with | .lst xs => _ | .tup xs => _ | .scr xs => _ | .str x => _ | .dct kvs => _ | _ => _) = _
    rw [hd _ _ h]
  simp [g__law_one, startD, e1]
  refine (draw h hn (by omega) (log2_len hl)).no fun r S' ⟨i, e, d0, d1, hB⟩ => ?_
  subst e
  obtain ⟨y, hy, hix⟩ := atI_of d0 d1
  refine ⟨y, ?_, rt_cl (hc y hy) ⟨hy, ?_⟩⟩
  · unfold opIx
    rw [hd _ _ hB]
    exact hix
  · exact hB.take0 h.len
theorem one {n : Nat} {T S : Store} {xs : List D} {E : EX} (h : Bx n T S) (hn : n ≤ 10 ^ 30) (hx : xs ≠ []) (hl : xs.length ≤ 4000000) (hc : ∀ x ∈ xs, closed S.length x = true) : (f__law_one [.ref 1, .lst xs] S).wp (fun r S' => r ∈ xs ∧ Bx (n + 1) T S') E :=
  oneD h hn (fun _ _ _ => rfl) hx hl hc
theorem mulL (xs : List D) (k : Int) (S : Store) (h : 0 ≤ k ∧ k ≤ 100 ∧ xs.length ≤ 1000) : opMulA (.lst xs) (.int k) S = some (.lst (List.replicate k.toNat xs).flatten) := by
  unfold opMulA orO opMul
  simp [h]
variable {n : Nat} {T S : Store} {E : EX}
theorem mark (h : Bx n T S) (hn : n ≤ 10 ^ 29) : (f__law_mark [.ref 1] S).wp (fun r S' => ∃ i, r = .int i ∧ i.natAbs ≤ 1000000 ∧ Bx (n + 2) T S') E := by
  unfold f__law_mark
  rw [wp_fnD]
  simp [g__law_mark, startD]
  refine (draw h (by omega) (by decide) (by decide +kernel)).no fun r S' ⟨d, e, d0, d1, hB⟩ => ?_
  subst e
  by_cases h6 : d < 6
  · simp [h6]
    refine (draw hB (by omega) (by decide) (by decide +kernel)).no fun r S' ⟨d, e, d0, d1, hB⟩ => ?_
    subst e
    simp
    exact gcQ_cl (closed_int _ _) ⟨_, rfl, by omega, hB.take0 h.len⟩
  · simp [h6]
    by_cases h7 : d = 6
    · simp [h7, powOk, mulOk]
      refine ⟨by decide +kernel, (draw hB (by omega) (by decide) (by decide +kernel)).no fun r S' ⟨d, e, d0, d1, hB⟩ => ?_⟩
      subst e
      simp [powOk]
      exact gcQ_cl (closed_int _ _) ⟨_, rfl, by omega, hB.take0 h.len⟩
    · simp [h7, powOk, sz]
      refine (one hB (by omega) (by simp) (by simp) (by simp)).no fun r S' ⟨hr, hB⟩ => ?_
      simp at hr
      rcases hr with rfl | rfl
      · exact rt_cl (closed_int _ _) ⟨_, rfl, by decide, hB.take0 h.len⟩
      · exact rt_cl (closed_int _ _) ⟨_, rfl, by decide, hB.take0 h.len⟩
def rowD (is : List Int) : D := .tup (is.map D.int)
def RowOk (m : Nat) (is : List Int) : Prop := is.length = m ∧ ∀ i ∈ is, i.natAbs ≤ 1000000
theorem row (h : Bx n T S) (m : Nat) (hm : m ≤ 8) (hn : n ≤ 10 ^ 28) : (f__law_row [.ref 1, .int m] S).wp (fun r S' => ∃ is, r = rowD is ∧ RowOk m is ∧ Bx (n + 20) T S') E := by
  unfold f__law_row
  rw [wp_fnD]
  simp [g__law_row, startD, okR]
  refine ⟨by omega, wp_compGo (fun xs acc S => ∃ is : List Int, acc = is.map D.int ∧ is.length + xs.length = m ∧ (∀ i ∈ is, i.natAbs ≤ 1000000) ∧ Bx (n + 2 * is.length) T S) ⟨[], rfl, by simp [rng], by simp, by simpa using h⟩ ?_ ?_⟩
  · rintro x xs acc S ⟨is, rfl, hl, hb, hB⟩
    simp only [List.length_cons] at hl
    simp [wipeD, sYes]
    refine (mark hB (by omega)).no fun r S' ⟨i, e, hi, hB'⟩ => ?_
    subst e
    refine ⟨by simp [sz]; omega, is ++ [i], by simp, by simp; omega, ?_, hB'.mono (by simp; omega)⟩
    intro j hj
    rcases List.mem_append.mp hj with hj | hj
    · exact hb j hj
    · simp at hj; subst hj; exact hi
  · rintro acc S ⟨is, rfl, hl, hb, hB⟩
    simp at hl
    try simp
    exact gcQ_cl (by simp) ⟨is, rfl, ⟨hl, hb⟩, (hB.mono (by omega)).take0 h.len⟩
theorem datRows : ∀ rs : List (List Int), datAll (rs.map rowD) = some (rs.map fun is => PyData.tuple (is.map PyData.int))
  | [] => by simp [datAll]
  | r :: rs => by simp [datAll, dat, rowD, datInts r, datRows rs]
theorem layRows : ∀ rs : List (List Int), PyData.canLayAll0 (rs.map fun is => PyData.tuple (is.map PyData.int)) = true
  | [] => by simp [PyData.canLayAll0]
  | r :: rs => by simp [PyData.canLayAll0, PyData.canLay0, layInts, layRows rs]
theorem depRows : ∀ rs : List (List Int), PyData.depthAll (rs.map fun is => PyData.tuple (is.map PyData.int)) ≤ 1
  | [] => by simp [PyData.depthAll]
  | r :: rs => by
    have := depRows rs
    simp [PyData.depthAll, PyData.depth, depInts]
    omega
theorem ne_rows {d : D} {S : Store} {rs : List (List Int)} (hd : dr S d = .lst (rs.map rowD)) (h : opNeS d (.lst []) S = none) : opNeA d (.lst []) S = some (.bl (!rs.isEmpty)) := by
  rw [neA_of h]
  unfold opNe neD
  rw [hd]
  have e3 : SeqAt.shaped (.list []) = true := shInts []
  have e4 : SeqAt.shaped (.list (rs.map fun is => PyData.tuple (is.map PyData.int))) = true := by
    have := depRows rs
    simp [SeqAt.shaped, PyData.canLay0, layRows, PyData.depth]
    omega
  simp only [dat, datRows, datAll, dr_lst, Option.map_some, Option.bind_some, e3, e4, Bool.and_self, if_true]
  cases rs <;> simp [PyData.eqv, PyData.eqvAll]
end Sp
end
set_option maxHeartbeats 1000000
noncomputable section
namespace Sp
open PySem PySem.Spec PyProof.Rows L2 Fk Sm
variable {n : Nat} {T S : Store} {E : EX}
def Gf (a : Nat) (ns : List Int) : Nat := ns.foldl (fun a n => Nat.gcd a n.natAbs) a
def G (ns : List Int) : Nat := Gf 0 ns
theorem abs_nat (i : Int) : (if i < 0 then -i else i) = (i.natAbs : Int) := by split <;> omega
theorem divisor {d : D} {ns : List Int} (hd : itOf d S = .ok (ns.map D.int) S) : f_divisor_of [d] S = .ok (.int (G ns)) S := by
  refine eq_of_wp ?_
  unfold f_divisor_of
  rw [wp_fnD]
  simp [g_divisor_of, startD, hd]
  refine wp_forL (fun xs ρ S' => ∃ (a : Nat) (ns' : List Int) (x y : Option D), xs = ns'.map D.int ∧ ρ = [some d, some (.int a), x, y] ∧ S = S' ∧ Gf a ns' = G ns) ⟨0, ns, none, none, rfl, rfl, rfl, rfl⟩ ?_ ?_
  · rintro x xs ρ S' ⟨a, ns', x', y', he, rfl, rfl, hg⟩
    cases ns' with
    | nil => cases he
    | cons i ns' =>
      simp at he
      obtain ⟨rfl, rfl⟩ := he
      simp [abs_nat]
      refine wp_sWhile (fun m ρ S' => ∃ a' b' : Nat, m = b' ∧ ρ = [some d, some (.int a'), some (.int i), some (.int b')] ∧ S = S' ∧ Nat.gcd a' b' = Nat.gcd a i.natAbs) i.natAbs ⟨a, i.natAbs, rfl, rfl, rfl, rfl⟩ ?_
      rintro b' ρ S' ⟨a', _, rfl, rfl, rfl, hab⟩
      by_cases hb : b' = 0
      · subst hb
        simp
        exact ⟨a', ns', rfl, rfl, by simp at hab; rw [hab]; exact hg⟩
      · simp [hb]
        refine ⟨by omega, a' % b', Nat.mod_lt _ (by omega), b', ⟨rfl, by simp⟩, ?_⟩
        rw [← hab, Nat.gcd_comm a' b', Nat.gcd_rec b' a', Nat.gcd_comm]
  · rintro ρ S' ⟨a, ns', x', y', he, rfl, rfl, hg⟩
    cases ns' with
    | cons i ns' => cases he
    | nil =>
      simp
      refine gcQ_cl (closed_int _ _) ⟨?_, by simp⟩
      simp [Gf] at hg
      rw [hg]
theorem Gf_le : ∀ (ns : List Int) (a : Nat), a < 2 ^ 2000 → (∀ i ∈ ns, i.natAbs < 2 ^ 2000) → Gf a ns < 2 ^ 2000
  | [], a, h, _ => h
  | i :: ns, a, h, hb => by
    refine Gf_le ns _ ?_ fun j hj => hb j (by simp [hj])
    by_cases ha : a = 0
    · subst ha
      simpa using hb i (by simp)
    · exact Nat.lt_of_le_of_lt (Nat.gcd_le_left _ (by omega)) h
theorem divOk_G {ns : List Int} (h0 : G ns ≠ 0) (hb : ∀ i ∈ ns, i.natAbs < 2 ^ 2000) : divOk (G ns : Int) = true := by
  have h := Gf_le ns 0 (Nat.two_pow_pos _) hb
  simp only [divOk, decide_eq_true_eq]
  exact ⟨by omega, Nat.lt_trans (log2_le_of (show (G ns : Int).natAbs < 2 ^ 2000 by rw [Int.natAbs_natCast]; exact h) (by decide)) (by decide)⟩
theorem cDiv (ρ : Fk.Env) (h : 2 < ρ.length) (g : Int) (hg : ρ[1]? = some (some (.int g))) (hd : divOk g = true) (ns : List Int) (S : Store) (hl : ns.length ≤ 4000000) : compGo (compStep (gN 2) sYes (eBin opDiv (eVar 2) (eVar 1)) ρ) (ns.map D.int) [] S = .ok ((ns.map fun i => i / g).map D.int) S := by
  rw [compGo_map (h := fun d => match d with | .int i => .int (i / g) | d => d)]
  · simp
  · intro x hx
    obtain ⟨i, _, rfl⟩ := List.mem_map.mp hx
    exact eq_of_wp (by simp [h, hg, hd, List.getElem?_set_ne, div_ok hd])
  · simpa using hl
theorem primitive {d : D} {ns : List Int} (hd : itOf d S = .ok (ns.map D.int) S) (hb : ∀ i ∈ ns, i.natAbs < 2 ^ 2000) (h0 : G ns ≠ 0) (hl : ns.length ≤ 1000) : f_primitive [d] S = .ok (.tup ((ns.map fun i => i / (G ns : Int)).map D.int)) S := by
  refine eq_of_wp ?_
  unfold f_primitive
  rw [wp_fnD]
  simp [g_primitive, startD, divisor hd, hd]
  rw [cDiv _ (by simp [wipeD]) (G ns) (by simp [wipeD]) (divOk_G h0 hb) _ _ (by omega)]
  simp
  exact gcQ_cl (by simp) ⟨by simp, by simp⟩
def nn : D → Bool
  | .int i => decide (0 ≤ i)
  | _ => false
def inR (lo hi : Int) : D → Bool
  | .int i => decide (lo ≤ i ∧ i ≤ hi)
  | _ => false
theorem is_integer2 {b w k : Nat} {x : D} (hx : Gd b w k x) (lo hi : Int) : f_is_integer [x, .int lo, .int hi] S = .ok (.bl (inR lo hi x)) S := by
  refine eq_of_wp ?_
  unfold f_is_integer
  rw [wp_fnD]
  cases x with
  | ref m => exact absurd hx.p (by simp [Fk.plain])
  | scr xs => exact absurd hx.p (by simp [Fk.plain])
  | ktp xs => exact absurd hx.p (by simp [Fk.plain])
  | exn _ _ _ => exact absurd hx.p (by simp [Fk.plain])
  | int i =>
    by_cases hl : i < lo
    · simp [g_is_integer, startD, hl]
      exact gcQ_cl (by simp) ⟨by simp [inR]; omega, by simp⟩
    · simp [g_is_integer, startD, hl]
      exact gcQ_cl (by simp) ⟨by simp [inR]; omega, by simp⟩
  | _ =>
    simp [g_is_integer, startD]
    exact gcQ_cl (by simp) ⟨by simp [inR], by simp⟩
variable {n : Nat} {T S : Store} {E : EX}
theorem Gf_zero : ∀ (ns : List Int) (a : Nat), Gf a ns = 0 → a = 0 ∧ ∀ i ∈ ns, i = 0
  | [], a, h => ⟨h, by simp⟩
  | i :: ns, a, h => by
    obtain ⟨h1, h2⟩ := Gf_zero ns _ h
    obtain ⟨h3, h4⟩ := Nat.gcd_eq_zero_iff.mp h1
    refine ⟨h3, fun j hj => ?_⟩
    rcases List.mem_cons.mp hj with rfl | hj
    · omega
    · exact h2 j hj
theorem Gf_dvd : ∀ (ns : List Int) (a : Nat), Gf a ns ∣ a ∧ ∀ i ∈ ns, (Gf a ns : Int) ∣ i
  | [], a => ⟨Nat.dvd_refl _, by simp⟩
  | i :: ns, a => by
    obtain ⟨h1, h2⟩ := Gf_dvd ns (Nat.gcd a i.natAbs)
    refine ⟨Nat.dvd_trans h1 (Nat.gcd_dvd_left _ _), fun j hj => ?_⟩
    rcases List.mem_cons.mp hj with rfl | hj
    · exact Int.ofNat_dvd_left.mpr (Nat.dvd_trans h1 (Nat.gcd_dvd_right _ _))
    · exact h2 j hj
theorem Gf_mul (c : Nat) : ∀ (ns : List Int) (a : Nat), Gf (c * a) (ns.map fun i => (c : Int) * i) = c * Gf a ns
  | [], a => rfl
  | i :: ns, a => by
    show Gf (Nat.gcd (c * a) ((c : Int) * i).natAbs) _ = c * Gf (Nat.gcd a i.natAbs) ns
    rw [Int.natAbs_mul, Int.natAbs_natCast, Nat.gcd_mul_left]
    exact Gf_mul c ns _
theorem G_mul (c : Nat) (ns : List Int) : G (ns.map fun i => (c : Int) * i) = c * G ns := by
  have := Gf_mul c ns 0
  simpa [G] using this
theorem G_div {ns : List Int} (h : G ns ≠ 0) : G (ns.map fun i => i / (G ns : Int)) = 1 := by
  have e : (ns.map fun i => i / (G ns : Int)).map (fun i => (G ns : Int) * i) = ns := by
    rw [List.map_map]
    conv => rhs; rw [← List.map_id ns]
    apply List.map_congr_left
    intro i hi
    exact Int.mul_ediv_cancel' ((Gf_dvd ns 0).2 i hi)
  have h2 := G_mul (G ns) (ns.map fun i => i / (G ns : Int))
  rw [e] at h2
  have h3 : G ns * 1 = G ns * G (ns.map fun i => i / (G ns : Int)) := by omega
  exact (Nat.eq_of_mul_eq_mul_left (by omega) h3).symm
theorem G_pos {ns : List Int} {i : Int} (hi : i ∈ ns) (h0 : i ≠ 0) : G ns ≠ 0 := fun h => h0 ((Gf_zero ns 0 h).2 i hi)
end Sp
end
set_option maxHeartbeats 1000000
noncomputable section
namespace Sp
open PySem PySem.Spec PyProof.Rows L2 Fk Sm
end Sp
end
set_option maxHeartbeats 1000000
noncomputable section
namespace Sp
open PySem PySem.Spec PyProof.Rows L2 Fk Sm
variable {n : Nat} {T S : Store} {E : EX}
def fracL (a b : Int) : List Int := [a / (G [a, b] : Int), b / (G [a, b] : Int)]
theorem fraction {a b : Int} (ha : a.natAbs < 2 ^ 2000) (hb : b.natAbs < 2 ^ 2000) (h0 : 0 < b) : f_fraction [.int a, .int b] S = .ok (tI (fracL a b)) S := by
  refine eq_of_wp ?_
  unfold f_fraction
  rw [wp_fnD]
  have hp : f_primitive [.tup [.int a, .int b]] S = .ok (tI (fracL a b)) S := primitive (S := S) (d := tI [a, b]) (ns := [a, b]) rfl (by simp; exact ⟨ha, hb⟩) (G_pos (i := b) (by simp) (by omega)) (by simp)
  simp [g_fraction, startD, sz, hp]
  exact gcQ_cl (by simp) ⟨by simp, by simp⟩
structure Mn (m : Nat) (rs : List (List Int)) : Prop where
  m2 : 2 ≤ m
  m4 : m ≤ 4
  ne : rs ≠ []
  row : ∀ is ∈ rs, RowOk m is
  len : rs.length ≤ 20
abbrev mD (rs : List (List Int)) : D := .tup (rs.map rowD)
theorem Mn.at0 {m : Nat} {rs : List (List Int)} (h : Mn m rs) : ∃ is rest, rs = is :: rest ∧ is.length = m := by
  cases rs with
  | nil => exact absurd rfl h.ne
  | cons a r => exact ⟨a, r, rfl, (h.row a (by simp)).1⟩
theorem Mn.at0D {m : Nat} {rs : List (List Int)} (h : Mn m rs) : ∃ is, atI (rs.map rowD) 0 = some (rowD is) ∧ is.length = m := by
  obtain ⟨is, rest, rfl, hl⟩ := h.at0
  exact ⟨is, by simp, hl⟩
theorem RowOk.bits {m : Nat} {is : List Int} (h : RowOk m is) : ∀ i ∈ is, i.natAbs < 2 ^ 20 := fun i hi => by have := h.2 i hi; omega
theorem require_word {b w k : Nat} {x : D} {ds : List D} (hx : Gd b w k x) : f_require_word [.tup ds, x] S = if inR 0 (ds.length - 1) x then .ok .non S else .exc "NoWord" [("given", x)] S := by
  cases h : inR 0 (ds.length - 1) x with
  | true =>
    refine eq_of_wp ?_
    unfold f_require_word
    rw [wp_fnD]
    simp [g_require_word, startD, is_integer2 hx, h]
  | false =>
    refine exc_of_wp ?_
    unfold f_require_word
    rw [wp_fnD]
    simp [g_require_word, startD, is_integer2 hx, h]
    exact gcE_cl (by simp [closedV, hx.closed]) ⟨rfl, rfl, by simp⟩
/-- a belief, its items with so many bits -/
structure Bl (m : Nat) (ns : List Int) : Prop where
  len : ns.length = m
  nn : ∀ i ∈ ns, 0 ≤ i
  bits : ∀ i ∈ ns, i.natAbs < 2 ^ 1900
  g : G ns = 1
theorem most_of {d : D} {ns : List Int} (hd : itOf d S = .ok (ns.map D.int) S) (h0 : ns ≠ []) (hl : ns.length ≤ 1000) : f_most_of [d] S = .ok (.int (maxL ns)) S := by
  refine eq_of_wp ?_
  unfold f_most_of
  rw [wp_fnD]
  simp [g_most_of, startD, hd]
  rw [comp_ints fun i : Int => i]
  · simp [max_ints h0]
    exact gcQ_cl (by simp) ⟨by simp, by simp⟩
  · intro i _
    exact eq_of_wp (by simp [wipeD, sYes])
  · omega
theorem law_most {d : D} {ns : List Int} (hd : itOf d S = .ok (ns.map D.int) S) (h0 : ns ≠ []) (hl : ns.length ≤ 1000) : f__law_most [d] S = .ok (.int (maxL ns)) S := by
  refine eq_of_wp ?_
  unfold f__law_most
  rw [wp_fnD]
  simp [g__law_most, startD, hd]
  rw [comp_ints fun i : Int => i]
  · simp [max_ints h0]
    exact gcQ_cl (by simp) ⟨by simp, by simp⟩
  · intro i _
    exact eq_of_wp (by simp [wipeD, sYes])
  · omega
theorem law_divisor {d : D} {ns : List Int} (hd : itOf d S = .ok (ns.map D.int) S) : f__law_divisor [d] S = .ok (.int (G ns)) S := by
  refine eq_of_wp ?_
  unfold f__law_divisor
  rw [wp_fnD]
  simp [g__law_divisor, startD, hd]
  refine wp_forL (fun xs ρ S' => ∃ (a : Nat) (ns' : List Int) (x y : Option D), xs = ns'.map D.int ∧ ρ = [some d, some (.int a), x, y] ∧ S = S' ∧ Gf a ns' = G ns) ⟨0, ns, none, none, rfl, rfl, rfl, rfl⟩ ?_ ?_
  · rintro x xs ρ S' ⟨a, ns', x', y', he, rfl, rfl, hg⟩
    cases ns' with
    | nil => cases he
    | cons i ns' =>
      simp at he
      obtain ⟨rfl, rfl⟩ := he
      simp [abs_nat]
      refine wp_sWhile (fun m ρ S' => ∃ a' b' : Nat, m = b' ∧ ρ = [some d, some (.int a'), some (.int i), some (.int b')] ∧ S = S' ∧ Nat.gcd a' b' = Nat.gcd a i.natAbs) i.natAbs ⟨a, i.natAbs, rfl, rfl, rfl, rfl⟩ ?_
      rintro b' ρ S' ⟨a', _, rfl, rfl, rfl, hab⟩
      by_cases hb : b' = 0
      · subst hb
        simp
        exact ⟨a', ns', rfl, rfl, by simp at hab; rw [hab]; exact hg⟩
      · simp [hb]
        refine ⟨by omega, a' % b', Nat.mod_lt _ (by omega), b', ⟨rfl, by simp⟩, ?_⟩
        rw [← hab, Nat.gcd_comm a' b', Nat.gcd_rec b' a', Nat.gcd_comm]
  · rintro ρ S' ⟨a, ns', x', y', he, rfl, rfl, hg⟩
    cases ns' with
    | cons i ns' => cases he
    | nil =>
      simp
      refine gcQ_cl (closed_int _ _) ⟨?_, by simp⟩
      simp [Gf] at hg
      rw [hg]
theorem law_primitive28 {d : D} {ns : List Int} (hd : itOf d S = .ok (ns.map D.int) S) (hb : ∀ i ∈ ns, i.natAbs < 2 ^ 2000) (h0 : G ns ≠ 0) (hl : ns.length ≤ 1000) : f__law_primitive_k28 [d] S = .ok (tI (ns.map fun i => i / (G ns : Int))) S := by
  refine eq_of_wp ?_
  unfold f__law_primitive_k28
  rw [wp_fnD]
  simp [g__law_primitive_k28, startD, law_divisor hd, hd]
  rw [cDiv _ (by simp [wipeD]) (G ns) (by simp [wipeD]) (divOk_G h0 hb) _ _ (by omega)]
  simp
  exact gcQ_cl (by simp) ⟨by simp, by simp⟩
end Sp
end
set_option maxHeartbeats 1000000
noncomputable section
namespace Sp
open PySem PySem.Spec PyProof.Rows L2 Fk Sm
end Sp
end
set_option maxHeartbeats 1000000
noncomputable section
namespace DB
open PySem PySem.Spec PyProof.Rows L2 Fk Sm Sp
variable {n : Nat} {T S : Store} {E : EX}
theorem oneD {xs : List D} {d : D} (h : Dk n T S) (hn : n ≤ 10 ^ 12) (hd : ∀ m S', Dk m T S' → dr S' d = .lst xs) (hx : xs ≠ []) (hl : xs.length ≤ 4000000) (hc : ∀ x ∈ xs, closed S.length x = true) : (f__law_one_k28 [.ref 1, d] S).wp (fun r S' => r ∈ xs ∧ Dk (n + 1) T S') E := by
  unfold f__law_one_k28
  rw [wp_fnD]
  have h0 : xs.length ≠ 0 := fun z => hx (List.eq_nil_of_length_eq_zero z)
  have e1 : lenD [d] S = some (.int xs.length) := by
    show (match dr S d with | .lst xs => _ | .tup xs => _ | .scr xs => _ | .str x => _ | .dct kvs => _ | _ => _) = _
    rw [hd _ _ h]
  simp [g__law_one_k28, startD, e1]
  refine (draw h hn (by omega) (log2_len hl)).no fun r S' ⟨i, e, d0, d1, hB⟩ => ?_
  subst e
  obtain ⟨y, hy, hix⟩ := atI_of d0 d1
  refine ⟨y, ?_, rt_cl (hc y hy) ⟨hy, ?_⟩⟩
  · unfold opIx
    rw [hd _ _ hB]
    exact hix
  · exact hB.take0 h.len
theorem one {xs : List D} (h : Dk n T S) (hn : n ≤ 10 ^ 12) (hx : xs ≠ []) (hl : xs.length ≤ 4000000) (hc : ∀ x ∈ xs, closed S.length x = true) : (f__law_one_k28 [.ref 1, .lst xs] S).wp (fun r S' => r ∈ xs ∧ Dk (n + 1) T S') E :=
  oneD h hn (fun _ _ _ => rfl) hx hl hc
theorem deck (ns : List Int) (hl : ns.length ≤ 63) : (f__law_deck_k28 [.scr (ns.map D.int)] []).wp (fun r S' => r = .ref 1 ∧ Dk 0 [] S') E := by
  unfold f__law_deck_k28
  rw [wp_fnD]
  have e1 : Fk.cutD (ns.map D.int) none (some 63) = ns.map D.int := by
    rw [show (63 : Int) = ((63 : Nat) : Int) from rfl, cutD_take]
    exact List.take_of_length_le (by simpa using hl)
  simp [g__law_deck_k28, startD, e1]
  rw [comp_ints fun i : Int => if i < 0 then -i else i]
  · generalize hm : (ns.map fun i : Int => if i < 0 then -i else i) = ms
    have hms : ∀ i ∈ ms, 0 ≤ i := fun i hi => by
      rw [← hm] at hi
      obtain ⟨j, _, rfl⟩ := List.mem_map.mp hi
      split <;> omega
    have hml : ms.length ≤ 63 := by rw [← hm]; simpa using hl
    simp [sz]
    refine ⟨by simp [closed], ?_⟩
    unfold gcQ
    simp [closed]
    exact ⟨ms, 0, rfl, hms, by decide, by decide, hml⟩
  · intro i _
    exact eq_of_wp (by simp [wipeD, sYes])
  · omega
theorem mark (h : Dk n T S) (hn : n ≤ 10 ^ 11) (far : Int) (hf : 6 ≤ far ∧ far ≤ 1000000) : (f__law_mark_k28 [.ref 1, .int far] S).wp (fun r S' => ∃ i, r = .int i ∧ -far ≤ i ∧ i ≤ far ∧ Dk (n + 3) T S') E := by
  unfold f__law_mark_k28
  rw [wp_fnD]
  simp [g__law_mark_k28, startD]
  refine (draw h (by omega) (by decide) (by decide +kernel)).no fun r S1 ⟨d, e, d0, d1, hB⟩ => ?_
  subst e
  by_cases h0 : d = 0
  · simp [h0]
    refine ⟨Fk.mulOk_of 5 30 (by decide) (by omega) (by decide), (draw hB (by omega) (by omega) (log2_of 30 (by decide) (by omega) (by omega))).no fun r S2 ⟨d, e, d0, d1, hB2⟩ => ?_⟩
    subst e
    simp [sz]
    refine (one hB2 (by omega) (by simp) (by simp) (by simp)).no fun r S3 ⟨hr, hB3⟩ => ?_
    simp at hr
    rcases hr with rfl | rfl | rfl | rfl
    · exact rt_cl (closed_int _ _) ⟨_, rfl, by omega, by omega, hB3.take0 h.len⟩
    · exact rt_cl (closed_int _ _) ⟨_, rfl, by omega, by omega, hB3.take0 h.len⟩
    · exact rt_cl (closed_int _ _) ⟨_, rfl, by omega, by omega, hB3.take0 h.len⟩
    · exact rt_cl (closed_int _ _) ⟨_, rfl, by omega, by omega, hB3.take0 h.len⟩
  · simp [h0]
    refine (draw hB (by omega) (by decide) (by decide +kernel)).no fun r S2 ⟨d, e, d0, d1, hB2⟩ => ?_
    subst e
    simp
    exact gcQ_cl (closed_int _ _) ⟨_, rfl, by omega, by omega, (hB2.mono (by omega)).take0 h.len⟩
/-- a row with marks in bounds -/
def RowF (m : Nat) (far : Int) (is : List Int) : Prop := is.length = m ∧ ∀ i ∈ is, -far - 2 ≤ i ∧ i ≤ far
theorem closed_row (k : Nat) (is : List Int) : closed k (rowD is) = true := by simp [rowD]
theorem mixed {d : D} {m : Nat} {far : Int} {rs : List (List Int)} (h : Dk n T S) (hn : n ≤ 10 ^ 11) (hd : ∀ m S', Dk m T S' → dr S' d = .lst (rs.map rowD)) (hne : rs ≠ []) (hl : rs.length ≤ 20) (hm : m ≤ 4) (hr : ∀ is ∈ rs, is.length = m ∧ ∀ i ∈ is, -far ≤ i ∧ i ≤ far) :
    (f__law_mixed_row [.ref 1, d] S).wp (fun r S' => ∃ is, r = rowD is ∧ RowF m far is ∧ Dk (n + 4) T S') E := by
  unfold f__law_mixed_row
  rw [wp_fnD]
  simp [g__law_mixed_row, startD]
  have hc : ∀ k : Nat, ∀ x ∈ rs.map rowD, closed k x = true := fun k x hx => by
    obtain ⟨is, _, rfl⟩ := List.mem_map.mp hx
    exact closed_row k is
  refine (oneD h (by omega) hd (by simpa using hne) (by simp; omega) (hc _)).no fun r S1 ⟨hr1, hB1⟩ => ?_
  obtain ⟨as, has, rfl⟩ := List.mem_map.mp hr1
  simp
  refine (oneD hB1 (by omega) hd (by simpa using hne) (by simp; omega) (hc _)).no fun r S2 ⟨hr2, hB2⟩ => ?_
  obtain ⟨bs, hbs, rfl⟩ := List.mem_map.mp hr2
  simp
  refine (draw hB2 (by omega) (by decide) (by decide +kernel)).no fun r S3 ⟨less, e, l0, l1, hB3⟩ => ?_
  subst e
  simp
  refine (draw hB3 (by omega) (by decide) (by decide +kernel)).no fun r S4 ⟨q, e, q0, q1, hB4⟩ => ?_
  subst e
  obtain ⟨al, ab⟩ := hr as has
  obtain ⟨bl, bb⟩ := hr bs hbs
  by_cases hq : q = 0
  · simp [hq, rowD]
    rw [comp_ints fun i : Int => i]
    · simp
      refine gcQ_cl (by simp) ⟨as, rfl, ⟨al, fun i hi => ?_⟩, hB4.take0 h.len⟩
      have := ab i hi
      omega
    · intro i _
      exact eq_of_wp (by simp [wipeD, sYes])
    · omega
  · simp [hq, rowD]
    rw [comp_ints fun p : Int × Int => (p.1 + p.2) / 2 - less]
    · generalize hz : ((as.zip bs).map fun p : Int × Int => (p.1 + p.2) / 2 - less) = zs
      simp
      refine gcQ_cl (by simp) ⟨zs, rfl, ⟨by rw [← hz]; simp [al, bl], fun i hi => ?_⟩, hB4.take0 h.len⟩
      rw [← hz] at hi
      obtain ⟨p, hp, rfl⟩ := List.mem_map.mp hi
      obtain ⟨h1, h2⟩ := List.of_mem_zip hp
      have := ab _ h1
      have := bb _ h2
      omega
    · rintro ⟨a, b⟩ _
      exact eq_of_wp (by simp [wipeD, sYes, divOk, show Nat.log2 2 < 9000 by decide])
    · simp; omega
end DB
end
set_option maxHeartbeats 2000000
noncomputable section
namespace DB
open PySem PySem.Spec PyProof.Rows L2 Fk Sm Sp
variable {n : Nat} {T S : Store} {E : EX}
theorem one_far (h : Dk n T S) (hn : n ≤ 10 ^ 12) : (f__law_one_k28 [.ref 1, .lst [.int 9, .int 60, .int 1000000]] S).wp (fun r S' => ∃ f, r = .int f ∧ 6 ≤ f ∧ f ≤ 1000000 ∧ Dk (n + 1) T S') E := by
  refine (one h hn (by simp) (by simp) (by simp)).conseq fun r S' ⟨hr, hB⟩ => ?_
  simp at hr
  rcases hr with rfl | rfl | rfl
  · exact ⟨_, rfl, by decide, by decide, hB⟩
  · exact ⟨_, rfl, by decide, by decide, hB⟩
  · exact ⟨_, rfl, by decide, by decide, hB⟩
/-- a small belief -/
def Bs (m : Nat) (ns : List Int) : Prop := ns.length = m ∧ (∀ i ∈ ns, 0 ≤ i ∧ i < 10 ^ 20) ∧ G ns = 1
theorem Bs.bl {m : Nat} {ns : List Int} (h : Bs m ns) : Bl m ns := ⟨h.1, fun i hi => (h.2.1 i hi).1, fun i hi => natAbs_pow (a := 80) (by have := h.2.1 i hi; omega) (by decide), h.2.2⟩
end DB
end
namespace Fk
open PySem PySem.Spec PyProof.Rows L2
@[simp] theorem tb_FrankError : frTbl.at "FrankError" = some (["FrankError"] : List Str) := by decide
@[simp] theorem tb_BadAnswers : frTbl.at "BadAnswers" = some (["BadAnswers", "FrankError"] : List Str) := by decide
@[simp] theorem tb_BadBatch : frTbl.at "BadBatch" = some (["BadBatch", "FrankError"] : List Str) := by decide
@[simp] theorem tb_BadBelief : frTbl.at "BadBelief" = some (["BadBelief", "FrankError"] : List Str) := by decide
@[simp] theorem tb_BadMark : frTbl.at "BadMark" = some (["BadMark", "FrankError"] : List Str) := by decide
@[simp] theorem tb_BadMenu : frTbl.at "BadMenu" = some (["BadMenu", "FrankError"] : List Str) := by decide
@[simp] theorem tb_BadNumber : frTbl.at "BadNumber" = some (["BadNumber", "FrankError"] : List Str) := by decide
@[simp] theorem tb_BadRow : frTbl.at "BadRow" = some (["BadRow", "FrankError"] : List Str) := by decide
@[simp] theorem tb_BadText : frTbl.at "BadText" = some (["BadText", "FrankError"] : List Str) := by decide
@[simp] theorem tb_Busy : frTbl.at "Busy" = some (["Busy", "FrankError"] : List Str) := by decide
@[simp] theorem tb_LastWord : frTbl.at "LastWord" = some (["LastWord", "FrankError"] : List Str) := by decide
@[simp] theorem tb_NoAnswer : frTbl.at "NoAnswer" = some (["NoAnswer", "FrankError"] : List Str) := by decide
@[simp] theorem tb_NoCell : frTbl.at "NoCell" = some (["NoCell", "FrankError"] : List Str) := by decide
@[simp] theorem tb_NotFrank : frTbl.at "NotFrank" = some (["NotFrank", "FrankError"] : List Str) := by decide
@[simp] theorem tb_NothingToUndo : frTbl.at "NothingToUndo" = some (["NothingToUndo", "FrankError"] : List Str) := by decide
@[simp] theorem tb_NoVersion : frTbl.at "NoVersion" = some (["NoVersion", "FrankError"] : List Str) := by decide
@[simp] theorem tb_NoWord : frTbl.at "NoWord" = some (["NoWord", "FrankError"] : List Str) := by decide
@[simp] theorem tb_Rejected : frTbl.at "Rejected" = some (["Rejected", "FrankError"] : List Str) := by decide
@[simp] theorem tb_TooFew : frTbl.at "TooFew" = some (["TooFew", "FrankError"] : List Str) := by decide
@[simp] theorem tb_TooGreat : frTbl.at "TooGreat" = some (["TooGreat", "FrankError"] : List Str) := by decide
@[simp] theorem tb_TooMany : frTbl.at "TooMany" = some (["TooMany", "FrankError"] : List Str) := by decide
@[simp] theorem tb_TooManyEdits : frTbl.at "TooManyEdits" = some (["TooManyEdits", "FrankError"] : List Str) := by decide
@[simp] theorem tb_Unlike : frTbl.at "Unlike" = some (["Unlike", "FrankError"] : List Str) := by decide
@[simp] theorem xf_BadAnswers_given {x : D} {S : Store} : opXf csGiven "given" (caught "BadAnswers" [("given", x)]) S = some x := by
  show (if csGiven.contains "BadAnswers" then lookF ["given"] [x] "given" else none) = _
  rw [if_pos (by decide)]
  simp [lookF]
@[simp] theorem xf_BadBelief_given {x : D} {S : Store} : opXf csGiven "given" (caught "BadBelief" [("given", x)]) S = some x := by
  show (if csGiven.contains "BadBelief" then lookF ["given"] [x] "given" else none) = _
  rw [if_pos (by decide)]
  simp [lookF]
@[simp] theorem xf_BadMark_given {x : D} {S : Store} : opXf csGiven "given" (caught "BadMark" [("given", x)]) S = some x := by
  show (if csGiven.contains "BadMark" then lookF ["given"] [x] "given" else none) = _
  rw [if_pos (by decide)]
  simp [lookF]
@[simp] theorem xf_BadNumber_given {x : D} {S : Store} : opXf csGiven "given" (caught "BadNumber" [("given", x)]) S = some x := by
  show (if csGiven.contains "BadNumber" then lookF ["given"] [x] "given" else none) = _
  rw [if_pos (by decide)]
  simp [lookF]
@[simp] theorem xf_BadRow_given {x : D} {S : Store} : opXf csGiven "given" (caught "BadRow" [("given", x)]) S = some x := by
  show (if csGiven.contains "BadRow" then lookF ["given"] [x] "given" else none) = _
  rw [if_pos (by decide)]
  simp [lookF]
@[simp] theorem xf_BadText_given {x : D} {S : Store} : opXf csGiven "given" (caught "BadText" [("given", x)]) S = some x := by
  show (if csGiven.contains "BadText" then lookF ["given"] [x] "given" else none) = _
  rw [if_pos (by decide)]
  simp [lookF]
@[simp] theorem xf_NoAnswer_given {x : D} {S : Store} : opXf csGiven "given" (caught "NoAnswer" [("given", x)]) S = some x := by
  show (if csGiven.contains "NoAnswer" then lookF ["given"] [x] "given" else none) = _
  rw [if_pos (by decide)]
  simp [lookF]
@[simp] theorem xf_NoVersion_given {x : D} {S : Store} : opXf csGiven "given" (caught "NoVersion" [("given", x)]) S = some x := by
  show (if csGiven.contains "NoVersion" then lookF ["given"] [x] "given" else none) = _
  rw [if_pos (by decide)]
  simp [lookF]
@[simp] theorem xf_NoWord_given {x : D} {S : Store} : opXf csGiven "given" (caught "NoWord" [("given", x)]) S = some x := by
  show (if csGiven.contains "NoWord" then lookF ["given"] [x] "given" else none) = _
  rw [if_pos (by decide)]
  simp [lookF]
@[simp] theorem xf_NoCell_word {x : D} {S : Store} : opXf csWord "word" (caught "NoCell" [("word", x)]) S = some x := by
  show (if csWord.contains "NoCell" then lookF ["word"] [x] "word" else none) = _
  rw [if_pos (by decide)]
  simp [lookF]
@[simp] theorem xf_TooMany_limit {x : D} {S : Store} : opXf csLimit "limit" (caught "TooMany" [("limit", x)]) S = some x := by
  show (if csLimit.contains "TooMany" then lookF ["limit"] [x] "limit" else none) = _
  rw [if_pos (by decide)]
  simp [lookF]
@[simp] theorem xf_BadMenu_error {x : D} {S : Store} : opXf csError "error" (caught "BadMenu" [("error", x)]) S = some x := by
  show (if csError.contains "BadMenu" then lookF ["error"] [x] "error" else none) = _
  rw [if_pos (by decide)]
  simp [lookF]
@[simp] theorem xf_Rejected_index {x : D} {S : Store} : opXf csIndex "index" (caught "Rejected" [("index", x)]) S = some x := by
  show (if csIndex.contains "Rejected" then lookF ["index"] [x] "index" else none) = _
  rw [if_pos (by decide)]
  simp [lookF]
section
variable {ρ : Env} {S : Store} {k : KS} {fs : List (Str × D)} {x : Str} {i : Option Nat} {g : SemS} {r : List (Str × Option Nat × SemS)}
/-- the first clause fits -/
theorem hd_yes {c : Str} {anc : List Str} (h : anc.contains x = true := by decide) : (goH c fs anc ((x, i, g) :: r) ρ S).wp k = (g (inE i (caught c fs) ρ) S).wp (kHd i k) := wp_goH_yes _ _ _ _ _ _ _ h
end
theorem catL_of {S : Store} {n : Nat} {b : Bool} {xs ys : List D} (h : S[n]? = some (.lst b xs)) (hs : xs.length + ys.length ≤ 4000000) : opCatL (.ref n) (.lst ys) S = some (xs ++ ys) := by
  unfold opCatL
  rw [dr_of h]
  simp [sz, hs]
end Fk
set_option maxHeartbeats 1000000
noncomputable section
namespace Sp
open PySem PySem.Spec PyProof.Rows L2 Fk Sm
variable {n : Nat} {T S : Store} {E : EX}
def col (rs : List (List Int)) (a : Nat) : List Int := rs.map fun is => is.getD a 0
def tops (m : Nat) (rs : List (List Int)) : List Int := (List.range m).map fun a => maxL (col rs a)
def lossR (m : Nat) (rs : List (List Int)) (w : Nat) : List Int := ((tops m rs).zip (rs.getD w [])).map fun p => p.1 - p.2
def fi (ns : List Int) (a : Int) : Nat := ns.findIdx fun z => decide (z = a)
theorem index_ints {ns : List Int} {a : Int} (h : a ∈ ns) : opIndex (lI ns) (.int a) S = some (.int (fi ns a : Nat)) := by
  unfold opIndex idxD
  simp only [lI, dr_lst, dr_int, datIs, dat, Option.bind_some, shaped_int, shLI, Bool.and_self, if_true]
  have key : ∀ ns : List Int, a ∈ ns → (ns.map PyData.int).findIdx? (fun z => PyData.eqv z (.int a)) = some (fi ns a) := fun ns => by
    intro h
    rw [List.findIdx?_map]
    have e : ((fun z => PyData.eqv z (.int a)) ∘ PyData.int) = fun z : Int => decide (z = a) := by
      funext z
      simp [PyData.eqv]
      by_cases q : z = a <;> simp [q]
    rw [e]
    unfold fi
    rw [List.findIdx?_eq_some_iff_findIdx_eq]
    exact ⟨List.findIdx_lt_length_of_exists ⟨a, h, by simp⟩, rfl⟩
  rw [key ns h]
  rfl
theorem col_len (rs : List (List Int)) (a : Nat) : (col rs a).length = rs.length := by simp [col]
theorem col_ne {m : Nat} {rs : List (List Int)} (h : Mn m rs) (a : Nat) : col rs a ≠ [] := by
  obtain ⟨is, rest, rfl, _⟩ := h.at0
  simp [col]
theorem row_at {m : Nat} {is : List Int} (h : RowOk m is) {a : Nat} (ha : a < m) : atI (is.map D.int) (a : Int) = some (.int (is.getD a 0)) := by
  rw [Fk.atI_nat]
  have : a < is.length := by rw [h.1]; exact ha
  simp [this]
theorem cCol {m a : Nat} {rs : List (List Int)} (h : Mn m rs) (ha : a < m) (ρ : Fk.Env) (i j : Nat) (hij : i ≠ j) (hi : i < ρ.length) (hj : ρ[j]? = some (some (.int a))) : compGo (compStep (gN i) sYes (eBin opIx (eVar i) (eVar j)) ρ) (rs.map rowD) [] S = .ok ((col rs a).map D.int) S := by
  unfold col
  rw [comp_ints fun is : List Int => is.getD a 0]
  · intro is his
    have e := row_at (h.row is his) ha
    refine eq_of_wp ?_
    simp only [wp_compStep, gN_eq, Option.some.injEq, exists_eq_left', wp_sYes, kCs_t, wp_eBin, wp_eVar, kB1_eq, kB2_eq]
    refine ⟨rowD is, by simp [hi], .int a, by simp [List.getElem?_set_ne hij, hj], .int (is.getD a 0), ?_, by simp⟩
    exact e
  · have := h.len; omega
theorem tops_of {m : Nat} {rs : List (List Int)} (h : Mn m rs) : f_tops_of [mD rs] S = .ok (tI (tops m rs)) S := by
  refine eq_of_wp ?_
  unfold f_tops_of
  rw [wp_fnD]
  obtain ⟨is, hat, hil⟩ := h.at0D
  have hlen : lenD [rowD is] S = some (.int m) := by
    show some (D.int _) = _
    simp [hil]
  have m4 := h.m4
  simp [g_tops_of, startD, hat, hlen, okR, rng_eq]
  refine ⟨by omega, ?_⟩
  rw [comp_ints fun a : Nat => maxL (col rs a)]
  · show (Out.ok ((tops m rs).map D.int) S).wp _ _
    generalize tops m rs = ts
    simp
    exact gcQ_cl (by simp) ⟨by simp, by simp⟩
  · intro a ha
    have ha : a < m := by simpa using ha
    refine eq_of_wp ?_
    simp [wipeD, sYes]
    rw [cCol h ha _ 2 1 (by decide) (by simp) (by simp)]
    have e : f_most_of [.lst ((col rs a).map D.int)] S = .ok (.int (maxL (col rs a))) S := most_of rfl (col_ne h a) (by rw [col_len]; have := h.len; omega)
    simp only [wp_ok, kF_eq, kA1_eq, wp_aNil, kA2_eq, kCall_eq, List.append_nil, e]
    simp
  · simp; omega
theorem tops_len (m : Nat) (rs : List (List Int)) : (tops m rs).length = m := by simp [tops]
theorem lossR_len {m w : Nat} {rs : List (List Int)} (h : Mn m rs) (hw : w < rs.length) : (lossR m rs w).length = m := by
  have := (h.row _ (List.getElem_mem hw)).1
  simp [lossR, tops_len, List.getD, hw, this]
theorem lossR_ne {m w : Nat} {rs : List (List Int)} (h : Mn m rs) (hw : w < rs.length) : lossR m rs w ≠ [] := fun z => by
  have := lossR_len h hw
  rw [z] at this
  have := h.m2
  simp at *
  omega
theorem word_ok {i : Nat} {rs : List (List Int)} (hi : i < rs.length) : f_require_word [mD rs, .int i] S = .ok .non S := by
  have e := require_word (S := S) (ds := rs.map rowD) (x := .int i) (Gd.ofLog (b := i.log2 + 1) (w := i.log2 + 3) (k := 0) (by simp) (by simp))
  have hin : Sp.inR 0 ((rs.length : Int) - 1) (.int i) = true := by simp [Sp.inR]; omega
  simp only [List.length_map, hin, if_true] at e
  exact e
theorem row_ix {i : Nat} {rs : List (List Int)} (hi : i < rs.length) : atI (rs.map rowD) (i : Int) = some (rowD rs[i]) := by rw [Fk.atI_nat]; simp [hi]
theorem greatest_loss {m w : Nat} {rs : List (List Int)} (h : Mn m rs) (hw : w < rs.length) : f_greatest_loss [mD rs, .int w] S = .ok (.tup [.int (maxL (lossR m rs w)), .int (fi (lossR m rs w) (maxL (lossR m rs w)) : Nat)]) S := by
  refine eq_of_wp ?_
  unfold f_greatest_loss
  rw [wp_fnD]
  have hr := h.row _ (List.getElem_mem hw)
  simp [g_greatest_loss, startD, word_ok hw, tops_of h, row_ix hw, rowD]
  rw [comp_ints fun p : Int × Int => p.1 - p.2]
  · have e : (((tops m rs).zip rs[w]).map fun p : Int × Int => p.1 - p.2) = lossR m rs w := by simp [lossR, List.getD, hw]
    rw [e]
    have hne := lossR_ne h hw
    have hl := lossR_len h hw
    generalize lossR m rs w = ls at hne hl
    have em : f_most_of [.lst (ls.map D.int)] S = .ok (.int (maxL ls)) S := most_of rfl hne (by have := h.m4; omega)
    have ei := index_ints (S := S) (maxL_mem hne)
    simp [em, ei, isL, sz]
    exact gcQ_cl (by simp) ⟨by simp, by simp⟩
  · rintro ⟨a, b⟩ _
    exact eq_of_wp (by simp [wipeD, sYes])
  · simp [tops_len]; have := h.m4; omega
theorem least_of {d : D} {ns : List Int} (hd : itOf d S = .ok (ns.map D.int) S) (h0 : ns ≠ []) (hl : ns.length ≤ 1000) : f_least_of [d] S = .ok (.int (minL ns)) S := by
  refine eq_of_wp ?_
  unfold f_least_of
  rw [wp_fnD]
  simp [g_least_of, startD, hd]
  rw [comp_ints fun i : Int => i]
  · simp [min_ints h0]
    exact gcQ_cl (by simp) ⟨by simp, by simp⟩
  · intro i _
    exact eq_of_wp (by simp [wipeD, sYes])
  · omega
theorem law_least30 {d : D} {ns : List Int} (hd : itOf d S = .ok (ns.map D.int) S) (h0 : ns ≠ []) (hl : ns.length ≤ 1000) : f__law_least_k30 [d] S = .ok (.int (minL ns)) S := by
  refine eq_of_wp ?_
  unfold f__law_least_k30
  rw [wp_fnD]
  simp [g__law_least_k30, startD, hd]
  rw [comp_ints fun i : Int => i]
  · simp [min_ints h0]
    exact gcQ_cl (by simp) ⟨by simp, by simp⟩
  · intro i _
    exact eq_of_wp (by simp [wipeD, sYes])
  · omega
/-- the greatest losses of all words -/
def gls (m : Nat) (rs : List (List Int)) : List Int := (List.range rs.length).map fun w => maxL (lossR m rs w)
theorem steady {m : Nat} {rs : List (List Int)} (h : Mn m rs) : f_steady [mD rs] S = .ok (.tup [.int (fi (gls m rs) (minL (gls m rs)) : Nat), .int (minL (gls m rs))]) S := by
  refine eq_of_wp ?_
  unfold f_steady
  rw [wp_fnD]
  have hrl := h.len
  simp [g_steady, startD, okR, rng_eq]
  refine ⟨by omega, ?_⟩
  rw [comp_ints fun w : Nat => maxL (lossR m rs w)]
  · show (Out.ok ((gls m rs).map D.int) S).wp _ _
    have hne : gls m rs ≠ [] := fun z => by
      have : (gls m rs).length = rs.length := by simp [gls]
      rw [z] at this
      exact h.ne (List.eq_nil_of_length_eq_zero this.symm)
    have hl : (gls m rs).length ≤ 1000 := by simp [gls]; omega
    generalize gls m rs = ls at hne hl
    have em : f_least_of [.lst (ls.map D.int)] S = .ok (.int (minL ls)) S := least_of rfl hne hl
    have ei := index_ints (S := S) (minL_mem hne)
    simp [em, ei, isL, sz]
    exact gcQ_cl (by simp) ⟨by simp, by simp⟩
  · intro w hw
    have hw : w < rs.length := by simpa using hw
    exact eq_of_wp (by simp [wipeD, sYes, greatest_loss h hw])
  · simp; omega
end Sp
end
set_option maxHeartbeats 1000000
namespace Fk
open PySem PySem.Spec PyProof.Rows L2 LamX
/-- what has become of the tracked heap when a lambda was made -/
def Made (H : Hp) (P c : Addr) (q : Str) (H1 : Hp) : Prop := H1 = H ∨ ∃ ps more, H P = some (.tbl ps) ∧ H c = none ∧ H1 = upd (upd H P (.tbl (ps ++ more))) c (CodeO c q)
theorem Made.tab {H H1 : Hp} {P c P2 : Addr} {q q2 : Str} (m : Made H P c q H1) (hne : P2 ≠ P) (t : TabS H P2 q2) : TabS H1 P2 q2 := by
  rcases m with rfl | ⟨ps, more, tP, nc, rfl⟩
  · exact t
  · obtain ⟨ps2, a1, a2, a3⟩ := t
    refine ⟨ps2, by rw [upd_ne (ne_of_none a1 nc), upd_ne hne]; exact a1, a2, fun pos v hv => ?_⟩
    obtain ⟨d, e1, e2⟩ := a3 pos v hv
    refine ⟨d, e1, ?_⟩
    rw [upd_ne (ne_of_none e2 nc), upd_ne (ne_of e2 tP (codeO_ne ps))]
    exact e2
def hdl (tbl : XTbl) (c : Str) (fs : List (Str × D)) (hds : List (Str × Option Nat × SemS)) (ρ : Env) (S : Store) : OutS := match tbl.at c with
  | some anc => goH c fs anc hds ρ S
  | none => .stuck
section
end
section
end
end Fk
set_option maxHeartbeats 1000000
namespace Fk
open PySem PySem.Spec PyProof.Rows L2
def asKs : List D → Option (List Key)
  | [] => some []
  | d :: r => match keyOf d, asKs r with
    | some k, some ks => some (k :: ks)
    | _, _ => none
def keyT : Key → D
  | .inl i => .int i
  | .inr x => .str x
theorem CellOk.nt {K : PySem.W.Frag} {mg : Str → Option Value} {F H : Hp} {ι : List Addr} {a : Addr} {c : Cell} (sub : Same F H) (h : CellOk K mg F ι H a c) : ∀ xs, H a ≠ some (.tup xs) := by
  intro xs z
  cases c with
  | lst b ds =>
    cases b with
    | true => obtain ⟨vs, h, _⟩ := h; rw [h] at z; cases z
    | false => obtain ⟨vs, h, _⟩ := h; rw [sub _ _ h] at z; cases z
  | dK kds => obtain ⟨vs, h, _⟩ := h; rw [h] at z; cases z
  | dT kds => obtain ⟨vs, h, _⟩ := h; rw [h] at z; cases z
  | ins c fs => obtain ⟨_, _, _, _, h, _⟩ := h; rw [h] at z; cases z
  | fT kds => obtain ⟨_, _, h, _⟩ := h; rw [sub _ _ h] at z; cases z
  | fK kds => obtain ⟨_, _, h, _⟩ := h; rw [sub _ _ h] at z; cases z
  | fn q d => obtain ⟨_, ⟨_, _, _, _, _, _, _, _, _, _, h, _⟩, _⟩ := h; rw [sub _ _ h] at z; cases z
  | gone => obtain ⟨_, _, _, h⟩ := h; rw [sub _ _ h] at z; cases z
/-- all tuples are frozen -/
def tupF (F H : Hp) : Hp := fun b => match H b with
  | some (.tup xs) => some (.tup xs)
  | _ => F b
theorem tupF_at {F H : Hp} {b : Addr} {xs : List V} (h : H b = some (.tup xs)) : tupF F H b = some (.tup xs) := by unfold tupF; rw [h]
theorem tupF_no {F H : Hp} {b : Addr} (h : ∀ xs, H b ≠ some (.tup xs)) : tupF F H b = F b := by
  unfold tupF
  split
  · next xs e => exact (h xs e).elim
  · rfl
theorem Sim.tups {K : PySem.W.Frag} {mg : Str → Option Value} {F H : Hp} {ι : List Addr} {S : Store} (s : Sim K mg F ι S H) : Step F ι H (tupF F H) ι H ∧ Sim K mg (tupF F H) ι S H := by
  have same : Same F (tupF F H) := fun b o e => by
    by_cases h : ∃ xs, H b = some (.tup xs)
    · obtain ⟨xs, h⟩ := h
      have := s.sub b o e
      rw [h] at this
      cases this
      exact tupF_at h
    · rw [tupF_no fun xs z => h ⟨xs, z⟩]
      exact e
  have x : Ext F ι (tupF F H) ι := ⟨same, List.prefix_rfl⟩
  refine ⟨⟨x, fun b o e1 e2 e3 k => ⟨e1, ?_, e3⟩, fun _ h => h⟩, fun b o e => ?_, s.len, s.nd, fun n a c ha hc => ?_, s.cl, s.tab, fun b ps e => ?_, s.tt⟩
  · rw [tupF_no fun xs z => by rw [e1] at z; cases z; exact k]
    exact e2
  · by_cases h : ∃ xs, H b = some (.tup xs)
    · obtain ⟨xs, h⟩ := h
      rw [tupF_at h] at e
      rw [h]
      exact e
    · rw [tupF_no fun xs z => h ⟨xs, z⟩] at e
      exact s.sub b o e
  · have ok := s.cell n a c ha hc
    exact ok.mono x (fun e => by rw [tupF_no (ok.nt s.sub)]; exact e) fun _ e => e
  · by_cases h : ∃ xs, H b = some (.tup xs)
    · obtain ⟨xs, h⟩ := h
      rw [tupF_at h] at e
      cases e
    · rw [tupF_no fun xs z => h ⟨xs, z⟩] at e
      exact s.nt b ps e
section
variable {X : Cx} {W : WX} {o e : Expr} {f g : SemE} {pos : Pos}
def eNewT : SemE := fun _ S => .ok (.ref S.length) (S ++ [.dT []])
def tputC (x k y : D) (S : Store) : Option Store := match x, k with
  | .ref n, .tup ds => (match S[n]?, asKs ds with
    | some (.dT kds), some ks => if sz kds.length && closed n y then some (S.set n (.dT (putD kds ks y))) else none
    | _, _ => none)
  | _, _ => none
def sTPut (fo fi fe : SemE) : SemS := fun ρ S => toS (fe ρ S) ρ fun y S1 => toS (fo ρ S1) ρ fun x S2 => toS (fi ρ S2) ρ fun i S3 => match tputC x i y S3 with
  | some S4 => .nx ρ S4
  | none => .stuck
end
section
variable {ρ : Env} {S : Store} {k : KS} {Q : D → Store → Prop} {E : EX}
@[simp] theorem wp_eNewT : (eNewT ρ S).wp Q E = Q (.ref S.length) (S ++ [.dT []]) := wp_ok _
def kTP1 (fo fi : SemE) (ρ : Env) (k : KS) (y : D) (S : Store) : Prop := (fo ρ S).wp (fun x S2 => (fi ρ S2).wp (fun i S3 => ∃ S4, tputC x i y S3 = some S4 ∧ k.nx ρ S4) (kEx k ρ)) (kEx k ρ)
def kTP2 (fi : SemE) (ρ : Env) (k : KS) (y x : D) (S : Store) : Prop := (fi ρ S).wp (fun i S3 => ∃ S4, tputC x i y S3 = some S4 ∧ k.nx ρ S4) (kEx k ρ)
def kTP3 (ρ : Env) (k : KS) (y x i : D) (S : Store) : Prop := ∃ S4, tputC x i y S = some S4 ∧ k.nx ρ S4
@[simp] theorem kTP1_eq (fo fi : SemE) (y : D) : kTP1 fo fi ρ k y S = (fo ρ S).wp (kTP2 fi ρ k y) (kEx k ρ) := rfl
@[simp] theorem kTP2_eq (fi : SemE) (y x : D) : kTP2 fi ρ k y x S = (fi ρ S).wp (kTP3 ρ k y x) (kEx k ρ) := rfl
@[simp] theorem kTP3_eq (y x i : D) : kTP3 ρ k y x i S = ∃ S4, tputC x i y S = some S4 ∧ k.nx ρ S4 := rfl
@[simp] theorem wp_sTPut (fo fi fe : SemE) : (sTPut fo fi fe ρ S).wp k = (fe ρ S).wp (kTP1 fo fi ρ k) (kEx k ρ) := by
  unfold sTPut kTP1
  simp only [wpS_toS]
  congr 1
  funext y S1
  congr 1
  funext x S2
  congr 1
  funext i S3
  cases tputC x i y S3 <;> simp
@[simp] theorem asKs_ints : ∀ ns : List Int, asKs (ns.map D.int) = some (ns.map Sum.inl)
  | [] => rfl
  | n :: ns => by rw [List.map_cons, asKs, asKs_ints ns]; rfl
@[simp] theorem keyT_ints (ns : List Int) : (ns.map (Sum.inl : Int → Key)).map keyT = ns.map D.int := by
  rw [List.map_map]
  rfl
end
end Fk
set_option maxHeartbeats 4000000
namespace Fk
open PySem PySem.Spec PyProof.Rows L2
section
end
section
variable {P : Program} {w : World} {K : PySem.W.Frag} {mg : Str → Option Value} {base : Heap} {x y qual : Str} {params : Arguments} {body : List Stmt} {scope : Scope} {kws : List (Str × V)} {f : Addr} {fd : FuncData} {ps : List Str} {k : Nat} {fs : FSem} {dvs : List V} {dd : List D}
theorem Fn.allN (F : FunD K x qual params body scope [] kws f fd) (hm : mg y = Option.some (.ref f)) (G : FnG P w K mg base k f fd ps (spD K mg ps.length fs))
    (h : ∀ (kV doc pm : Value) (an : Option Addr) (cdv ct : Value) (us : List Value), us.length = ps.length → bindArgs (PySem.W.fnOf x qual params body scope .none kV doc pm an cdv ct) ⟨us, []⟩ = pure (ps.zip us)) : Fn P w K mg base k y ps [] fs :=
  ⟨f, fd, [], [], hm, F.kp, G, F.bindsN h, .nil, fun _ _ _ => .nil⟩
end
end Fk
set_option maxHeartbeats 4000000
namespace Fk
open PySem PySem.Spec PyProof.Rows L2
def comp2Go (g : SemG) (t : SemT) (it1 : SemA) (g1 : SemG) (t1 : SemT) (e : SemE) (vs1 : List Nat) (ρ : Env) : List D → List D → Store → Out (List D)
  | [], acc, S => .ok acc S
  | x :: xs, acc, S => match g x ρ S with
    | some ρ1 => (noX (t ρ1 S)).bind fun b S2 => if b then (noX (it1 ρ1 S2)).bind fun ys S3 => (compGo (compStep g1 t1 e (wipeD ρ1 vs1)) ys acc S3).bind fun acc' S4 => comp2Go g t it1 g1 t1 e vs1 ρ xs acc' S4
      else comp2Go g t it1 g1 t1 e vs1 ρ xs acc S2
    | none => .stuck
def lComp2 (it : SemA) (g : SemG) (t : SemT) (it1 : SemA) (g1 : SemG) (t1 : SemT) (e : SemE) (vs vs1 : List Nat) : SemA := fun ρ S => (it ρ S).bind fun xs S1 => comp2Go g t it1 g1 t1 e vs1 (wipeD ρ vs) xs [] S1
section
variable {X : Cx} {W : WX}
theorem step0 {F F' H' : Hp} {ι ι' : List Addr} (x : Ext F ι F' ι') : Step F ι (fun _ => none) F' ι' H' := ⟨x, fun b o e1 _ _ => by simp at e1, fun b _ => rfl⟩
theorem tG_comp2 {p : Pl} {fi : SemA} {g : SemG} {t : SemT} {fi1 : SemA} {g1 : SemG} {t1 : SemT} {e : SemE} {vs vs' ws ws' : List Nat} (hvs : ∀ i ∈ vs', i ∈ vs) (hws : ∀ i ∈ ws', i ∈ ws) {σ : L2.St} {H : Hp} {Q : VK} (h : tG p (RL' p.K) (lComp2 fi g t fi1 g1 t1 e vs ws) σ H Q) :
    tLc2 (tG p (RI' p.K) fi) (tPG p.K p.mg g vs') (tT ⟨p.K, p.mg, WF⟩ t) (tG ⟨p.K, p.mg, WF⟩ (RI' p.K) fi1) (tPG p.K p.mg g1 ws') (tT ⟨p.K, p.mg, WF⟩ t1) (tE ⟨p.K, p.mg, WF⟩ e) vs ws σ H Q := by
  obtain ⟨F, ι, ρ, S, sm, r, q⟩ := h
  refine ⟨F, ι, ρ, S, sm, r, post_bind (R := RI' p.K) q fun xs S1 F1 ι1 J H1 x1 s1 wk q1 => ?_⟩
  have wk : Walks p.K F1 ι1 J xs := wk
  intro Dl hD
  -- what is known between two turns
  let In : List D → Hp → Prop := fun rest H' => ∃ F' ι' S' acc vs1, Step F1 ι1 H1 F' ι' H' ∧ Sim p.K p.mg F' ι' S' H' ∧ H' Dl = some (.lst vs1) ∧ F' Dl = none ∧ Dl ∉ ι' ∧ RelAll p.K F' ι' vs1 acc ∧ Post p (RL' p.K) F1 ι1 H1 σ (comp2Go g t fi1 g1 t1 e ws (wipeD ρ vs) rest acc S') Q
  refine ⟨fun i m H' => i + m = xs.length ∧ In (xs.drop i) H', ⟨xs.length, by omega, F1, ι1, S1, [], [], (s1.loose hD).1, (s1.loose hD).2, upd_same, (s1.fresh hD).1, (s1.fresh hD).2, .nil, by simpa using q1⟩, fun i m H' hW => ?_⟩
  obtain ⟨hm, F2, ι2, S2, acc, vs1, x2, s2, hH, hF, hI, ra, q2⟩ := hW
  by_cases hlt : i < xs.length
  · refine .inr ⟨wk.go H' i (x2.same.trans s2.sub) hlt, fun H3 => In (xs.drop (i + 1)) H3, fun H3 h3 => ⟨m - 1, by omega, by omega, h3⟩, fun x H3 hy => ?_⟩
    obtain ⟨d, hd, y⟩ := wk.yld H' i x H3 (x2.same.trans s2.sub) hlt hy
    obtain ⟨F3, x3, s3, r3⟩ := y.sim x2 s2
    have hdrop : xs.drop i = d :: xs.drop (i + 1) := by
      rw [List.drop_eq_getElem_cons hlt]
      congr 1
      rw [List.getElem?_eq_getElem hlt] at hd
      exact Option.some.inj hd
    rw [hdrop] at q2
    unfold comp2Go at q2
    obtain ⟨hH3, hF3, hI3⟩ := x3.keep Dl _ hH hF hI trivial
    cases hz : g d (wipeD ρ vs) S2 with
    | none =>
      rw [hz] at q2
      exact q2.elim
    | some ρ1 =>
      rw [hz] at q2
      refine ⟨F3, ι2, wipeD ρ vs, S2, d, ρ1, s3, ((r.mono ((x1.trans x2).trans x3)).wipe vs), r3, hz, fun σ4 r4 w4 => ⟨?_, F3, ι2, ρ1, S2, s3, r4, ?_⟩⟩
      · rw [w4 vs hvs, wipe_wipe]
      · cases ht : t ρ1 S2 with
        | exc c fs S3 =>
          simp only [ht, noX, Out.stuck_bind] at q2
          exact q2.elim
        | stuck =>
          simp only [ht, noX, Out.stuck_bind] at q2
          exact q2.elim
        | ok b S3 =>
          intro F4 ι4 b' H4 x4 s4 rb
          cases (show b' = b from rb)
          simp only [ht, noX_ok, Out.ok_bind] at q2
          obtain ⟨hH4, hF4, hI4⟩ := x4.keep Dl _ hH3 hF3 hI3 trivial
          cases b with
          | false =>
            simp only [Bool.false_eq_true, if_false] at q2
            exact ⟨F4, ι4, S3, acc, vs1, (x2.trans x3).trans x4, s4, hH4, hF4, hI4, RelAll.mono (x3.trans x4) ra, q2⟩
          | true =>
            simp only [if_true] at q2
            refine ⟨F4, ι4, ρ1, S3, s4, r4.mono x4, ?_⟩
            cases hi1 : fi1 ρ1 S3 with
            | exc c fs S4 =>
              simp only [hi1, noX, Out.stuck_bind] at q2
              exact q2.elim
            | stuck =>
              simp only [hi1, noX, Out.stuck_bind] at q2
              exact q2.elim
            | ok ys S4 =>
              intro F5 ι5 J1 H5 x5 s5 wk1
              have wk1 : Walks p.K F5 ι5 J1 ys := wk1
              simp only [hi1, noX_ok, Out.ok_bind] at q2
              obtain ⟨hH5, hF5, hI5⟩ := x5.keep Dl _ hH4 hF4 hI4 trivial
              have x25 := ((x2.trans x3).trans x4).trans x5
              let In1 : List D → Hp → Prop := fun rest H' => ∃ F' ι' S' acc vs1, Ext F5 ι5 F' ι' ∧ Step F1 ι1 H1 F' ι' H' ∧ Sim p.K p.mg F' ι' S' H' ∧ H' Dl = some (.lst vs1) ∧ F' Dl = none ∧ Dl ∉ ι' ∧ RelAll p.K F' ι' vs1 acc ∧ Post p (RL' p.K) F1 ι1 H1 σ ((compGo (compStep g1 t1 e (wipeD ρ1 ws)) rest acc S').bind fun acc' S4 => comp2Go g t fi1 g1 t1 e ws (wipeD ρ vs) (xs.drop (i + 1)) acc' S4) Q
              refine ⟨fun j k H' => j + k = ys.length ∧ In1 (ys.drop j) H', ⟨ys.length, by omega, F5, ι5, S4, acc, vs1, Ext.refl _ _, x25, s5, hH5, hF5, hI5, RelAll.mono ((x3.trans x4).trans x5) ra, by simpa using q2⟩, fun j k H6 hW1 => ?_⟩
              obtain ⟨hk, F6, ι6, S6, acc6, vs6, e6, x6, s6, hH6, hF6, hI6, ra6, q6⟩ := hW1
              by_cases hlt1 : j < ys.length
              · refine .inr ⟨wk1.go H6 j (e6.same.trans s6.sub) hlt1, fun H7 => In1 (ys.drop (j + 1)) H7, fun H7 h7 => ⟨k - 1, by omega, by omega, h7⟩, fun z H7 hy7 => ?_⟩
                obtain ⟨d7, hd7, y7⟩ := wk1.yld H6 j z H7 (e6.same.trans s6.sub) hlt1 hy7
                obtain ⟨F7, x7, s7, r7⟩ := y7.sim (step0 (H' := H6) e6) s6
                have hdrop7 : ys.drop j = d7 :: ys.drop (j + 1) := by
                  rw [List.drop_eq_getElem_cons hlt1]
                  congr 1
                  rw [List.getElem?_eq_getElem hlt1] at hd7
                  exact Option.some.inj hd7
                rw [hdrop7] at q6
                unfold compGo at q6
                obtain ⟨hH7, hF7, hI7⟩ := x7.keep Dl _ hH6 hF6 hI6 trivial
                have rρ1 : REnv p.K F7 ι6 σ4 ρ1 := ((r4.mono (x4.trans x5)).mono (step0 (H' := H6) e6)).mono x7
                cases hz1 : g1 d7 (wipeD ρ1 ws) S6 with
                | none =>
                  unfold compStep at q6
                  rw [hz1] at q6
                  exact q6.elim
                | some ρ2 =>
                  unfold compStep at q6
                  rw [hz1] at q6
                  refine ⟨F7, ι6, wipeD ρ1 ws, S6, d7, ρ2, s7, rρ1.wipe ws, r7, hz1, fun σ8 r8 w8 => ⟨?_, F7, ι6, ρ2, S6, s7, r8, ?_⟩⟩
                  · rw [w8 ws hws, wipe_wipe]
                  · cases ht1 : t1 ρ2 S6 with
                    | exc c fs S8 =>
                      simp only [ht1, noX, Out.stuck_bind] at q6
                      exact q6.elim
                    | stuck =>
                      simp only [ht1, noX, Out.stuck_bind] at q6
                      exact q6.elim
                    | ok b8 S8 =>
                      intro F8 ι8 b' H8 x8 s8 rb8
                      cases (show b' = b8 from rb8)
                      simp only [ht1, noX_ok, Out.ok_bind] at q6
                      obtain ⟨hH8, hF8, hI8⟩ := x8.keep Dl _ hH7 hF7 hI7 trivial
                      cases b8 with
                      | false =>
                        simp only [Bool.false_eq_true, if_false, Out.ok_bind] at q6
                        exact ⟨F8, ι8, S8, acc6, vs6, (e6.trans x7.toExt).trans x8.toExt, (x6.trans x7).trans x8, s8, hH8, hF8, hI8, RelAll.mono (x7.trans x8) ra6, q6⟩
                      | true =>
                        simp only [if_true] at q6
                        refine ⟨F8, ι8, ρ2, S8, s8, r8.mono x8, ?_⟩
                        cases he : e ρ2 S8 with
                        | exc c fs S9 =>
                          simp only [he, noX, Out.stuck_bind] at q6
                          exact q6.elim
                        | stuck =>
                          simp only [he, noX, Out.stuck_bind] at q6
                          exact q6.elim
                        | ok y9 S9 =>
                          intro F9 ι9 w9 H9 x9 s9 rw9
                          have rw9 : Rel p.K F9 ι9 w9 y9 := rw9
                          simp only [he, noX_ok, Out.ok_bind] at q6
                          obtain ⟨hH9, hF9, hI9⟩ := x9.keep Dl _ hH8 hF8 hI8 trivial
                          have ra9 := RelAll.mono ((x7.trans x8).trans x9) ra6
                          by_cases hz9 : sz acc6.length = true
                          · rw [if_pos hz9] at q6
                            refine ⟨vs6, hH9, by rw [ra9.length]; exact sz_lt hz9, F9, ι9, S9, acc6 ++ [y9], vs6 ++ [w9], ((e6.trans x7.toExt).trans x8.toExt).trans x9.toExt, ?_, ?_, upd_same, hF9, hI9, ra9.append (.cons rw9 .nil), q6⟩
                            · have st := ((x6.trans x7).trans x8).trans x9
                              refine ⟨st.toExt, fun b o e1 e2 e3 e4 => ?_, fun b hb => st.dom b (upd_dom hb)⟩
                              obtain ⟨k1, k2, k3⟩ := st.keep b o e1 e2 e3 e4
                              exact ⟨by rw [upd_ne (ne_of_none e1 hD)]; exact k1, k2, k3⟩
                            · refine ⟨fun b o e1 => ?_, s9.len, s9.nd, fun n a c ha hc => ?_, s9.cl, s9.tab.upd hH9 trivial, s9.nt, tt_upd s9.tt (by intro _ z; cases z)⟩
                              · rw [upd_ne (ne_of_none e1 hF9)]
                                exact s9.sub b o e1
                              · exact (s9.cell n a c ha hc).mono (Ext.refl _ _) (fun z => z) fun o z => by
                                  rw [upd_ne (show a ≠ Dl from fun z2 => hI9 (by rw [← z2]; exact List.mem_of_getElem? ha))]
                                  exact z
                          · rw [if_neg hz9] at q6
                            exact q6.elim
              · refine .inl ⟨wk1.stop H6 j (e6.same.trans s6.sub) (by omega), ?_⟩
                rw [List.drop_of_length_le (by omega)] at q6
                exact ⟨F6, ι6, S6, acc6, vs6, x6, s6, hH6, hF6, hI6, ra6, q6⟩
  · refine .inl ⟨wk.stop H' i (x2.same.trans s2.sub) (by omega), ?_⟩
    rw [List.drop_of_length_le (by omega)] at q2
    exact q2 F2 ι2 _ H' x2 s2 ⟨Dl, vs1, rfl, hD, hH, hF, hI, ra⟩
variable {elt tg iter tg1 iter1 : Expr} {ifs ifs1 : List Expr} {scope : Scope} {own : List (Str × Nat)} {pos : Pos} {fi fi1 : SemA} {g g1 : SemG} {t t1 : SemT} {e : SemE} {vs' ws ws' : List Nat}
theorem xl_comp2 (hc : X.calm = true) (hN : X.N.Nodup) (hi : XI X W tg iter fi) (ok : BlkOk X.N X.env.scope scope own) (hvs : ∀ i ∈ vs', i ∈ own.map (·.2)) (hws : ∀ i ∈ ws', i ∈ ws) (hv : ∀ i ∈ ws, i ∈ own.map (·.2))
    (hg : ∀ (s : Shared) (H : Hp) (C : Addr) (cl : List (Str × Addr)) (fp : List Addr), PGD (X.blk s H scope (compEnvC scope cl C X.env) fp) tg g vs') (ht : ∀ (s : Shared) (H : Hp) (C : Addr) (cl : List (Str × Addr)) (fp : List Addr), XTs (X.blk s H scope (compEnvC scope cl C X.env) fp) ifs t)
    (hi1 : ∀ (s : Shared) (H : Hp) (C : Addr) (cl : List (Str × Addr)) (fp : List Addr), XI (X.blk s H scope (compEnvC scope cl C X.env) fp) WF tg1 iter1 fi1)
    (hg1 : ∀ (s : Shared) (H : Hp) (C : Addr) (cl : List (Str × Addr)) (fp : List Addr), PGD (X.blk s H scope (compEnvC scope cl C X.env) fp) tg1 g1 ws') (ht1 : ∀ (s : Shared) (H : Hp) (C : Addr) (cl : List (Str × Addr)) (fp : List Addr), XTs (X.blk s H scope (compEnvC scope cl C X.env) fp) ifs1 t1)
    (he : ∀ (s : Shared) (H : Hp) (C : Addr) (cl : List (Str × Addr)) (fp : List Addr), XE (X.blk s H scope (compEnvC scope cl C X.env) fp) WF elt e) (hs : ∀ x, foldedSetIterable iter X.env x = pure x := by intro _; rfl) (hs1 : ∀ env x, foldedSetIterable iter1 env x = pure x := by intro _ _; rfl) :
    XL X W (.ListComp elt [⟨tg, iter, ifs, 0⟩, ⟨tg1, iter1, ifs1, 0⟩] scope pos) (lComp2 fi g t fi1 g1 t1 e (own.map (·.2)) ws) :=
  peI (pe_lc2 (wi1 := tG ⟨X.K, X.mg, WF⟩ (RI' X.K) fi1) (g := tPG X.K X.mg g vs') (g1 := tPG X.K X.mg g1 ws') (tt := tT ⟨X.K, X.mg, WF⟩ t) (tt1 := tT ⟨X.K, X.mg, WF⟩ t1) (te := tE ⟨X.K, X.mg, WF⟩ e) hc hN hi ok hv hg ht hi1 hg1 ht1 he hs hs1) fun _ _ _ h => tG_comp2 hvs hws h
end
section
variable {S : Store}
def kLC2 (g : SemG) (t : SemT) (it1 : SemA) (g1 : SemG) (t1 : SemT) (e : SemE) (vs1 : List Nat) (ρ : Env) (Q : List D → Store → Prop) (E : EX) (xs : List D) (S : Store) : Prop := (comp2Go g t it1 g1 t1 e vs1 ρ xs [] S).wp Q E
@[simp] theorem kLC2_eq {g : SemG} {t : SemT} {it1 : SemA} {g1 : SemG} {t1 : SemT} {e : SemE} {vs1 : List Nat} {ρ : Env} {Q : List D → Store → Prop} {E : EX} {xs : List D} : kLC2 g t it1 g1 t1 e vs1 ρ Q E xs S = (comp2Go g t it1 g1 t1 e vs1 ρ xs [] S).wp Q E := rfl
@[simp] theorem wp_lComp2 {it : SemA} {g : SemG} {t : SemT} {it1 : SemA} {g1 : SemG} {t1 : SemT} {e : SemE} {vs vs1 : List Nat} {ρ : Env} {Q : List D → Store → Prop} {E : EX} : (lComp2 it g t it1 g1 t1 e vs vs1 ρ S).wp Q E = (it ρ S).wp (kLC2 g t it1 g1 t1 e vs1 (wipeD ρ vs) Q E) E := by
  simp only [lComp2, wp_bind]
  rfl
/-- each turn of the outer loop adds a list -/
theorem comp2_flat {α : Type} {enc : α → D} {h : α → List D} {g : SemG} {t : SemT} {it1 : SemA} {g1 : SemG} {t1 : SemT} {e : SemE} {vs1 : List Nat} {ρ : Env} : ∀ {as : List α} {acc : List D}, (∀ a ∈ as, ∃ ρ1 ys, g (enc a) ρ S = some ρ1 ∧ t ρ1 S = .ok true S ∧ it1 ρ1 S = .ok ys S ∧ ∀ acc, acc.length + (h a).length ≤ 4000000 → compGo (compStep g1 t1 e (wipeD ρ1 vs1)) ys acc S = .ok (acc ++ h a) S) →
    acc.length + ((as.map h).flatten).length ≤ 4000000 → comp2Go g t it1 g1 t1 e vs1 ρ (as.map enc) acc S = .ok (acc ++ (as.map h).flatten) S
  | [], acc, _, _ => by simp [comp2Go]
  | a :: as, acc, ha, hl => by
    obtain ⟨ρ1, ys, e1, e2, e3, e4⟩ := ha a List.mem_cons_self
    simp only [List.map_cons, List.flatten_cons, List.length_append] at hl
    rw [List.map_cons]
    unfold comp2Go
    rw [e1]
    simp only [e2, noX_ok, Out.ok_bind, if_true, e3, e4 acc (by omega)]
    rw [comp2_flat (as := as) (acc := acc ++ h a) (fun b hb => ha b (List.mem_cons_of_mem _ hb)) (by simp only [List.length_append]; omega)]
    simp
/-- the inner loop, from a list on -/
theorem comp_mapA {α : Type} {enc h : α → D} {F : D → Store → Out (Option D)} {as : List α} {acc : List D} (hF : ∀ a ∈ as, F (enc a) S = .ok (some (h a)) S) (hl : acc.length + as.length ≤ 4000000) : compGo F (as.map enc) acc S = .ok (acc ++ as.map h) S := by
  induction as generalizing acc with
  | nil => simp [compGo]
  | cons a r ih =>
    rw [List.map_cons]
    unfold compGo
    rw [hF a List.mem_cons_self]
    simp only [Out.ok_bind]
    simp only [List.length_cons] at hl
    rw [if_pos (show sz acc.length = true by simp [sz]; omega), ih (fun b hb => hF b (List.mem_cons_of_mem _ hb)) (by simp; omega)]
    simp
end
end Fk
set_option maxHeartbeats 4000000
namespace Fk
open PySem PySem.Spec PyProof.Rows L2
def sft (c : Int) (ns : List Int) : List Int := ns.map (· + c)
def TOk (h : Heap) (d : Nat) (c B : Int) (vs : List Value) : Prop := ∀ v, v ∈ vs → ∃ ns, TS.TupInts h v ns ∧ ns.length = d ∧ TS.Bd B (sft c ns)
theorem TOk.keeps {h h' : Heap} {d : Nat} {c B : Int} {vs : List Value} (x : TOk h d c B vs) (k : ∀ b o, h.get? b = some o → o.cls = .type "tuple" → h'.get? b = some o) : TOk h' d c B vs := fun v hv =>
  let ⟨ns, t, r⟩ := x v hv; ⟨ns, t.keeps k, r⟩
section
end
section
end
end Fk
set_option maxHeartbeats 4000000
namespace Fk
open PySem PySem.Spec PyProof.Rows L2
def rowI : D → Option (List Int)
  | .tup ds => asInts ds
  | _ => none
def rowsI : List D → Option (List (List Int))
  | [] => some []
  | d :: ds => match rowI d, rowsI ds with
    | some r, some rs => some (r :: rs)
    | _, _ => none
section
variable {X : Cx} {K : PySem.W.Frag} {F : Hp} {ι : List Addr}
theorem rel_row {v : V} {d : D} {n : List Int} (r : Rel K F ι v d) (h : rowI d = some n) : d = tI n ∧ ∃ a, v = .ref a ∧ F a = some (.tup (n.map V.int)) := by
  cases r with
  | tp e q =>
    have h : asInts _ = some n := h
    have hd : ∀ {ds : List D} {ns : List Int}, asInts ds = some ns → ds = ns.map D.int := by
      intro ds
      induction ds with
      | nil => intro ns h; cases h; rfl
      | cons d ds ih =>
        intro ns h
        cases d <;> simp [asInts] at h
        obtain ⟨ms, h1, rfl⟩ := h
        rw [ih h1]; rfl
    rw [rel_ints q h] at e
    exact ⟨by rw [hd h], _, rfl, e.exI⟩
  | _ => cases h
theorem rows_rel : ∀ {vs : List V} {ds : List D} {rs : List (List Int)}, RelAll K F ι vs ds → rowsI ds = some rs → ds = rs.map tI
  | _, _, rs, .nil, h => by
    cases (show some [] = some rs from h)
    rfl
  | _, _, rs, .cons (d := d) (ds := ds) r t, h => by
    unfold rowsI at h
    split at h
    · next r1 rs1 h1 h2 =>
      cases h
      rw [List.map_cons, ← (rel_row r h1).1, ← rows_rel t h2]
    · cases h
theorem rel_tI {v : V} {n : List Int} (r : Rel K F ι v (tI n)) : ∃ a, v = .ref a ∧ F a = some (.tup (n.map V.int)) := by
  have hz : rowI (tI n) = some n := by
    show asInts (n.map D.int) = some n
    induction n with
    | nil => rfl
    | cons a n ih =>
      have : ∀ n : List Int, asInts (n.map D.int) = some n := by
        intro n
        induction n with
        | nil => rfl
        | cons a n ih => simp [asInts, ih]
      exact this _
  exact (rel_row r hz).2
variable {W : WX} {x : Str} {p pos : Pos} {e : Expr} {es : List Expr} {fa : SemA} {id T : String}
end
end Fk
set_option maxHeartbeats 4000000
namespace Fk
open PySem PySem.Spec PyProof.Rows L2
section
end
end Fk
set_option maxHeartbeats 4000000
namespace Fk
open PySem PySem.Spec PyProof.Rows L2
def gU (gs : List SemG) : SemG := fun d ρ S => match d with
  | .lst ds => if ds.length = gs.length then (gs.zip ds).foldl (fun o q => o.bind fun ρ' => q.1 q.2 ρ' S) (some ρ) else none
  | _ => none
@[simp] theorem gU_lst {gs : List SemG} {ds : List D} {ρ : Env} {S : Store} : gU gs (.lst ds) ρ S = gT gs (.tup ds) ρ S := rfl
section
end
end Fk
set_option maxHeartbeats 1000000
namespace Fk
open PySem PySem.Spec PyProof.Rows L2
section
end
end Fk
namespace Fk
open PySem PySem.Spec PyProof.Rows L2
end Fk
namespace Fk
open PySem PySem.Spec PyProof.Rows L2
def opMulL : D → D → Store → Option (List D) := fun d e _ => match d, e with
  | .lst xs, .int k => if decide (0 ≤ k ∧ k ≤ 100 ∧ xs.length ≤ 1000) then some (List.replicate k.toNat xs).flatten else none
  | _, _ => none
@[simp] theorem ex_mulL {xs : List D} {k : Int} {S : Store} {P : List D → Prop} : (∃ a, opMulL (.lst xs) (.int k) S = some a ∧ P a) = ((0 ≤ k ∧ k ≤ 100 ∧ xs.length ≤ 1000) ∧ P (List.replicate k.toNat xs).flatten) := by
  unfold opMulL
  by_cases h : 0 ≤ k ∧ k ≤ 100 ∧ xs.length ≤ 1000 <;> simp [h]
def gSetC (fo fi : SemE) (y : D) (k : Store → OutS) : SemS := fun ρ S => toS (fo ρ S) ρ fun x S2 => toS (fi ρ S2) ρ fun i S3 => match setC x i y S3 with
  | some S4 => k S4
  | none => .stuck
def sSet2 (fo fi fo' fi' fe : SemE) : SemS := fun ρ S => toS (fe ρ S) ρ fun d S1 => match d with
  | .tup [y, z] => gSetC fo fi y (fun S2 => gSetC fo' fi' z (fun S3 => .nx ρ S3) ρ S2) ρ S1
  | _ => .stuck
section
end
section
variable {ρ : Env} {S : Store} {k : KS}
def kT2 (fo fi fo' fi' : SemE) (ρ : Env) (k : KS) (d : D) (S : Store) : Prop := ∃ y z, d = .tup [y, z] ∧ (fo ρ S).wp (fun x S2 => (fi ρ S2).wp (fun i S3 => ∃ S4, setC x i y S3 = some S4 ∧
  (fo' ρ S4).wp (fun x S5 => (fi' ρ S5).wp (fun i S6 => ∃ S7, setC x i z S6 = some S7 ∧ k.nx ρ S7) (kEx k ρ)) (kEx k ρ)) (kEx k ρ)) (kEx k ρ)
def kT21 (fi fo' fi' : SemE) (ρ : Env) (k : KS) (y z x : D) (S : Store) : Prop := (fi ρ S).wp (fun i S3 => ∃ S4, setC x i y S3 = some S4 ∧
  (fo' ρ S4).wp (fun x S5 => (fi' ρ S5).wp (fun i S6 => ∃ S7, setC x i z S6 = some S7 ∧ k.nx ρ S7) (kEx k ρ)) (kEx k ρ)) (kEx k ρ)
def kT22 (fo' fi' : SemE) (ρ : Env) (k : KS) (y z x i : D) (S : Store) : Prop := ∃ S4, setC x i y S = some S4 ∧
  (fo' ρ S4).wp (fun x S5 => (fi' ρ S5).wp (fun i S6 => ∃ S7, setC x i z S6 = some S7 ∧ k.nx ρ S7) (kEx k ρ)) (kEx k ρ)
def kT23 (fi' : SemE) (ρ : Env) (k : KS) (z x : D) (S : Store) : Prop := (fi' ρ S).wp (fun i S6 => ∃ S7, setC x i z S6 = some S7 ∧ k.nx ρ S7) (kEx k ρ)
@[simp] theorem kT2_eq (fo fi fo' fi' : SemE) (y z : D) : kT2 fo fi fo' fi' ρ k (.tup [y, z]) S = (fo ρ S).wp (kT21 fi fo' fi' ρ k y z) (kEx k ρ) := by
  apply propext
  constructor
  · rintro ⟨y, z, e, h⟩; cases e; exact h
  · intro h; exact ⟨y, z, rfl, h⟩
@[simp] theorem kT21_eq (fi fo' fi' : SemE) (y z x : D) : kT21 fi fo' fi' ρ k y z x S = (fi ρ S).wp (kT22 fo' fi' ρ k y z x) (kEx k ρ) := rfl
@[simp] theorem kT22_eq (fo' fi' : SemE) (y z x i : D) : kT22 fo' fi' ρ k y z x i S = ∃ S4, setC x i y S = some S4 ∧ (fo' ρ S4).wp (kT23 fi' ρ k z) (kEx k ρ) := rfl
@[simp] theorem kT23_eq (fi' : SemE) (z x : D) : kT23 fi' ρ k z x S = (fi' ρ S).wp (fun i S6 => ∃ S7, setC x i z S6 = some S7 ∧ k.nx ρ S7) (kEx k ρ) := rfl
theorem wp_gSetC (fo fi : SemE) (y : D) (g : Store → OutS) : (gSetC fo fi y g ρ S).wp k = (fo ρ S).wp (fun x S2 => (fi ρ S2).wp (fun i S3 => ∃ S4, setC x i y S3 = some S4 ∧ (g S4).wp k) (kEx k ρ)) (kEx k ρ) := by
  simp only [gSetC, wpS_toS]
  congr 1
  funext x S2
  congr 1
  funext i S3
  cases setC x i y S3 <;> simp
@[simp] theorem wp_sSet2 (fo fi fo' fi' fe : SemE) : (sSet2 fo fi fo' fi' fe ρ S).wp k = (fe ρ S).wp (kT2 fo fi fo' fi' ρ k) (kEx k ρ) := by
  simp only [sSet2, wpS_toS]
  congr 1
  funext d S1
  apply propext
  constructor
  · intro h
    match d, h with
    | .tup [y, z], h =>
      refine ⟨y, z, rfl, ?_⟩
      simpa only [wp_gSetC, wpS_nx] using h
  · rintro ⟨y, z, rfl, h⟩
    simpa only [wp_gSetC, wpS_nx] using h
end
end Fk
set_option maxHeartbeats 1000000
namespace Fk
open PySem PySem.Spec PyProof.Rows L2
section
end
end Fk
set_option maxHeartbeats 1000000
namespace Fk
open PySem PySem.Spec PyProof.Rows L2
end Fk
set_option maxHeartbeats 1000000
namespace Fk
open PySem PySem.Spec PyProof.Rows L2
section
end
section
variable {X : Cx} {W : WX} {e : Expr} {td : TE} {apos cpos : Pos} {elts : List Expr} {kk : Nat} {tpos : Pos}
/-- what is yielded -/
def itmD (kds : List (List Key × D)) : List D := kds.map fun q => D.tup [.tup (q.1.map keyT), q.2]
def itItems (fo : SemE) : SemA := fun ρ S => (fo ρ S).bind fun x S1 => match x with
  | .ref n => match S1[n]? with
    | some (.dT kds) => .ok (itmD kds) (S1.set n (.fT kds))
    | some (.fT kds) => .ok (itmD kds) S1
    | _ => .stuck
  | _ => .stuck
end
section
variable {ρ : Env} {S : Store} {E : EX}
def kItm (Q : List D → Store → Prop) (x : D) (S : Store) : Prop := match x with
  | .ref n => (match S[n]? with
    | some (.dT kds) => Q (itmD kds) (S.set n (.fT kds))
    | some (.fT kds) => Q (itmD kds) S
    | _ => False)
  | _ => False
@[simp] theorem wp_itItems (f : SemE) {Q : List D → Store → Prop} : (itItems f ρ S).wp Q E = (f ρ S).wp (kItm Q) E := by
  simp only [itItems, wp_bind]
  congr 1
  funext x S1
  unfold kItm
  cases x <;> simp
  split <;> simp_all
end
end Fk
set_option maxHeartbeats 4000000
namespace Fk
open PySem PySem.Spec PyProof.Rows L2
section
end
end Fk
set_option maxHeartbeats 4000000
namespace Fk
open PySem PySem.Spec PyProof.Rows L2
section
variable {X : Cx}
theorem ks_of {K : PySem.W.Frag} {F : Hp} {ι : List Addr} : ∀ {vs : List V} {rs : List (List Int)}, RelAll K F ι vs (rs.map tI) → ∃ ks : List (Addr × List Int), vs = (ks.map fun q => V.ref q.1) ∧ ks.map (·.2) = rs ∧ ∀ q ∈ ks, F q.1 = some (.tup (q.2.map V.int)) ∧ Rel K F ι (.ref q.1) (tI q.2)
  | _, [], .nil => ⟨[], rfl, rfl, fun _ h => nomatch h⟩
  | _, r :: rs, .cons a t => by
    obtain ⟨p, e, hp⟩ := rel_tI a
    obtain ⟨ks, e1, e2, h⟩ := ks_of t
    subst e
    refine ⟨(p, r) :: ks, by rw [e1]; rfl, by rw [← e2]; rfl, fun q hq => ?_⟩
    rcases List.mem_cons.mp hq with z | z
    · subst z; exact ⟨hp, a⟩
    · exact h q z
variable {W : WX} {p p2 pos pos2 : Pos} {e : Expr} {fa : SemA}
end
end Fk
set_option maxHeartbeats 4000000
namespace Fk
open PySem PySem.Spec PyProof.Rows L2
def evP : List (SemE × SemE) → Env → Store → Out (List (D × D))
  | [], _, S => .ok [] S
  | (f, g) :: r, ρ, S => (f ρ S).bind fun x S1 => (g ρ S1).bind fun y S2 => (evP r ρ S2).bind fun ps S3 => .ok ((x, y) :: ps) S3
def ksD : List (D × D) → Option (List (List Key × D))
  | [] => some []
  | (.tup ds, y) :: r => match asKs ds, ksD r with
    | some k, some ks => some ((k, y) :: ks)
    | _, _ => none
  | _ => none
def putAll (kds : List (List Key × D)) (ks : List (List Key × D)) : List (List Key × D) := ks.foldl (fun acc q => putD acc q.1 q.2) kds
def dispC (n : Nat) (qs : List (D × D)) (S : Store) : Option Store := match S[n]?, ksD qs with
  | some (.dT []), some ks => if decide (ks.length ≤ 15) && closedV n ks then some (S.set n (.dT (putAll [] ks))) else none
  | _, _ => none
def eDispT (ps : List (SemE × SemE)) : SemE := fun ρ S => (evP ps ρ (S ++ [.dT []])).bind fun qs S1 => match dispC S.length qs S1 with
  | some S2 => .ok (.ref S.length) S2
  | none => .stuck
section
end
section
variable {ρ : Env} {S : Store} {E : EX}
@[simp] theorem wp_evP0 {Q : List (D × D) → Store → Prop} : (evP [] ρ S).wp Q E = Q [] S := by
  simp only [evP, wp_ok]
@[simp] theorem wp_evP (f g : SemE) (r : List (SemE × SemE)) {Q : List (D × D) → Store → Prop} : (evP ((f, g) :: r) ρ S).wp Q E = (f ρ S).wp (fun x S1 => (g ρ S1).wp (fun y S2 => (evP r ρ S2).wp (fun ps S3 => Q ((x, y) :: ps) S3) E) E) E := by
  simp only [evP, wp_bind, wp_ok]
def kDT (n : Nat) (Q : D → Store → Prop) (qs : List (D × D)) (S : Store) : Prop := ∃ S2, dispC n qs S = some S2 ∧ Q (.ref n) S2
@[simp] theorem wp_eDispT (ps : List (SemE × SemE)) {Q : D → Store → Prop} : (eDispT ps ρ S).wp Q E = (evP ps ρ (S ++ [.dT []])).wp (kDT S.length Q) E := by
  simp only [eDispT, wp_bind]
  congr 1
  funext qs S1
  unfold kDT
  cases dispC S.length qs S1 <;> simp
end
end Fk
set_option maxHeartbeats 1000000
namespace Fk
open PySem PySem.Spec PySem.Calls PyProof.Rows
section
variable {pr : Program} {wo : World} {U : Around} {X : Value → Shared → Prop} {st : Shared}
/-- the heap with the list that the items of a tuple went into -/
abbrev gone (st : Shared) (us : List Value) : Heap := (st.heap.push (seqObj "list" #[] 0)).update st.heap.objs.size (Obj.mapSeq (· ++ us.toArray))
end
end Fk
namespace Fk
open PySem PySem.Spec PyProof.Rows L2
section
end
end Fk
set_option maxHeartbeats 1000000
namespace Fk
open PySem PySem.Spec PyProof.Rows L2
def kdK : Cell → Option (List (Key × D))
  | .dK kds => some kds
  | .fK kds => some kds
  | _ => none
section
variable {X : Cx} {W : WX} {o e : Expr} {f g : SemE} {pos apos cpos : Pos}
/-- d.get(k, x) -/
def getD2 (x k z : D) (S : Store) : Option D := match x with
  | .ref n => (match S[n]?.bind kdK, keyOf k with
    | some kds, some k => some ((lookD kds k).getD z)
    | _, _ => none)
  | _ => none
def isDc (x : D) (S : Store) : Bool := match x with
  | .ref n => (S[n]?.bind kdK).isSome
  | _ => false
def eGet2 (fo fk fz : SemE) : SemE := fun ρ S => (fo ρ S).bind fun x S1 => if isDc x S1 then (fk ρ S1).bind fun k S2 => (fz ρ S2).bind fun z S3 => match getD2 x k z S3 with
  | some d => .ok d S3
  | none => .stuck
  else .stuck
end
section
end
section
variable {X : Cx} {W : WX} {e tg : Expr} {td : TE}
def keysD (kds : List (Key × D)) : List D := kds.map fun q => keyT q.1
def itKeys (fo : SemE) : SemA := fun ρ S => (fo ρ S).bind fun x S1 => match x with
  | .ref n => match S1[n]? with
    | some (.dK kds) => .ok (keysD kds) (S1.set n (.fK kds))
    | some (.fK kds) => .ok (keysD kds) S1
    | _ => .stuck
  | _ => .stuck
end
section
variable {ρ : Env} {S : Store} {E : EX}
def kKys (Q : List D → Store → Prop) (x : D) (S : Store) : Prop := match x with
  | .ref n => (match S[n]? with
    | some (.dK kds) => Q (keysD kds) (S.set n (.fK kds))
    | some (.fK kds) => Q (keysD kds) S
    | _ => False)
  | _ => False
@[simp] theorem wp_itKeys (f : SemE) {Q : List D → Store → Prop} : (itKeys f ρ S).wp Q E = (f ρ S).wp (kKys Q) E := by
  simp only [itKeys, wp_bind]
  congr 1
  funext x S1
  unfold kKys
  cases x <;> simp
  split <;> simp_all
def kG2a (fk fz : SemE) (ρ : Env) (Q : D → Store → Prop) (E : EX) (x : D) (S : Store) : Prop := isDc x S = true ∧ (fk ρ S).wp (fun k S2 => (fz ρ S2).wp (fun z S3 => ∃ d, getD2 x k z S3 = some d ∧ Q d S3) E) E
@[simp] theorem wp_eGet2 (fo fk fz : SemE) {Q : D → Store → Prop} : (eGet2 fo fk fz ρ S).wp Q E = (fo ρ S).wp (kG2a fk fz ρ Q E) E := by
  simp only [eGet2, wp_bind]
  congr 1
  funext x S1
  unfold kG2a
  cases h : isDc x S1 with
  | false => simp
  | true =>
    simp only [if_true, true_and, wp_bind]
    congr 1
    funext k S2
    congr 1
    funext z S3
    cases getD2 x k z S3 <;> simp
end
end Fk
set_option maxHeartbeats 4000000
namespace Fk
open PySem PySem.Spec PyProof.Rows L2
section
end
end Fk
set_option maxHeartbeats 4000000
namespace Fk
open PySem PySem.Spec PyProof.Rows L2
section
end
section
end
section
variable {X : Cx} {W : WX} {pos : Pos}
def eNewK : SemE := fun _ S => .ok (.ref S.length) (S ++ [.dK []])
end
section
variable {ρ : Env} {S : Store} {Q : D → Store → Prop} {E : EX}
@[simp] theorem wp_eNewK : (eNewK ρ S).wp Q E = Q (.ref S.length) (S ++ [.dK []]) := wp_ok _
end
end Fk
set_option maxHeartbeats 2000000
namespace Fk.Z3
open PySem PySem.Spec PyProof.Rows L2
section
variable {prog : Program} {w : World} {A : Around} {E : Value → Shared → Prop} {s : Shared}
variable {n l1 l2 l3 k : Nat} {f0 : Value} {f1 : Bool} {xs ys zs : Array Value} {x y u : Value}
/-- all cells but these stand as they stood -/
def Kp (n : Nat) (h h' : Heap) : Prop := ∀ c o, c ≠ n + 5 → c ≠ n + 4 → c ≠ n → c ≠ n + 1 → c ≠ n + 2 → h.get? c = some o → h'.get? c = some o
end
end Fk.Z3
set_option maxHeartbeats 2000000
namespace Fk.Z3
open PySem PySem.Spec PyProof.Rows L2
section
end
end Fk.Z3
namespace Fk
open PySem PySem.Spec PyProof.Rows L2 Fk.Z3
def zip3L : List D → List D → List D → List D
  | x :: xs, y :: ys, z :: zs => .tup [x, y, z] :: zip3L xs ys zs
  | _, _, _ => []
def itZip3 (fa : SemA) : SemA := fun ρ S => (fa ρ S).bind fun ds S1 => match ds with
  | [.tup xs, .tup ys, .tup zs] => if xs.length = ys.length ∧ ys.length = zs.length then .ok (zip3L xs ys zs) S1 else .stuck
  | _ => .stuck
section
variable {X : Cx} {W : WX}
variable {ρ : Env} {S : Store} {E : EX}
def kZip3 (Q : List D → Store → Prop) (ds : List D) (S : Store) : Prop := match ds with
  | [.tup xs, .tup ys, .tup zs] => (xs.length = ys.length ∧ ys.length = zs.length) ∧ Q (zip3L xs ys zs) S
  | _ => False
@[simp] theorem kZip3_t {Q : List D → Store → Prop} (xs ys zs : List D) : kZip3 Q [.tup xs, .tup ys, .tup zs] S = ((xs.length = ys.length ∧ ys.length = zs.length) ∧ Q (zip3L xs ys zs) S) := rfl
@[simp] theorem wp_itZip3 (fa : SemA) {Q : List D → Store → Prop} : (itZip3 fa ρ S).wp Q E = (fa ρ S).wp (kZip3 Q) E := by
  simp only [itZip3, wp_bind]
  congr 1
  funext ds S1
  unfold kZip3
  split
  · split
    · next h => simp [h]
    · next h => simp [h]
  · simp
end
end Fk
set_option maxHeartbeats 2000000
namespace Fk
open PySem PySem.Spec PyProof.Rows L2
section
end
end Fk
set_option maxHeartbeats 2000000
namespace Fk
open PySem PySem.Spec PyProof.Rows L2
def opRvT : D → Store → Option D := fun d _ => match d with
  | .tup (_ :: xs) => some (.tup xs.reverse)
  | _ => none
@[simp] theorem rvT_cons {x : D} {xs : List D} {S : Store} : opRvT (.tup (x :: xs)) S = some (.tup xs.reverse) := rfl
section
end
section
end
end Fk
namespace Fk
open PySem PySem.Spec PyProof.Rows L2
def gTPutC (fo fi : SemE) (y : D) (k : Store → OutS) : SemS := fun ρ S => toS (fo ρ S) ρ fun x S2 => toS (fi ρ S2) ρ fun i S3 => match tputC x i y S3 with
  | some S4 => k S4
  | none => .stuck
def sTPut2 (fo fi fo' fi' fe : SemE) : SemS := fun ρ S => toS (fe ρ S) ρ fun d S1 => match d with
  | .tup [y, z] => gTPutC fo fi y (fun S2 => gTPutC fo' fi' z (fun S3 => .nx ρ S3) ρ S2) ρ S1
  | _ => .stuck
section
end
section
variable {ρ : Env} {S : Store} {k : KS}
def kTT2 (fo fi fo' fi' : SemE) (ρ : Env) (k : KS) (d : D) (S : Store) : Prop := ∃ y z, d = .tup [y, z] ∧ (fo ρ S).wp (fun x S2 => (fi ρ S2).wp (fun i S3 => ∃ S4, tputC x i y S3 = some S4 ∧
  (fo' ρ S4).wp (fun x S5 => (fi' ρ S5).wp (fun i S6 => ∃ S7, tputC x i z S6 = some S7 ∧ k.nx ρ S7) (kEx k ρ)) (kEx k ρ)) (kEx k ρ)) (kEx k ρ)
def kTT21 (fi fo' fi' : SemE) (ρ : Env) (k : KS) (y z x : D) (S : Store) : Prop := (fi ρ S).wp (fun i S3 => ∃ S4, tputC x i y S3 = some S4 ∧
  (fo' ρ S4).wp (fun x S5 => (fi' ρ S5).wp (fun i S6 => ∃ S7, tputC x i z S6 = some S7 ∧ k.nx ρ S7) (kEx k ρ)) (kEx k ρ)) (kEx k ρ)
def kTT22 (fo' fi' : SemE) (ρ : Env) (k : KS) (y z x i : D) (S : Store) : Prop := ∃ S4, tputC x i y S = some S4 ∧
  (fo' ρ S4).wp (fun x S5 => (fi' ρ S5).wp (fun i S6 => ∃ S7, tputC x i z S6 = some S7 ∧ k.nx ρ S7) (kEx k ρ)) (kEx k ρ)
def kTT23 (fi' : SemE) (ρ : Env) (k : KS) (z x : D) (S : Store) : Prop := (fi' ρ S).wp (fun i S6 => ∃ S7, tputC x i z S6 = some S7 ∧ k.nx ρ S7) (kEx k ρ)
@[simp] theorem kTT2_eq (fo fi fo' fi' : SemE) (y z : D) : kTT2 fo fi fo' fi' ρ k (.tup [y, z]) S = (fo ρ S).wp (kTT21 fi fo' fi' ρ k y z) (kEx k ρ) := by
  apply propext
  constructor
  · rintro ⟨y, z, e, h⟩; cases e; exact h
  · intro h; exact ⟨y, z, rfl, h⟩
@[simp] theorem kTT21_eq (fi fo' fi' : SemE) (y z x : D) : kTT21 fi fo' fi' ρ k y z x S = (fi ρ S).wp (kTT22 fo' fi' ρ k y z x) (kEx k ρ) := rfl
@[simp] theorem kTT22_eq (fo' fi' : SemE) (y z x i : D) : kTT22 fo' fi' ρ k y z x i S = ∃ S4, tputC x i y S = some S4 ∧ (fo' ρ S4).wp (kTT23 fi' ρ k z) (kEx k ρ) := rfl
@[simp] theorem kTT23_eq (fi' : SemE) (z x : D) : kTT23 fi' ρ k z x S = (fi' ρ S).wp (fun i S6 => ∃ S7, tputC x i z S6 = some S7 ∧ k.nx ρ S7) (kEx k ρ) := rfl
theorem wp_gTPutC (fo fi : SemE) (y : D) (g : Store → OutS) : (gTPutC fo fi y g ρ S).wp k = (fo ρ S).wp (fun x S2 => (fi ρ S2).wp (fun i S3 => ∃ S4, tputC x i y S3 = some S4 ∧ (g S4).wp k) (kEx k ρ)) (kEx k ρ) := by
  simp only [gTPutC, wpS_toS]
  congr 1
  funext x S2
  congr 1
  funext i S3
  cases tputC x i y S3 <;> simp
@[simp] theorem wp_sTPut2 (fo fi fo' fi' fe : SemE) : (sTPut2 fo fi fo' fi' fe ρ S).wp k = (fe ρ S).wp (kTT2 fo fi fo' fi' ρ k) (kEx k ρ) := by
  simp only [sTPut2, wpS_toS]
  congr 1
  funext d S1
  apply propext
  constructor
  · intro h
    match d, h with
    | .tup [y, z], h =>
      refine ⟨y, z, rfl, ?_⟩
      simpa only [wp_gTPutC, wpS_nx] using h
  · rintro ⟨y, z, rfl, h⟩
    simpa only [wp_gTPutC, wpS_nx] using h
end
end Fk
namespace Fk
open PySem PySem.Spec PyProof.Rows L2
section
end
section
variable {X : Cx} {W : WX} {a b c e : Expr} {f g h i : SemE} {pos : Pos}
def eChain3 (op op' op2 : D → D → Store → Option D) (f g h i : SemE) : SemE := fun ρ S => (f ρ S).bind fun x S1 => (g ρ S1).bind fun y S2 => (lift (op x y S2) S2).bind fun z S3 => (asB z S3).bind fun k S4 =>
  if k then (h ρ S4).bind fun w S5 => (lift (op' y w S5) S5).bind fun z2 S6 => (asB z2 S6).bind fun k2 S7 => if k2 then (i ρ S7).bind fun w2 S8 => lift (op2 w w2 S8) S8 else .ok (.bl false) S7 else .ok (.bl false) S4
variable {ρ : Env} {S : Store} {Q : D → Store → Prop} {E : EX}
def kC3c (op2 : D → D → Store → Option D) (i : SemE) (ρ : Env) (Q : D → Store → Prop) (E : EX) (op' : D → D → Store → Option D) (y w : D) (S : Store) : Prop := ∃ z, op' y w S = some z ∧ ∃ b, z = .bl b ∧ (if b then (i ρ S).wp (kB2 op2 w Q) E else Q (.bl false) S)
def kC3b (op op' op2 : D → D → Store → Option D) (h i : SemE) (ρ : Env) (Q : D → Store → Prop) (E : EX) (x y : D) (S : Store) : Prop := ∃ z, op x y S = some z ∧ ∃ b, z = .bl b ∧ (if b then (h ρ S).wp (kC3c op2 i ρ Q E op' y) E else Q (.bl false) S)
def kC3a (op op' op2 : D → D → Store → Option D) (g h i : SemE) (ρ : Env) (Q : D → Store → Prop) (E : EX) (x : D) (S : Store) : Prop := (g ρ S).wp (kC3b op op' op2 h i ρ Q E x) E
@[simp] theorem kC3a_eq (op op' op2 : D → D → Store → Option D) (x : D) : kC3a op op' op2 g h i ρ Q E x S = (g ρ S).wp (kC3b op op' op2 h i ρ Q E x) E := rfl
@[simp] theorem kC3b_eq (op op' op2 : D → D → Store → Option D) (x y : D) : kC3b op op' op2 h i ρ Q E x y S = ∃ z, op x y S = some z ∧ ∃ b, z = .bl b ∧ (if b then (h ρ S).wp (kC3c op2 i ρ Q E op' y) E else Q (.bl false) S) := rfl
@[simp] theorem kC3c_eq (op' op2 : D → D → Store → Option D) (y w : D) : kC3c op2 i ρ Q E op' y w S = ∃ z, op' y w S = some z ∧ ∃ b, z = .bl b ∧ (if b then (i ρ S).wp (kB2 op2 w Q) E else Q (.bl false) S) := rfl
@[simp] theorem wp_eChain3 (op op' op2 : D → D → Store → Option D) : (eChain3 op op' op2 f g h i ρ S).wp Q E = (f ρ S).wp (kC3a op op' op2 g h i ρ Q E) E := by
  simp only [eChain3, wp_bind, wp_lift, wp_asB, wp_ite, wp_ok]
  rfl
end
end Fk
namespace Fk
open PySem PySem.Spec PyProof.Rows L2
section
variable {X : Cx} {W : WX} {a b o i e : Expr} {f g : SemE} {pos : Pos}
variable {S : Store}
def opInS : D → D → Store → Option D := fun d e _ => match d, e with
  | .str i, .str j => some (.bl (!(Builtin.Str.occurrences j i 0 j.length 1).isEmpty))
  | _, _ => none
def opNinS : D → D → Store → Option D := fun d e _ => match d, e with
  | .str i, .str j => some (.bl (!(!(Builtin.Str.occurrences j i 0 j.length 1).isEmpty)))
  | _, _ => none
@[simp] theorem inS_at {i j : Str} : opInS (.str i) (.str j) S = some (.bl (!(Builtin.Str.occurrences j i 0 j.length 1).isEmpty)) := rfl
@[simp] theorem ninS_at {i j : Str} : opNinS (.str i) (.str j) S = some (.bl (!(!(Builtin.Str.occurrences j i 0 j.length 1).isEmpty))) := rfl
end
end Fk
namespace Fk
open PySem PySem.Spec PyProof.Rows L2
def lexB (ns ms : List Int) : Bool := Ob.lexAt (fun j => decide (ns.getD j 0 = ms.getD j 0)) (fun j => decide (ns.getD j 0 ≤ ms.getD j 0)) (decide (ns.length ≤ ms.length)) 0 (min ns.length ms.length)
def opLeT : D → D → Store → Option D := fun d e _ => match d, e with
  | .tup xs, .tup ys => (match asInts xs, asInts ys with
    | some ns, some ms => some (.bl (lexB ns ms))
    | _, _ => none)
  | _, _ => none
section
variable {X : Cx}
def opLeA := orO opLe opLeT
@[simp] theorem leA_int {i j : Int} {S : Store} : opLeA (.int i) (.int j) S = some (.bl (decide (i ≤ j))) := rfl
end
end Fk
set_option maxHeartbeats 1000000
namespace Fk
open PySem PySem.Spec PyProof.Rows L2
end Fk
set_option maxHeartbeats 1000000
namespace Fk
open PySem PySem.Spec PyProof.Rows L2
section
end
end Fk
set_option maxHeartbeats 1000000
namespace Fk
open PySem PySem.Spec PyProof.Rows L2
section
end
end Fk
set_option maxHeartbeats 1000000
namespace Fk
open PySem PySem.Spec PyProof.Rows L2 CwR
section
end
section
end
section
open Builtin Builtin.Str
end
section
end
end Fk
set_option maxHeartbeats 4000000
namespace Fk
open PySem PySem.Spec PyProof.Rows L2
section
end
end Fk
set_option maxHeartbeats 2000000
namespace Fk
open PySem PySem.Spec PyProof.Rows L2
/-- the defs of a method, class by class -/
abbrev MT := List (Str × FSem)
/-- a def that is called with n written arguments -/
structure FnB (P : Program) (w : World) (K : PySem.W.Frag) (mg : Str → Option Value) (base : Heap) (k : Nat) (g : Addr) (n : Nat) (f : FSem) : Prop where
  run : ∀ (A : Around) (outer : List PySem.Env) (s : Shared) (H : Hp) (us : List Value) (vs : List V) (Q : VK) (E : XK), A.guards = some [] → Room k A → Env0 P w K mg base A outer s H → K.In s.heap → Vals vs us → spD K mg n f vs H Q E →
    codeAny (model P w) A (.call (.ref g) ⟨us, []⟩) (CR (L2N.CX P w) outer P w H s Q E) s
theorem FnB.mono {P : Program} {w : World} {K : PySem.W.Frag} {mg : Str → Option Value} {base : Heap} {j k n : Nat} {g : Addr} {f : FSem} (h : FnB P w K mg base j g n f) (hj : j ≤ k) : FnB P w K mg base k g n f :=
  ⟨fun A outer s H us vs Q E hG hr => h.run A outer s H us vs Q E hG (hr.mono hj)⟩
/-- the defs of a method, class by class: n parameters -/
structure MtO (P : Program) (w : World) (K : PySem.W.Frag) (mg : Str → Option Value) (base : Heap) (m : Str) (n k : Nat) (c : Str) (f : FSem) : Prop where
  ex : ∃ C g, mg c = some (.ref C) ∧ Cls K C ∧ Meth K C m g ∧ PySem.W.fnIn K g = true ∧ FnB P w K mg base k g n f
section
variable {P : Program} {w : World} {K : PySem.W.Frag} {mg : Str → Option Value} {base : Heap} {m : Str} {n k j : Nat} {c : Str} {f : FSem} {mt : MT}
theorem MtO.mono (h : MtO P w K mg base m n j c f) (hj : j ≤ k) : MtO P w K mg base m n k c f := by
  obtain ⟨C, g, h1, h2, h3, h4, h5⟩ := h.ex
  exact ⟨C, g, h1, h2, h3, h4, h5.mono hj⟩
end
section
end
end Fk
set_option maxHeartbeats 2000000
namespace OwX
open PySem PySem.Spec PyProof.Rows
section
end
end OwX
namespace Fk
open PySem PySem.Spec PyProof.Rows L2
section
end
end Fk
set_option maxHeartbeats 2000000
namespace Fk
open PySem PySem.Spec PyProof.Rows L2
def putFD (f : Str) (d : D) : List (Str × D) → List (Str × D)
  | [] => [(f, d)]
  | (g, x) :: r => if g = f then (g, d) :: r else (g, x) :: putFD f d r
section
variable {X : Cx} {W : WX} {k n : Nat} {mt : MT} {m f : Str} {e o : Expr} {es : List Expr} {fe fo : SemE} {fa : SemA} {pos pos' apos p : Pos} {x : Str}
def setF (cls : List Str) (f : Str) (x y : D) (S : Store) : Option Store := match x with
  | .ref n => (match S[n]? with
    | some (.ins c fs) => if decide (c ∈ cls) && decide (fs.length < 1000) && closed n y then some (S.set n (.ins c (putFD f y fs))) else none
    | _ => none)
  | _ => none
end
end Fk
set_option maxHeartbeats 2000000
namespace Fk
open PySem PySem.Spec PyProof.Rows L2
section
variable {X : Cx} {W : WX} {k n : Nat} {mt : MT} {m f : Str} {e o : Expr} {es : List Expr} {fe fo : SemE} {fa : SemA} {pos pos' apos p : Pos} {x c : Str} {fs : FSem}
def tyNames : List String := ["NoneType", "bool", "int", "str", "tuple", "list", "dict"]
end
end Fk
set_option maxHeartbeats 2000000
namespace Fk
open PySem PySem.Spec PyProof.Rows L2
structure RoomU (k : Nat) (A : Around) : Prop where
  dp : A.depth + 3 * k + 5 < recursionLimit
  un : A.units + 16 * k + 200 < cLine
theorem RoomU.mono {j k : Nat} {A : Around} (r : RoomU k A) (h : j ≤ k) : RoomU j A := ⟨by have := r.dp; omega, by have := r.un; omega⟩
theorem RoomU.deeper {k : Nat} {A : Around} (r : RoomU (k + 1) A) (env : PySem.Env) : RoomU k (A.deeper env) :=
  ⟨by have := r.dp; show A.depth + 1 + 3 * k + 5 < _; omega, by have := r.un; show A.units + 3 + 16 * k + 200 < _; omega⟩
theorem RoomU.depth {k : Nat} {A : Around} (r : RoomU k A) : A.depth < recursionLimit := by have := r.dp; omega
structure FnU (P : Program) (w : World) (K : PySem.W.Frag) (mg : Str → Option Value) (base : Heap) (k : Nat) (f : Addr) (fd : FuncData) (ps : List Str) (sp : Sp) : Prop where
  len : ∀ vs H Q E, sp vs H Q E → vs.length = ps.length
  run : ∀ (A : Around) (outer : List PySem.Env) (s : Shared) (H : Hp) (args : Args) (us : List Value) (vs : List V) (Q : VK) (E : XK), A.guards = some [] → RoomU k A → Env0 P w K mg base A outer s H → BindsTo s fd args (ps.zip us) → Vals vs us → sp vs H Q E →
    codeAny (model P w) A (.call (.ref f) args) (CR (L2N.CX P w) outer P w H s Q E) s
theorem FnU.mono {P : Program} {w : World} {K : PySem.W.Frag} {mg : Str → Option Value} {base : Heap} {j k : Nat} {f : Addr} {fd : FuncData} {ps : List Str} {sp : Sp} (F : FnU P w K mg base j f fd ps sp) (h : j ≤ k) : FnU P w K mg base k f fd ps sp :=
  ⟨F.len, fun A outer s H args us vs Q E hg hr => F.run A outer s H args us vs Q E hg (hr.mono h)⟩
section
end
/-- where its code stands -/
structure CxU (X : Cx) (W : WX) (k : Nat) : Prop where
  nd : X.N.Nodup
  g : X.A.guards = some []
  room : RoomU k X.A
theorem CxU.u64 {X : Cx} {W : WX} {k : Nat} (c : CxU X W k) : X.A.units + 64 < cLine := by have := c.room.un; omega
section
end
end Fk
set_option maxHeartbeats 2000000
namespace OwX
open PySem PySem.Spec PySem.W PyProof.Rows
section
end
end OwX
namespace Fk
open PySem PySem.Spec PyProof.Rows L2
section
end
def bopB (K : PySem.W.Frag) (c : Str) (nm : String) : Bool := PySem.W.selfFirst K (He.ga K c) && ((match PySem.W.findIn K (.ref (He.ga K c)) (dunderR nm) with
    | some none => true
    | some (some (.ref _)) => true
    | _ => false) && (tyNames.all fun T => (match PySem.W.findIn K (.type T) (PySem.dunder nm), PySem.W.findIn K (.type T) (dunderR nm) with
      | some fo, some ro => decide (T = "int") || (decide (T = "bool") || !((fo.isSome && !isSeqSlot fo) || (ro.isSome && !isSeqSlot ro)))
      | _, _ => false) && (decide (PySem.W.subIn K (.type T) (.ref (He.ga K c)) = some false) && decide (PySem.W.subIn K (.ref (He.ga K c)) (.type T) = some false))))
end Fk
set_option maxHeartbeats 2000000
namespace Fk
open PySem PySem.Spec PyProof.Rows L2
def kvB (K : PySem.W.Frag) (x k : Str) (i : Int) : Bool := !(He.ga K x == sysModules) && (match PySem.W.nsIn K (He.ga K x) k with
  | some (some (.int j _)) => decide (j = i)
  | _ => false)
/-- a def whose closure is the cell of the class at D, in the program's own file -/
def fileB (K : PySem.W.Frag) (cd : Value) : Bool := match cd with
  | .ref a => (match K.lookup a with
    | some ⟨_, _, .fields vs, _⟩ => (match (vs[2]? : Option Value) with
      | some (Value.str n _) => decide (n = ("/claim/cut.py" : Str))
      | _ => false)
    | _ => false)
  | _ => false
def cellB (K : PySem.W.Frag) (cc D : Addr) : Bool := match K.lookup cc with
  | some ⟨_, _, .cell (some (.ref d)), _⟩ => decide (d = D)
  | _ => false
def cloB (K : PySem.W.Frag) (D a : Addr) : Bool := match K.lookup a with
  | some ⟨_, _, .func fd, _⟩ => (match fd.closure with
    | [(n, cc)] => decide (n = ("__class__" : Str)) && (cellB K cc D && fileB K fd.code)
    | _ => false)
  | _ => false
def supB (K : PySem.W.Frag) (D f2 : Addr) : Bool := (PySem.W.clsIn K D).isSome && (decide (PySem.W.mroIn K D (.ref D) = some true) && (He.eqO (PySem.W.nsIn K cStatics "thirdparty.any") (some none) && (He.eqO (PySem.W.ks_superIn K D D "__init__") (some (some (.ref f2))) &&
  (He.eqO (some (PySem.W.typeIn K (.ref f2))) (some (some (.type "function"))) && (PySem.W.fnIn K f2 && cloB K D (He.ma K D "__init__"))))))
/-- a module's own list of texts -/
def strV : Value → Option Str
  | .str s _ => some s
  | _ => none
def lsB (K : PySem.W.Frag) (a : Addr) (l : List Str) : Bool := match K.lookup a with
  | some ⟨.type "list", none, .seq its _, _⟩ => decide (its.size ≤ sizeLine) && decide (its.toList.map strV = l.map some)
  | _ => false
inductive Kf where
  | kio (c : Str)
  | kpo (c d : Str) (b : Bool)
  | fni (c m : Str)
  | pro (c f : Str)
  | bop (c : Str) (nm : String)
  | sfi (c : Str)
  | con (c f v : Str)
  | dv (x k f : Str)
  | dvi (x k : Str) (i : Int)
  | kve (c : Str)
  | sup (c b : Str)
  | lsT (x : Str) (l : List Str)
/-- the getter of a property -/
def gAd (K : PySem.W.Frag) (c f : Str) : Addr := match PySem.W.recIn K (He.ma K (He.ga K c) f) "property" with
  | some (.ref g :: _) => g
  | _ => 0
def Kf.ok (K : PySem.W.Frag) : Kf → Bool
  | .kio c => He.eqO (PySem.W.findIn K (.ref (He.ga K c)) "__class__") (some (some (.builtin "object.__class__"))) && (He.eqO (PySem.W.specialIn K (.builtin "object.__class__") "__get__") (some (some (.builtin "getset_descriptor.__get__"))) &&
      (decide (PySem.W.takesIn K (.builtin "object.__class__") = some true) && (decide (PySem.W.mroIn K (He.ga K c) (.type "object") = some true) && ((tyNames.all fun T => PySem.W.notFirst K (He.ga K c) (.type T)) &&
      ((tyNames.all fun T => decide (PySem.W.kitOne K (.ref (He.ga K c)) (.type T) = some false)) && (tyNames.all fun T => decide (PySem.W.kitOne K (.type T) (.ref (He.ga K c)) = some false)))))))
  | .kpo c d b => (b || PySem.W.notFirst K (He.ga K c) (.ref (He.ga K d))) && decide (PySem.W.kitOne K (.ref (He.ga K d)) (.ref (He.ga K c)) = some b)
  | .fni c m => PySem.W.fnIn K (He.ma K (He.ga K c) m)
  | .pro c f => He.eqO (PySem.W.findIn K (.ref (He.ga K c)) f) (some (some (.ref (He.ma K (He.ga K c) f)))) && (He.eqO (PySem.W.specialIn K (.ref (He.ma K (He.ga K c) f)) "__get__") (some (some (.builtin "property.__get__"))) &&
      (decide (PySem.W.takesIn K (.ref (He.ma K (He.ga K c) f)) = some true) && (match PySem.W.recIn K (He.ma K (He.ga K c) f) "property" with
        | some (.ref _ :: _) => true
        | _ => false)))
  | .bop c nm => bopB K c nm
  | .sfi c => PySem.W.selfFirst K (He.ga K c)
  | .con c f v => He.conB K c f (.str v)
  | .dv x k f => He.eqO (PySem.W.nsIn K (He.ga K x) k) (some (some (.ref (He.ga K f))))
  | .dvi x k i => kvB K x k i
  | .kve c => decide (PySem.W.kitOne K (.ref (He.ga K c)) (.type "ValueError") = some true)
  | .sup c b => supB K (He.ga K c) (He.ma K (He.ga K b) "__init__")
  | .lsT x l => lsB K (He.ga K x) l
section
end
def noCC (l : List (Str × Addr)) : List (Str × Addr) := l.filter fun p => !decide (p.1 = ("__class__" : Str))
def fnA (K : PySem.W.Frag) (a : Addr) : He.FnW := match K.lookup a with
  | some ⟨_, _, .func fd, _⟩ => some (fd.name, fd.qualname, fd.params, fd.body, fd.scope, fd.globals, noCC fd.closure, fd.builtins)
  | _ => none
def isIni (d : He.DefD) : Bool := decide (d.at_.2 = some ("__init__" : Str))
def okA (K : PySem.W.Frag) (a : Addr) (d : He.DefD) : Bool := PySem.W.keepIn K (.ref a) && (match K.lookup a with
  | some ⟨_, _, .func fd, _⟩ => PySem.W.codeIn K fd.code d.qual && ((fd.closure.isEmpty || isIni d) && (He.dflB K fd.defaults (d.dvs K) && He.kwdB K fd.kwdefaults (d.kws K)))
  | _ => false)
theorem funA {K : PySem.W.Frag} {a : Addr} {d : He.DefD} (e : fnA K a = d.val) (c : okA K a d = true) (hn : isIni d = false) : ∃ fd, FunD K d.name d.qual d.params d.body d.scope (d.dvs K) (d.kws K) a fd := by
  obtain ⟨kp, c2⟩ := He.ba c
  unfold fnA at e
  cases q : K.lookup a with
  | none =>
    rw [q] at c2
    cases c2
  | some o =>
    obtain ⟨oc, od, dt, osl⟩ := o
    rw [q] at c2 e
    cases dt with
    | func fd =>
      obtain ⟨n1, n2, n3, n4, n5, n6, n7, n8, n9, n10, n11, n12, n13, n14, n15⟩ := fd
      have e2 : (some (n1, n2, n3, n4, n5, n6, noCC n7, n15) : He.FnW) = some (d.name, d.qual, d.params, .stmts d.body, d.scope, mainGlobals, [], builtinsNs) := e
      simp only [Option.some.injEq, Prod.mk.injEq] at e2
      obtain ⟨h1, h2, h3, h4, h5, h6, h7, h8⟩ := e2
      have c3 : (PySem.W.codeIn K n13 d.qual && ((n7.isEmpty || isIni d) && (He.dflB K n8 (d.dvs K) && He.kwdB K n9 (d.kws K)))) = true := c2
      obtain ⟨k1, k5⟩ := He.ba c3
      obtain ⟨k0, k6⟩ := He.ba k5
      obtain ⟨k3, k4⟩ := He.ba k6
      rw [hn, Bool.or_false] at k0
      have k7 : n7 = [] := List.isEmpty_iff.mp k0
      subst h1 h2 h3 h4 h5 h6 k7 h8
      exact ⟨_, ⟨oc, od, n8, n9, n10, n11, n12, n13, n14, osl, rfl, q, k1, He.dflB_ok k3, He.kwdB_ok k4⟩, kp⟩
    | _ => cases c2
abbrev PrL := List (Str × Str × He.DefD)
def prV (pl : PrL) : List He.FnW := pl.map fun p => p.2.2.val
/-- where such a def stands: a getter, or a class's own __init__ with the class's cell -/
def hAd (K : PySem.W.Frag) (c f : Str) (d : He.DefD) : Addr := if isIni d then He.ma K (He.ga K c) f else gAd K c f
def prF (pl : PrL) (K : PySem.W.Frag) : List He.FnW := pl.map fun p => fnA K (hAd K p.1 p.2.1 p.2.2)
def prB (pl : PrL) (K : PySem.W.Frag) : Bool := pl.all fun p => okA K (hAd K p.1 p.2.1 p.2.2) p.2.2
def SaysP (pl : PrL) (K : PySem.W.Frag) : Prop := prB pl K = true ∧ prF pl K = prV pl
theorem SaysP.def_ {pl : PrL} {K : PySem.W.Frag} (c : SaysP pl K) (i : Nat) {p : Str × Str × He.DefD} (h : pl[i]? = some p := by rfl) (hn : isIni p.2.2 = false := by decide) : ∃ fd, FunD K p.2.2.name p.2.2.qual p.2.2.params p.2.2.body p.2.2.scope (p.2.2.dvs K) (p.2.2.kws K) (gAd K p.1 p.2.1) fd := by
  have e2 : (prF pl K)[i]? = (prV pl)[i]? := by rw [c.2]
  unfold prF prV at e2
  rw [List.getElem?_map, List.getElem?_map, h] at e2
  have e3 : hAd K p.1 p.2.1 p.2.2 = gAd K p.1 p.2.1 := by unfold hAd; rw [hn]; rfl
  have k := List.all_eq_true.mp c.1 p (List.mem_of_getElem? h)
  have e2 : fnA K (hAd K p.1 p.2.1 p.2.2) = p.2.2.val := Option.some.inj e2
  rw [e3] at e2 k
  exact funA e2 k hn
abbrev TbL := List (Str × List Str)
def SaysQ (tl : TbL) (w : World) (K : PySem.W.Frag) : Prop := (tl.map fun t => He.dicW K (He.ga K t.1)) = tl.map fun t => some (He.keysIn w.params t.2)
theorem SaysQ.tab {tl : TbL} {w : World} {K : PySem.W.Frag} (c : SaysQ tl w K) (i : Nat) {t : Str × List Str} (h : tl[i]? = some t := by rfl) : ∃ es n, K.lookup (He.ga K t.1) = some ⟨.type "dict", none, .dict es n, #[]⟩ ∧ PySem.W.KeysLit w.params es.toList := by
  have c : (tl.map fun t => He.dicW K (He.ga K t.1)) = tl.map fun t => some (He.keysIn w.params t.2) := c
  have e2 : (tl.map fun t => He.dicW K (He.ga K t.1))[i]? = (tl.map fun t => some (He.keysIn w.params t.2))[i]? := by rw [c]
  rw [List.getElem?_map, List.getElem?_map, h] at e2
  obtain ⟨es, n, d⟩ := He.dicW_ok (Option.some.inj e2)
  exact ⟨es, n, d.1, d.2⟩
end Fk
set_option maxHeartbeats 2000000
namespace Fk
open PySem PySem.Spec PyProof.Rows L2
def gFldC (cls : List Str) (f : Str) (fo : SemE) (y : D) (k : Store → OutS) : SemS := fun ρ S => toS (fo ρ S) ρ fun x S2 => match setF cls f x y S2 with
  | some S3 => k S3
  | none => .stuck
def sFld2 (cls : List Str) (f f' : Str) (fo fo' fe : SemE) : SemS := fun ρ S => toS (fe ρ S) ρ fun d S1 => match d with
  | .tup [y, z] => gFldC cls f fo y (fun S2 => gFldC cls f' fo' z (fun S3 => .nx ρ S3) ρ S2) ρ S1
  | _ => .stuck
section
end
section
variable {ρ : Env} {S : Store} {k : KS}
def kF21 (cls : List Str) (f f' : Str) (fo' : SemE) (ρ : Env) (k : KS) (y z x : D) (S2 : Store) : Prop := ∃ S3, setF cls f x y S2 = some S3 ∧ (fo' ρ S3).wp (fun x S4 => ∃ S5, setF cls f' x z S4 = some S5 ∧ k.nx ρ S5) (kEx k ρ)
def kF2 (cls : List Str) (f f' : Str) (fo fo' : SemE) (ρ : Env) (k : KS) (d : D) (S : Store) : Prop := ∃ y z, d = .tup [y, z] ∧ (fo ρ S).wp (kF21 cls f f' fo' ρ k y z) (kEx k ρ)
@[simp] theorem kF2_eq (cls : List Str) (f f' : Str) (fo fo' : SemE) (y z : D) : kF2 cls f f' fo fo' ρ k (.tup [y, z]) S = (fo ρ S).wp (kF21 cls f f' fo' ρ k y z) (kEx k ρ) := by
  apply propext
  constructor
  · rintro ⟨y, z, e, h⟩; cases e; exact h
  · intro h; exact ⟨y, z, rfl, h⟩
@[simp] theorem kF21_eq (cls : List Str) (f f' : Str) (fo' : SemE) (y z x : D) : kF21 cls f f' fo' ρ k y z x S = ∃ S3, setF cls f x y S = some S3 ∧ (fo' ρ S3).wp (fun x S4 => ∃ S5, setF cls f' x z S4 = some S5 ∧ k.nx ρ S5) (kEx k ρ) := rfl
theorem wp_gFldC (cls : List Str) (f : Str) (fo : SemE) (y : D) (g : Store → OutS) : (gFldC cls f fo y g ρ S).wp k = (fo ρ S).wp (fun x S2 => ∃ S3, setF cls f x y S2 = some S3 ∧ (g S3).wp k) (kEx k ρ) := by
  simp only [gFldC, wpS_toS]
  congr 1
  funext x S2
  cases setF cls f x y S2 <;> simp
@[simp] theorem wp_sFld2 (cls : List Str) (f f' : Str) (fo fo' fe : SemE) : (sFld2 cls f f' fo fo' fe ρ S).wp k = (fe ρ S).wp (kF2 cls f f' fo fo' ρ k) (kEx k ρ) := by
  simp only [sFld2, wpS_toS]
  congr 1
  funext d S1
  apply propext
  constructor
  · intro h
    match d, h with
    | .tup [y, z], h =>
      refine ⟨y, z, rfl, ?_⟩
      simp only [wp_gFldC, wpS_nx] at h
      exact h
  · rintro ⟨y, z, rfl, h⟩
    simp only [wp_gFldC, wpS_nx]
    exact h
end
/-- the defs of a table, by text: how many parameters, what they compute -/
abbrev DT := List (Str × Nat × FSem)
def dtAt (tab : DT) : D → Option (Nat × FSem)
  | .str x => (tab.find? fun q => decide (q.1 = x)).map (·.2)
  | _ => none
structure DdA (P : Program) (w : World) (K : PySem.W.Frag) (mg : Str → Option Value) (base : Heap) (k : Nat) (x : Str) (tab : DT) : Prop where
  ex : ∃ p, mg x = some (.ref p) ∧ ∀ q ∈ tab, ∃ f, L2.KDct K w p q.1 (.ref f) ∧ PySem.W.keepIn K (.ref f) = true ∧ FnB P w K mg base k f q.2.1 q.2.2
def sDeed2 (n : Nat) (f : FSem) (l : Nat) (fp : SemE) (xs : List D) : SemS := fun ρ S => toS (fp ρ S) ρ fun p S3 => if xs.length + 1 = n then toS (f (p :: xs) S3) ρ fun d S4 => .nx (ρ.set l (some d)) S4 else .stuck
def sDeed (tab : DT) (i j l : Nat) (fk fr fp : SemE) : SemS := fun ρ S => toS (fk ρ S) ρ fun x S1 => match dtAt tab x with
  | some (n, f) => toS (fr ρ S1) ρ fun r S2 => (match r with
    | .tup xs => if i < ρ.length ∧ j < ρ.length then sDeed2 n f l fp xs ((ρ.set i none).set j (some (.tup xs))) S2 else .stuck
    | _ => .stuck)
  | none => .stuck
section
variable {X : Cx} {W : WX} {k i j l : Nat} {tab : DT} {x dn rn fn : Str} {ek er ep : Expr} {es : List Expr} {fk fr fp : SemE} {gr : SemS} {rest : List Stmt} {p1 p2 p3 p4 p5 p6 p7 p8 p9 p10 p11 pos pos' : Pos} {kt : Nat} {k2 : Nat}
theorem REnv.drop {K : PySem.W.Frag} {F : Hp} {ι : List Addr} {σ : L2.St} {ρ : Env} (h : REnv K F ι σ ρ) (i : Nat) (v : V) : REnv K F ι (σ.set i (some v)) (ρ.set i none) := by
  refine ⟨by simp [h.len], fun j e he => ?_⟩
  by_cases hj : j = i
  · subst hj
    have hl : j < ρ.length := by simpa using (List.getElem?_eq_some_iff.mp he).1
    rw [List.getElem?_set_self hl] at he
    cases he
  · rw [List.getElem?_set_ne (Ne.symm hj)] at he ⊢
    exact h.at' j e he
end
section
variable {ρ : Env} {S : Store} {k : KS}
def kDd3 (n : Nat) (f : FSem) (l : Nat) (xs : List D) (ρ : Env) (k : KS) (p : D) (S : Store) : Prop := xs.length + 1 = n ∧ (f (p :: xs) S).wp (fun d S4 => k.nx (ρ.set l (some d)) S4) (kEx k ρ)
def kDd2 (n : Nat) (f : FSem) (i j l : Nat) (fp : SemE) (ρ : Env) (k : KS) (r : D) (S : Store) : Prop := ∃ xs, r = .tup xs ∧ (i < ρ.length ∧ j < ρ.length) ∧ (fp ((ρ.set i none).set j (some r)) S).wp (kDd3 n f l xs ((ρ.set i none).set j (some r)) k) (kEx k ((ρ.set i none).set j (some r)))
def kDd (tab : DT) (i j l : Nat) (fr fp : SemE) (ρ : Env) (k : KS) (x : D) (S : Store) : Prop := ∃ n f, dtAt tab x = some (n, f) ∧ (fr ρ S).wp (kDd2 n f i j l fp ρ k) (kEx k ρ)
@[simp] theorem kDd3_eq (n : Nat) (f : FSem) (l : Nat) (xs : List D) (p : D) : kDd3 n f l xs ρ k p S = (xs.length + 1 = n ∧ (f (p :: xs) S).wp (fun d S4 => k.nx (ρ.set l (some d)) S4) (kEx k ρ)) := rfl
@[simp] theorem kDd2_eq (n : Nat) (f : FSem) (i j l : Nat) (fp : SemE) (xs : List D) : kDd2 n f i j l fp ρ k (.tup xs) S = ((i < ρ.length ∧ j < ρ.length) ∧ (fp ((ρ.set i none).set j (some (.tup xs))) S).wp (kDd3 n f l xs ((ρ.set i none).set j (some (.tup xs))) k) (kEx k ((ρ.set i none).set j (some (.tup xs))))) := by
  apply propext
  constructor
  · rintro ⟨y, e, h⟩; cases e; exact h
  · intro h; exact ⟨xs, rfl, h⟩
theorem kDd_of {tab : DT} {n i j l : Nat} {f : FSem} {fr fp : SemE} {x : D} (h : dtAt tab x = some (n, f)) : kDd tab i j l fr fp ρ k x S = (fr ρ S).wp (kDd2 n f i j l fp ρ k) (kEx k ρ) := by
  apply propext
  constructor
  · rintro ⟨n', f', e, q⟩
    rw [h] at e
    cases e
    exact q
  · intro q; exact ⟨n, f, h, q⟩
@[simp] theorem wp_sDeed (tab : DT) (i j l : Nat) (fk fr fp : SemE) : (sDeed tab i j l fk fr fp ρ S).wp k = (fk ρ S).wp (kDd tab i j l fr fp ρ k) (kEx k ρ) := by
  simp only [sDeed, wpS_toS]
  congr 1
  funext x S1
  apply propext
  cases hd : dtAt tab x with
  | none =>
    constructor
    · intro h; simp at h
    · rintro ⟨n, f, e, _⟩
      rw [hd] at e
      cases e
  | some nf =>
    obtain ⟨n, f⟩ := nf
    rw [kDd_of hd]
    simp only [wpS_toS]
    have e : (fun (r : D) (S2 : Store) => OutS.wp (match r with
        | .tup xs => if i < ρ.length ∧ j < ρ.length then sDeed2 n f l fp xs ((ρ.set i none).set j (some (.tup xs))) S2 else .stuck
        | _ => .stuck) k) = kDd2 n f i j l fp ρ k := by
      funext r S2
      apply propext
      cases r with
      | tup xs =>
        rw [kDd2_eq]
        by_cases hl : i < ρ.length ∧ j < ρ.length
        · simp only [if_pos hl, sDeed2, wpS_toS]
          have e2 : (fun (p : D) (S3 : Store) => OutS.wp (if xs.length + 1 = n then toS (f (p :: xs) S3) ((ρ.set i none).set j (some (.tup xs))) fun d S4 => .nx (((ρ.set i none).set j (some (.tup xs))).set l (some d)) S4 else .stuck) k) = kDd3 n f l xs ((ρ.set i none).set j (some (.tup xs))) k := by
            funext p S3
            apply propext
            rw [kDd3_eq]
            by_cases hn : xs.length + 1 = n
            · simp only [hn, if_true, wpS_toS, wpS_nx, true_and]
              exact Iff.rfl
            · simp [hn]
          rw [e2]
          exact ⟨fun h => ⟨hl, h⟩, fun h => h.2⟩
        · simp [if_neg hl]
          intro a b
          exact (hl ⟨a, b⟩).elim
      | _ => simp [kDd2]
    exact Iff.of_eq (congrArg (fun Q => (fr ρ S1).wp Q (kEx k ρ)) e)
end
section
variable {P : Program} {w : World} {K : PySem.W.Frag} {mg : Str → Option Value} {base : Heap} {k n : Nat} {x y f : Str} {tab : DT} {fs : FSem}
theorem DdA.mono {j : Nat} (h : DdA P w K mg base j x tab) (hj : j ≤ k) : DdA P w K mg base k x tab := by
  obtain ⟨p, h1, h2⟩ := h.ex
  exact ⟨p, h1, fun q hq => by
    obtain ⟨f, e1, e2, e3⟩ := h2 q hq
    exact ⟨f, e1, e2, e3.mono hj⟩⟩
end
end Fk
set_option maxHeartbeats 2000000
namespace Fk
open PySem PySem.Spec PyProof.Rows L2
section
structure FnGZ (P : Program) (w : World) (K : PySem.W.Frag) (mg : Str → Option Value) (base : Heap) (k : Nat) (f : Addr) (fd : FuncData) (ps : List Str) (sp : Sp) : Prop where
  len : ∀ vs H Q E, sp vs H Q E → vs.length = ps.length
  run : ∀ (A : Around) (outer : List PySem.Env) (s : Shared) (H : Hp) (args : Args) (us : List Value) (vs : List V) (Q : VK) (E : XK), A.guards = some [] → Room k A → Env0 P w K mg base A outer s H → BindsTo s fd args (ps.zip us) → Vals vs us → sp vs H Q E →
    codeAny (model P w) A (.call (.ref f) args) (CR (L2.CX P w) outer P w H s Q E) s
end
section
theorem FnGZ.mono {P : Program} {w : World} {K : PySem.W.Frag} {mg : Str → Option Value} {base : Heap} {j k : Nat} {f : Addr} {fd : FuncData} {ps : List Str} {sp : Sp} (F : FnGZ P w K mg base j f fd ps sp) (h : j ≤ k) : FnGZ P w K mg base k f fd ps sp :=
  ⟨F.len, fun A outer s H args us vs Q E hg hr => F.run A outer s H args us vs Q E hg (hr.mono h)⟩
end
section
end
section
end
section
end
section
structure FnBZ (P : Program) (w : World) (K : PySem.W.Frag) (mg : Str → Option Value) (base : Heap) (k : Nat) (g : Addr) (n : Nat) (f : FSem) : Prop where
  run : ∀ (A : Around) (outer : List PySem.Env) (s : Shared) (H : Hp) (us : List Value) (vs : List V) (Q : VK) (E : XK), A.guards = some [] → Room k A → Env0 P w K mg base A outer s H → K.In s.heap → Vals vs us → spD K mg n f vs H Q E →
    codeAny (model P w) A (.call (.ref g) ⟨us, []⟩) (CR (L2.CX P w) outer P w H s Q E) s
end
section
end
section
end
section
theorem FnBZ.mono {P : Program} {w : World} {K : PySem.W.Frag} {mg : Str → Option Value} {base : Heap} {j k n : Nat} {g : Addr} {f : FSem} (h : FnBZ P w K mg base j g n f) (hj : j ≤ k) : FnBZ P w K mg base k g n f :=
  ⟨fun A outer s H us vs Q E hG hr => h.run A outer s H us vs Q E hG (hr.mono hj)⟩
end
section
structure MtOZ (P : Program) (w : World) (K : PySem.W.Frag) (mg : Str → Option Value) (base : Heap) (m : Str) (n k : Nat) (c : Str) (f : FSem) : Prop where
  ex : ∃ C g, mg c = some (.ref C) ∧ Cls K C ∧ Meth K C m g ∧ PySem.W.fnIn K g = true ∧ FnBZ P w K mg base k g n f
end
section
end
section
end
section
end
section
end
section
variable {P : Program} {w : World} {K : PySem.W.Frag} {mg : Str → Option Value} {base : Heap} {m : Str} {n k j : Nat} {c : Str} {f : FSem} {mt : MT}
theorem MtOZ.mono (h : MtOZ P w K mg base m n j c f) (hj : j ≤ k) : MtOZ P w K mg base m n k c f := by
  obtain ⟨C, g, h1, h2, h3, h4, h5⟩ := h.ex
  exact ⟨C, g, h1, h2, h3, h4, h5.mono hj⟩
end
section
end
section
end
section
end
section
end
section
end
section
end
section
end
section
end
end Fk
set_option maxHeartbeats 2000000
namespace Fk
open PySem PySem.Spec PyProof.Rows L2
def sStuck : SemS := fun _ _ => .stuck
@[simp] theorem wp_sStuck {ρ : Env} {S : Store} {k : KS} : (sStuck ρ S).wp k ↔ False := ⟨fun h => h.run, False.elim⟩
section
end
def noE : OutS → OutS
  | .exc _ _ _ _ => .stuck
  | o => o
def sTryZ (tbl : XTbl) (b : SemS) (hds : List (Str × Option Nat × SemS)) : SemS := fun ρ S => match b ρ S with
  | .exc c fs ρ1 S1 => (match tbl.at c with
    | some anc => noE (goH c fs anc hds ρ1 S1)
    | none => .stuck)
  | o => o
section
end
section
end
def sFin (b f : SemS) : SemS := fun ρ S => match b ρ S with
  | .nx ρ1 S1 => (match f ρ1 S1 with
    | .nx ρ2 S2 => .nx ρ2 S2
    | _ => .stuck)
  | .exc c fs ρ1 S1 => (match f ρ1 S1 with
    | .nx ρ2 S2 => .exc c fs ρ2 S2
    | _ => .stuck)
  | _ => .stuck
section
end
section
end
def sTryR (tbl : XTbl) (x : Str) (b : SemS) (c' fl : Str) (fe : SemE) : SemS := fun ρ S => match b ρ S with
  | .exc c fs ρ1 S1 => (match tbl.at c with
    | some anc => if anc.contains x then (match fe ρ1 S1 with
      | .ok d S2 => .exc c' [(fl, d)] ρ1 S2
      | _ => .stuck) else .stuck
    | none => .stuck)
  | o => o
section
end
end Fk
set_option maxHeartbeats 2000000
namespace Fk
open PySem PySem.Spec PyProof.Rows L2
section
end
section
end
section
variable {ρ : Env} {S : Store} {k : KS} {tbl : XTbl}
def kNx (q : Env → Store → Prop) : KS := ⟨q, fun _ _ => False, fun _ _ => False, fun _ _ => False, fun _ _ _ _ => False⟩
@[simp] theorem kNx_nx (q : Env → Store → Prop) : (kNx q).nx = q := rfl
@[simp] theorem kNx_rt (q : Env → Store → Prop) (d : D) : (kNx q).rt d S = False := rfl
@[simp] theorem kNx_bk (q : Env → Store → Prop) : (kNx q).bk ρ S = False := rfl
@[simp] theorem kNx_ct (q : Env → Store → Prop) : (kNx q).ct ρ S = False := rfl
@[simp] theorem kNx_ex (q : Env → Store → Prop) (c : Str) (fs : List (Str × D)) : (kNx q).ex c fs ρ S = False := rfl
def kFin (f : SemS) (k : KS) : KS := ⟨fun ρ S => (f ρ S).wp (kNx k.nx), fun _ _ => False, fun _ _ => False, fun _ _ => False, fun c fs ρ S => (f ρ S).wp (kNx (k.ex c fs))⟩
@[simp] theorem kFin_nx (f : SemS) : (kFin f k).nx ρ S = (f ρ S).wp (kNx k.nx) := rfl
@[simp] theorem kFin_rt (f : SemS) (d : D) : (kFin f k).rt d S = False := rfl
@[simp] theorem kFin_bk (f : SemS) : (kFin f k).bk ρ S = False := rfl
@[simp] theorem kFin_ct (f : SemS) : (kFin f k).ct ρ S = False := rfl
@[simp] theorem kFin_ex (f : SemS) (c : Str) (fs : List (Str × D)) : (kFin f k).ex c fs ρ S = (f ρ S).wp (kNx (k.ex c fs)) := rfl
@[simp] theorem wp_sFin (b f : SemS) : (sFin b f ρ S).wp k = (b ρ S).wp (kFin f k) := by
  unfold sFin
  cases b ρ S with
  | nx ρ1 S1 => cases h : f ρ1 S1 <;> simp [h]
  | exc c fs ρ1 S1 => cases h : f ρ1 S1 <;> simp [h]
  | _ => simp
def kTryZ (tbl : XTbl) (hds : List (Str × Option Nat × SemS)) (k : KS) : KS := { k with ex := fun c fs ρ S => ∃ anc, tbl.at c = some anc ∧ (goH c fs anc hds ρ S).wp { k with ex := fun _ _ _ _ => False } }
@[simp] theorem kTryZ_nx (hds : List (Str × Option Nat × SemS)) : (kTryZ tbl hds k).nx = k.nx := rfl
@[simp] theorem kTryZ_rt (hds : List (Str × Option Nat × SemS)) : (kTryZ tbl hds k).rt = k.rt := rfl
@[simp] theorem kTryZ_bk (hds : List (Str × Option Nat × SemS)) : (kTryZ tbl hds k).bk = k.bk := rfl
@[simp] theorem kTryZ_ct (hds : List (Str × Option Nat × SemS)) : (kTryZ tbl hds k).ct = k.ct := rfl
@[simp] theorem kTryZ_ex (hds : List (Str × Option Nat × SemS)) (c : Str) (fs : List (Str × D)) : (kTryZ tbl hds k).ex c fs ρ S = ∃ anc, tbl.at c = some anc ∧ (goH c fs anc hds ρ S).wp { k with ex := fun _ _ _ _ => False } := rfl
theorem wp_noE (o : OutS) : (noE o).wp k = o.wp { k with ex := fun _ _ _ _ => False } := by
  cases o <;> simp [noE]
@[simp] theorem wp_sTryZ (b : SemS) (hds : List (Str × Option Nat × SemS)) : (sTryZ tbl b hds ρ S).wp k = (b ρ S).wp (kTryZ tbl hds k) := by
  unfold sTryZ
  cases b ρ S with
  | exc c fs ρ1 S1 => cases h : tbl.at c <;> simp [h, wp_noE]
  | _ => simp
def kTryR (tbl : XTbl) (x c' fl : Str) (fe : SemE) (k : KS) : KS := { k with ex := fun c _ ρ S => ∃ anc, tbl.at c = some anc ∧ anc.contains x = true ∧ (fe ρ S).wp (fun d S2 => k.ex c' [(fl, d)] ρ S2) eNo }
@[simp] theorem kTryR_nx (x c' fl : Str) (fe : SemE) : (kTryR tbl x c' fl fe k).nx = k.nx := rfl
@[simp] theorem kTryR_rt (x c' fl : Str) (fe : SemE) : (kTryR tbl x c' fl fe k).rt = k.rt := rfl
@[simp] theorem kTryR_bk (x c' fl : Str) (fe : SemE) : (kTryR tbl x c' fl fe k).bk = k.bk := rfl
@[simp] theorem kTryR_ct (x c' fl : Str) (fe : SemE) : (kTryR tbl x c' fl fe k).ct = k.ct := rfl
@[simp] theorem kTryR_ex (x c' fl : Str) (fe : SemE) (c : Str) (fs : List (Str × D)) : (kTryR tbl x c' fl fe k).ex c fs ρ S = ∃ anc, tbl.at c = some anc ∧ anc.contains x = true ∧ (fe ρ S).wp (fun d S2 => k.ex c' [(fl, d)] ρ S2) eNo := rfl
@[simp] theorem wp_sTryR (x c' fl : Str) (b : SemS) (fe : SemE) : (sTryR tbl x b c' fl fe ρ S).wp k = (b ρ S).wp (kTryR tbl x c' fl fe k) := by
  unfold sTryR
  cases b ρ S with
  | exc c fs ρ1 S1 =>
    cases h : tbl.at c with
    | none => simp [h]
    | some anc =>
      by_cases h2 : x ∈ anc
      · cases h3 : fe ρ1 S1 <;> simp [h, h2, h3]
      · simp [h, h2]
  | _ => simp
end
end Fk
set_option maxHeartbeats 2000000
namespace Fk
open PySem PySem.Spec PyProof.Rows L2
section
end
section
end
section
end
section
end
section
end
end Fk
set_option maxHeartbeats 1000000
namespace Fk
open PySem PySem.Spec PyProof.Rows L2 LamX
section
end
end Fk
set_option maxHeartbeats 1000000
namespace Fk
open PySem PySem.Spec PyProof.Rows L2 GenW
section
end
section
end
end Fk
set_option maxHeartbeats 1000000
namespace Fk
open PySem PySem.Spec PyProof.Rows L2 GenW
end Fk
set_option maxHeartbeats 1000000
namespace Fk
open PySem PySem.Spec PyProof.Rows L2 GenW
theorem GFn.mono {P : Program} {w : World} {K : PySem.W.Frag} {mg : Str → Option Value} {base : Heap} {j k : Nat} {f : Addr} {fd : FuncData} {ps : List Str} {sp : SpG} (h : GFn P w K mg base j f fd ps sp) (hj : j ≤ k) : GFn P w K mg base k f fd ps sp := by
  refine ⟨h.len, fun A outer s H args us vs Q E hr e0 hb r q => codeAny_mono (h.run A outer s H args us vs Q E (hr.mono hj) e0 hb r q) fun r s' hq => ?_⟩
  cases r with
  | error e => exact hq.elim
  | ok fl =>
    cases fl with
    | ret u =>
      obtain ⟨a, g, c, q1, q2, q3, q4, q5, q6, q7, q8, q9, q10⟩ := hq
      exact ⟨a, g, c, q1, q2, q3, q4, q5, q6, q7, q8, q9, fun A S s2 hr2 => q10 A S s2 (hr2.mono hj)⟩
    | next => exact hq.elim
    | brk => exact hq.elim
    | cont => exact hq.elim
end Fk
set_option maxHeartbeats 1000000
namespace Fk
open PySem PySem.Spec PyProof.Rows L2
structure FnK (P : Program) (w : World) (K : PySem.W.Frag) (mg : Str → Option Value) (base : Heap) (k : Nat) (g : Addr) (n : Nat) (ks : List Str) (f : FSem) : Prop where
  run : ∀ (A : Around) (outer : List PySem.Env) (s : Shared) (H : Hp) (us ws : List Value) (vs zs : List V) (Q : VK) (E : XK), A.guards = some [] → Room k A → Env0 P w K mg base A outer s H → K.In s.heap → Vals vs us → Vals zs ws → vs.length = n → zs.length = ks.length → spD K mg (n + ks.length) f (vs ++ zs) H Q E →
    codeAny (model P w) A (.call (.ref g) ⟨us, ks.zip ws⟩) (CR (L2N.CX P w) outer P w H s Q E) s
theorem FnK.mono {P : Program} {w : World} {K : PySem.W.Frag} {mg : Str → Option Value} {base : Heap} {j k n : Nat} {g : Addr} {ks : List Str} {f : FSem} (h : FnK P w K mg base j g n ks f) (hj : j ≤ k) : FnK P w K mg base k g n ks f :=
  ⟨fun A outer s H us ws vs zs Q E hG hr => h.run A outer s H us ws vs zs Q E hG (hr.mono hj)⟩
structure MkwO (P : Program) (w : World) (K : PySem.W.Frag) (mg : Str → Option Value) (base : Heap) (m : Str) (n : Nat) (ks : List Str) (k : Nat) (c : Str) (f : FSem) : Prop where
  ex : ∃ C g, mg c = some (.ref C) ∧ Cls K C ∧ Meth K C m g ∧ PySem.W.fnIn K g = true ∧ FnK P w K mg base k g n ks f
theorem MkwO.mono {P : Program} {w : World} {K : PySem.W.Frag} {mg : Str → Option Value} {base : Heap} {m c : Str} {n j k : Nat} {ks : List Str} {f : FSem} (h : MkwO P w K mg base m n ks j c f) (hj : j ≤ k) : MkwO P w K mg base m n ks k c f := by
  obtain ⟨C, g, h1, h2, h3, h4, h5⟩ := h.ex
  exact ⟨C, g, h1, h2, h3, h4, h5.mono hj⟩
section
end
end Fk
namespace Fk
open PySem PySem.W PySem.Calls PyProof.Rows HandSHeadRun
end Fk
set_option maxHeartbeats 2000000
namespace Fk
open PySem PySem.Spec PyProof.Rows L2
section
end
end Fk
set_option maxHeartbeats 2000000
namespace OwX
open PySem PySem.Spec PySem.W PyProof.Rows
section
end
end OwX
namespace Fk
open PySem PySem.Spec PyProof.Rows L2
end Fk
set_option maxHeartbeats 2000000
namespace Fk
open PySem PySem.Spec PyProof.Rows L2
/-- a def whose closure is the class's cell -/
structure FunS (K : PySem.W.Frag) (x qual : Str) (params : Arguments) (body : List Stmt) (scope : Scope) (D cc f : Addr) (fd : FuncData) : Prop where
  ex : ∃ (oc : Value) (od : Option Addr) (kV doc pm : Value) (an : Option Addr) (cda : Addr) (ct : Value) (osl : Array (Option Value)) (ccl : Value) (cdd : Option Addr) (vs : Array Value) (ccs : Array (Option Value)) (tf : Tok),
    fd = PySem.W.ksFn x qual params body scope .none kV doc pm an (.ref cda) ct cc ∧ K.lookup f = some ⟨oc, od, .func fd, osl⟩ ∧ PySem.W.codeIn K (.ref cda) qual = true ∧ K.lookup cda = some ⟨ccl, cdd, .fields vs, ccs⟩ ∧ vs[2]? = some (.str "/claim/cut.py" tf)
  cell : ∃ cl cld csl, K.lookup cc = some ⟨cl, cld, .cell (some (.ref D)), csl⟩
/-- what super() of an instance of the class at D gives: its own __init__ is at f2 -/
structure SupA (K : PySem.W.Frag) (D f2 : Addr) : Prop where
  cls : ∃ cd, PySem.W.clsIn K D = some cd
  sub : PySem.W.mroIn K D (.ref D) = some true
  opq : PySem.W.nsIn K cStatics "thirdparty.any" = some none
  at_ : PySem.W.ks_superIn K D D "__init__" = some (some (.ref f2))
  ty : PySem.W.typeIn K (.ref f2) = some (.type "function")
  fn : PySem.W.fnIn K f2 = true
theorem FunS.bindsN {K : PySem.W.Frag} {x qual : Str} {params : Arguments} {body : List Stmt} {scope : Scope} {D cc f : Addr} {fd : FuncData} {ps : List Str} (F : FunS K x qual params body scope D cc f fd)
    (h : ∀ (kV doc pm : Value) (an : Option Addr) (cdv ct : Value) (us : List Value), us.length = ps.length → bindArgs (PySem.W.ksFn x qual params body scope .none kV doc pm an cdv ct cc) ⟨us, []⟩ = pure (ps.zip us)) : Binds K fd ps [] := by
  obtain ⟨oc, od, kV, doc, pm, an, cda, ct, osl, ccl, cdd, vs, ccs, tf, rfl, _⟩ := F.ex
  exact .all (h kV doc pm an (.ref cda) ct)
structure SupO (P : Program) (w : World) (K : PySem.W.Frag) (mg : Str → Option Value) (base : Heap) (k : Nat) (c : Str) (D : Addr) (fs : FSem) : Prop where
  nm : mg c = some (.ref D)
  no : mg "super" = none
  ex : ∃ f2, SupA K D f2 ∧ FnB P w K mg base k f2 2 fs
section
end
section
end
section
variable {P : Program} {w : World} {K : PySem.W.Frag} {mg : Str → Option Value} {base : Heap} {j k : Nat} {c : Str} {D : Addr} {fs : FSem}
theorem SupO.mono (T : SupO P w K mg base j c D fs) (h : j ≤ k) : SupO P w K mg base k c D fs := ⟨T.nm, T.no, let ⟨f2, a, b⟩ := T.ex; ⟨f2, a, b.mono h⟩⟩
end
end Fk
set_option maxHeartbeats 2000000
namespace Fk
open PySem PySem.Spec PyProof.Rows L2
section
end
section
end
section
end
section
end
end Fk
namespace Fk
open PySem PySem.Spec PyProof.Rows L2
section
end
end Fk
set_option maxHeartbeats 1000000
namespace Fk
open PySem PySem.Spec PyProof.Rows L2 CwR
section
end
section
end
end Fk
set_option maxHeartbeats 4000000
namespace Fk
open PySem PySem.Spec PyProof.Rows L2
/-- the object that tuple(..) makes -/
abbrev tOb (its : List Value) : Obj := { cls := .type "tuple", data := .seq its.toArray }
def tupKD : List D → Store → Option D
  | [d], S => match dr S d with
    | .lst (.tup x :: xs) => some (.ktp (.tup x :: xs))
    | _ => none
  | _, _ => none
def mulKD (d e : D) (_ : Store) : Option D := match d, e with
  | .tup (.tup x :: xs), .int k => if 2 ≤ k ∧ k ≤ 1000 ∧ xs.length < 1000 then some (.ktp (List.replicate k.toNat (.tup x :: xs)).flatten) else none
  | _, _ => none
def wkD : D → D
  | .ktp xs => .tup xs
  | d => d
def eWk (f : SemE) : SemE := fun ρ S => (f ρ S).bind fun d S1 => .ok (wkD d) S1
def isKt : D → Bool
  | .ktp _ => true
  | _ => false
def opTix (d e : D) (_ : Store) : Option D := match d with
  | .ktp ds => (match rowsI ds, rowI e with
    | some rs, some r => if r ∈ rs then some (.int (rs.idxOf r : Nat)) else none
    | _, _ => none)
  | _ => none
def eTix (f g : SemE) : SemE := fun ρ S => (f ρ S).bind fun x S1 => if isKt x then (g ρ S1).bind fun y S2 => lift (opTix x y S2) S2 else .stuck
section
variable {K : PySem.W.Frag} {F : Hp} {ι : List Addr}
theorem rel_head {vs : List V} {x : List D} {xs : List D} (r : RelAll K F ι vs (.tup x :: xs)) : ∃ b ws, vs = V.ref b :: ws := by
  cases r with
  | cons a t => cases a with
    | tp h _ => exact ⟨_, _, rfl⟩
theorem rel_wk {v : V} {d : D} (r : Rel K F ι v d) : Rel K F ι v (wkD d) := by
  cases r with
  | ktp h hd hl hr => obtain ⟨b, ws, e⟩ := hl; exact .tp (.inr ⟨_, b, ws, h, e⟩) hr
  | tp h hr => exact .tp h hr
  | non => exact .non
  | bl b => exact .bl b
  | int i => exact .int i
  | str x => exact .str x
  | lst h hr => exact .lst h hr
  | scr h hr => exact .scr h hr
  | dct h k hr => exact .dct h k hr
  | ref h => exact .ref h
  | exn0 h k => exact .exn0 h k
  | exn h k h2 e hr => exact .exn h k h2 e hr
end
section
variable {X : Cx} {W : WX}
theorem cx_tupK : CallX X (.type "tuple") tupKD := by
  intro pins s σ H xs us Q I r h
  obtain ⟨F, ι, S, ds, a, sm, rd, ho, q⟩ := h
  unfold tupKD at ho
  split at ho
  · obtain ⟨x, rfl, rx⟩ := rel1 rd
    split at ho
    · next y ys h1 =>
      cases ho
      obtain ⟨p, vs, rfl, e1, r1⟩ := at_lst sm rx h1
      obtain ⟨u, rfl, ru⟩ := r.one
      cases ru
      obtain ⟨its, rv, pl, hz⟩ := I.list (SqL.of e1)
      refine call_tuple_list pl.isList (fun hh hk => ?_) (by rw [List.size_toArray, ← rv.length]; exact hz)
      have J : Inv X pins σ H { s with heap := hh } := I.kept (t' := s.toks) hk
      have J2 : Inv X pins σ (upd H hh.objs.size (.frz (tOb its) (.tup vs))) { s with heap := hh.push (tOb its) } :=
        J.laid (t' := s.toks) (o := .frz (tOb its) (.tup vs)) (fun b o e => Heap.get?_push_of_some _ e) (Nat.le_refl _) ⟨Heap.get?_push_size _ rfl, hz, its, rv, IsTup.new _ _⟩
      obtain ⟨x2, s2⟩ := sm.frozen (o := .frz (tOb its) (.tup vs)) (J.hok.fresh (Nat.le_refl _))
      exact ⟨.ref hh.objs.size, _, J2, rfl, q _ _ _ _ x2 s2 (.ktp upd_same rfl (rel_head r1) (RelAll.mono x2 r1))⟩
    · cases ho
  · cases ho
theorem ox_mulK : OpX X (binaryOp .Mult) mulKD := by
  intro pins s σ H x y v u Q I rx ry h
  obtain ⟨F, ι, S, d, e, a, sm, rd, re, ho, q⟩ := h
  unfold mulKD at ho
  split at ho
  · next y ys k =>
    split at ho
    · next hz =>
      cases ho
      obtain ⟨h1, h2, h3⟩ := hz
      cases rel_int re
      obtain ⟨p1, vs, rfl, e1, f1, r1, _⟩ := at_tup sm rd (show dr S (.tup (.tup y :: ys)) = .tup (.tup y :: ys) from rfl)
      obtain ⟨b, ws, ev⟩ := rel_head r1
      have hl := r1.length
      simp only [List.length_cons] at hl
      cases rx
      obtain ⟨t, rfl⟩ := ry
      obtain ⟨its, r, ⟨⟨cls, dd, data, sl⟩, hob, hc, n, hd⟩, hs⟩ := I.tuple e1.sq
      simp only at hc hd
      subst hc hd
      have hle : its.length = vs.length := r.length.symm
      have hi : its.toArray.isEmpty = false := by
        cases its with
        | nil => rw [ev] at hle; cases hle
        | cons _ _ => rfl
      have hsz0 : its.toArray.size = vs.length := by rw [List.size_toArray, hle]
      have hm : ((its.toArray.size : Nat) : Int) * k ≤ 1000000 := by
        rw [hsz0]
        have z1 : ((vs.length : Nat) : Int) * k ≤ 1000 * k := Int.mul_le_mul_of_nonneg_right (by omega) (by omega)
        omega
      have flen : (List.replicate k.toNat its).flatten.length ≤ sizeLine := by
        rw [PyProof.Rows.lm_len_rep_flat, hle, sizeLine_eq]
        have z1 : k.toNat * vs.length ≤ 1000 * 1000 := Nat.mul_le_mul (by omega) (by omega)
        omega
      refine wpAny_binaryOp_repeat_ref (T := "tuple") (U := "int") (by decide) ⟨_, hob, rfl⟩ (fun s2 => typeIs_int s2 k t) noFill_tuple_mul PySem.F.fills_int_mul PySem.F.slot_int_rmul repeat_tuple PySem.F.slot_int_index.lookup
        (call_meets PySem.F.slot_int_rmul (typeIs_int s k t) PySem.F.entry_int_rmul (PySem.F.args_int_rmul_2 _ _) (int_rmul_tuple k t p1 its.toArray n dd sl)
          ⟨hob, rfl, ⟨_, hob, rfl⟩, call_meets PySem.F.slot_tuple_mul ⟨_, hob, rfl⟩ PySem.F.entry_tuple_mul (PySem.F.args_tuple_mul_2 _ _) (tuple_mulW p1 its.toArray n dd sl k t ?_ ?_ ?_ (by omega) ?_ (by rw [size_rep, List.size_toArray]; exact flen)) ⟨hob, ?_⟩⟩)
      · rw [decide_eq_false (by omega), decide_eq_false (by omega)] <;> rfl
      · rw [hi, Bool.false_or]; exact beq_eq_false_iff_ne.mpr (by omega)
      · rw [hi, Bool.or_false]; exact decide_eq_false (by omega)
      · unfold Builtin.Tuple.tupleTooMany; rw [sizeLine_eq]; exact decide_eq_false (by omega)
      rw [size_rep]
      have rr := r.rep k.toNat
      obtain ⟨x2, s2⟩ := sm.frozen (o := .frz (tOb (List.replicate k.toNat its).flatten) (.tup (List.replicate k.toNat vs).flatten)) (I.hok.fresh (Nat.le_refl _))
      refine ⟨.ref s.heap.objs.size, _, I.laid (t' := s.toks) (o := .frz (tOb (List.replicate k.toNat its).flatten) (.tup (List.replicate k.toNat vs).flatten)) (fun b ob q => Heap.get?_push_of_some _ q) (Nat.le_refl _) ⟨Heap.get?_push_size _ rfl, ?_, _, rr, IsTup.new _ _⟩, rfl,
        q _ _ _ _ x2 s2 (.ktp upd_same rfl ?_ (RelAll.mono x2 (rel_rep r1 _)))⟩
      · rw [rr.length]; exact flen
      · obtain ⟨m, hm'⟩ : ∃ m, k.toNat = m + 1 := ⟨k.toNat - 1, by omega⟩
        rw [hm', ev]
        exact ⟨b, _, rfl⟩
    · cases ho
  · cases ho
theorem xe_wk {e : Expr} {f : SemE} (h : XE X W e f) : XE X W e (eWk f) := by
  refine peI h fun σ H Q hh => ?_
  obtain ⟨F, ι, ρ, S, sm, r, q⟩ := hh
  exact ⟨F, ι, ρ, S, sm, r, post_bind (R := RV' X.K) q fun x S1 F1 ι1 v H1 x1 s1 rv q1 => q1 F1 ι1 v H1 (Step.refl _ _ _) s1 (rel_wk rv)⟩
theorem depthAll_nums : ∀ ns : List Int, NestedKey.depthAll (ns.map .num) = 0
  | [] => rfl
  | n :: r => by rw [List.map_cons, NestedKey.depthAll, depthAll_nums r]; rfl
theorem nest_nums {h : Heap} : ∀ {ns : List Int} {us : List Value}, Vals (ns.map V.int) us → NestedAll h (ns.map .num) us
  | [], _, .nil => .nil
  | n :: r, _, .cons a t => by
    obtain ⟨tk, rfl⟩ := a
    exact .cons (.int n tk) (nest_nums t)
theorem nest_row {pins : List (Addr × Obj)} {σ : L2.St} {H : Hp} {s : Shared} (I : Inv X pins σ H s) {a : Addr} {ns : List Int} (h : SqT X.K H a (ns.map V.int)) : NestedIs s.heap (.tup (ns.map .num)) (.ref a) := by
  obtain ⟨its, rv, ⟨o, ho, hc, n, hd⟩, _⟩ := I.tuple h
  exact .tup ho hc hd (nest_nums (by simpa using rv))
def nkR (ns : List Int) : NestedKey := .tup (ns.map .num)
theorem nkR_inj {a b : List Int} (h : nkR a = nkR b) : a = b := by
  unfold nkR at h
  injection h with h
  exact (List.map_inj_right fun x y e => by injection e).mp h
theorem idx_nk (r : List Int) : ∀ rs : List (List Int), (rs.map nkR).idxOf (nkR r) = rs.idxOf r
  | [] => rfl
  | x :: rs => by
    rw [List.map_cons, List.idxOf_cons, List.idxOf_cons, idx_nk r rs]
    by_cases e : x = r
    · subst e; rw [beq_self_eq_true, beq_self_eq_true]
    · have : nkR x ≠ nkR r := fun z => e (nkR_inj z)
      rw [beq_eq_false_iff_ne.mpr e, beq_eq_false_iff_ne.mpr this]
theorem nest_rows {pins : List (Addr × Obj)} {σ : L2.St} {H : Hp} {s : Shared} (I : Inv X pins σ H s) : ∀ (ks : List (Addr × List Int)), (∀ q ∈ ks, SqT X.K H q.1 (q.2.map V.int)) → NestedAll s.heap ((ks.map (·.2)).map nkR) (ks.map fun q => Value.ref q.1)
  | [], _ => .nil
  | q :: ks, h => .cons (nest_row I (h q List.mem_cons_self)) (nest_rows I ks fun q hq => h q (List.mem_cons_of_mem _ hq))
theorem vals_refs' : ∀ (ks : List (Addr × List Int)) {us : List Value}, Vals (ks.map fun q => V.ref q.1) us → us = ks.map fun q => Value.ref q.1
  | [], _, .nil => rfl
  | q :: ks, _, .cons a t => by
    cases a
    rw [List.map_cons, ← vals_refs' ks t]
def rTix (K : PySem.W.Frag) : V → List V → Hp → VK → Prop := fun x xs H Q => ∃ (p : Addr) (ks : List (Addr × List Int)) (b : Addr) (r : List Int), x = .ref p ∧ xs = [V.ref b] ∧ SqT K H p (ks.map fun q => V.ref q.1) ∧ (∀ q ∈ ks, SqT K H q.1 (q.2.map V.int)) ∧ SqT K H b (r.map V.int) ∧ r ∈ ks.map (·.2) ∧ Q (.int ((ks.map (·.2)).idxOf r : Nat)) H
theorem mt_tix (hu : X.A.units + 64 < cLine) : MtR X "tuple.index" (rTix X.K) := by
  intro pins s σ H x xs v us Q I rx rxs h
  obtain ⟨p, ks, b, r, rfl, rfl, hp, hk, hb, hm, q⟩ := h
  obtain ⟨u, rfl, ru⟩ := rxs.one
  cases rx
  cases ru
  obtain ⟨its, rv, pt, hz⟩ := I.tuple hp
  have e := vals_refs' ks rv
  subst e
  refine SeqAt.call_tuple_index (ks := (ks.map (·.2)).map nkR) (k := nkR r) pt (SeqAt.ItemsEq.nested (nest_rows I ks hk) (nest_row I hb) ?_) (List.mem_map_of_mem hm) ?_
  · have : (nkR r).depth = 1 := by show NestedKey.depthAll (r.map .num) + 1 = 1; rw [depthAll_nums]
    rw [this]
    show X.A.units + 1 + 1 < cLine
    omega
  · rw [idx_nk]
    exact ⟨.int ((ks.map (·.2)).idxOf r : Nat), H, I.tok _, ⟨s.toks, rfl⟩, q⟩
theorem pe_tix {o e : Expr} {to : TE} {t : TA} {apos cpos : Pos} (hu : X.A.units + 64 < cLine) (ho : PE X o to) (he : PA X [e] t) (hbase : attributeBase o "index" X.env (eval o X.env) = eval o X.env := by rfl)
    (hfew : ((backTo cpos (starEach [e] X.env)).all (fun x => !x.1) && (backToKw cpos (keywordEach [] X.env)).all (fun x => x.1.isSome) && decide ([e].length + ([] : List Keyword).length + (if ([] : List Keyword).isEmpty then 0 else 1) < 30)) = true := by rfl)
    (hline : (apos.endLine == cpos.line) = true := by rfl) (hs : starEach [e] X.env = (false, eval e X.env) :: starEach [] X.env := by rfl) (hpl : (backTo cpos (starEach [] X.env)).any (·.1) = false := by rfl) :
    PE X (.Call (.Attribute o "index" apos) [e] [] cpos) (fun σ H Q => to σ H fun x H1 => (∃ p ob xs, x = .ref p ∧ H1 p = some (.frz ob (.tup xs)) ∧ ob.dict = none) ∧ t σ H1 fun xs H2 => rTix X.K x xs H2 Q) := by
  refine ⟨fun pins s σ H Q I h => ?_⟩
  refine wpAny_Call_method_late hbase hfew hline rfl (thn (ho.run pins s σ H _ I h) fun v s1 ⟨x, H1, J, rx, ⟨p, ob, xs, ex, hp, hd⟩, q1⟩ => ?_)
  subst ex
  cases rx
  obtain ⟨hob, _, _, _, o2, ho2, hc2, _⟩ := (show ObjOk X.prog X.w H1 s1.heap p (.frz ob (.tup xs)) from J.hok _ _ hp)
  rw [hob] at ho2
  cases ho2
  refine ⟨"tuple", "tuple.index", PySem.F.plainAttrs_tuple, PySem.F.slot_tuple_index, PySem.F.type_tuple_index, ⟨ob, hob, hc2⟩, fun a ea => ?_, ?_⟩
  · cases ea; exact ⟨ob, hob, hd⟩
  have hA := he.run cpos pins s1 σ H1 _ J q1
  rw [hs] at hA ⊢
  refine Calls.callWith_builtin (by show (false || (backTo cpos (starEach [] X.env)).any (·.1)) = false; rw [hpl] <;> rfl) (Calls.evalArgs_plain ?_)
  exact thn hA fun ws s2 ⟨ys, H2, J2, ry, q2⟩ => mt_tix hu pins s2 σ H2 (.ref p) ys _ ws Q J2 (show RelV (.ref p) (.ref p) from rfl) ry q2
theorem xe_tix {o e : Expr} {f g : SemE} {apos cpos : Pos} (hu : X.A.units + 64 < cLine) (ho : XE X W o f) (he : XE X W e g) (hbase : attributeBase o "index" X.env (eval o X.env) = eval o X.env := by rfl)
    (hfew : ((backTo cpos (starEach [e] X.env)).all (fun x => !x.1) && (backToKw cpos (keywordEach [] X.env)).all (fun x => x.1.isSome) && decide ([e].length + ([] : List Keyword).length + (if ([] : List Keyword).isEmpty then 0 else 1) < 30)) = true := by rfl)
    (hline : (apos.endLine == cpos.line) = true := by rfl) (hs : starEach [e] X.env = (false, eval e X.env) :: starEach [] X.env := by rfl) (hpl : (backTo cpos (starEach [] X.env)).any (·.1) = false := by rfl) :
    XE X W (.Call (.Attribute o "index" apos) [e] [] cpos) (eTix f g) := by
  refine peI (pe_tix hu ho (pa_cons he pa_nil hs) hbase hfew hline hs hpl) fun σ H Q h => ?_
  obtain ⟨F, ι, ρ, S, sm, r, q⟩ := h
  refine ⟨F, ι, ρ, S, sm, r, post_bind (R := RV' X.K) q fun x S1 F1 ι1 v H1 x1 s1 rv q1 => ?_⟩
  cases rv with
  | @ktp p ob vs ds hp hd hl hr =>
    refine ⟨⟨p, ob, vs, rfl, s1.sub _ _ hp, hd⟩, F1, ι1, ρ, S1, s1, r.mono x1, post_bind (R := RV' X.K) q1 fun y S2 F2 ι2 u H2 x2 s2 ru q2 => ?_⟩
    obtain ⟨z, hz, q3⟩ := post_lift q2
    unfold opTix at hz
    dsimp only at hz
    split at hz
    · next rs r0 h1 h2 =>
      split at hz
      · next hm =>
        cases hz
        have hr2 := RelAll.mono x2 hr
        rw [rows_rel hr2 h1] at hr2
        obtain ⟨ks, e1, e2, h3⟩ := ks_of hr2
        obtain ⟨_, b, rfl, hb⟩ := rel_row ru h2
        refine ⟨p, ks, b, r0, rfl, rfl, ?_, fun q hq => SqT.of (s2.sub _ _ (h3 q hq).1), SqT.of (s2.sub _ _ hb), by rw [e2]; exact hm, by rw [e2]; exact q3 F2 ι2 _ H2 (Step.refl _ _ _) s2 (.int _)⟩
        rw [← e1]
        exact .inl (.inr ⟨ob, s2.sub _ _ (x2.same _ _ hp)⟩)
      · cases hz
    · cases hz
  | _ => exact q1.elim
end
end Fk
set_option maxHeartbeats 4000000
set_option exponentiation.threshold 3000
noncomputable section
namespace Pl
open PySem PySem.Spec PyProof.Rows L2 Fk Sm Sp DB
variable {n m w N : Nat} {T S : Store} {E : EX}
abbrev rg {α : Type} (N : Nat) (f : Nat → α) : List α := (List.range N).map f
theorem enum_rg {f : Nat → D} : enumL (rg m f) = rg m fun i => D.tup [.int (i : Nat), f i] := by
  unfold enumL
  apply List.ext_getElem
  · simp
  · intro i h1 h2; simp
theorem wp_forR {b : D → Fk.Env → Store → OutS} {g : Nat → D} {ρ : Fk.Env} {k : KS} (I : Nat → Fk.Env → Store → Prop) (h0 : I 0 ρ S)
    (hs : ∀ i ρ S, i < m → I i ρ S → (b (g i) ρ S).wp ⟨I (i + 1), k.rt, k.nx, I (i + 1), k.ex⟩) (hd : ∀ ρ S, I m ρ S → k.nx ρ S) : (forL b (rg m g) ρ S).wp k := by
  have key : ∀ d i ρ S, i + d = m → I i ρ S → (forL b ((List.range' i d).map g) ρ S).wp k := by
    intro d
    induction d with
    | zero => intro i ρ S he hI; have : i = m := by omega
              subst this; exact ⟨hd _ _ hI⟩
    | succ d ih =>
      intro i ρ S he hI
      have h1 := (hs i ρ S (by omega) hI).run
      rw [List.range'_succ, List.map_cons]
      unfold forL
      cases e : b (g i) ρ S with
      | nx ρ1 S1 => rw [e] at h1; exact ih (i + 1) _ _ (by omega) h1
      | ct ρ1 S1 => rw [e] at h1; exact ih (i + 1) _ _ (by omega) h1
      | bk ρ1 S1 => rw [e] at h1; exact ⟨h1⟩
      | rt d S1 => rw [e] at h1; exact ⟨h1⟩
      | exc c fs ρ1 S1 => rw [e] at h1; exact ⟨h1⟩
      | stuck => rw [e] at h1; exact h1.elim
  have := key m 0 ρ S (by omega) h0
  rwa [← List.range_eq_range'] at this
theorem rg_succ {α : Type} (f : Nat → α) (i : Nat) : rg (i + 1) f = rg i f ++ [f i] := by simp [rg, List.range_succ]
theorem zipL_rg {f g : Nat → D} : zipL (rg m f) (rg m g) = rg m fun i => D.tup [f i, g i] := by
  unfold zipL
  apply List.ext_getElem
  · simp
  · intro i h1 h2; simp
theorem mapD_rg {e : List Int} (h : e.length = m) : e.map D.int = rg m fun t => D.int (e.getD t 0) := by
  subst h
  apply List.ext_getElem
  · simp
  · intro i h1 h2; simp at h1; simp [h1]
theorem getD_g {l : List Int} {i : Nat} (h : i < l.length) : l.getD i 0 = l[i] := by simp [h]
theorem datRs : ∀ rs : List (List Int), datAll (rs.map rowD) = some (rs.map fun r => PyData.tuple (r.map PyData.int))
  | [] => by simp [datAll]
  | r :: rs => by simp [datAll, dat, datIs, rowD, datRs rs]
theorem layRs : ∀ rs : List (List Int), PyData.canLayAll0 (rs.map fun r => PyData.tuple (r.map PyData.int)) = true
  | [] => by simp [PyData.canLayAll0]
  | r :: rs => by simp [PyData.canLayAll0, PyData.canLay0, layIs, layRs rs]
theorem depRs : ∀ rs : List (List Int), PyData.depthAll (rs.map fun r => PyData.tuple (r.map PyData.int)) ≤ 1
  | [] => by simp [PyData.depthAll]
  | r :: rs => by
    have := depRs rs
    simp [PyData.depthAll, PyData.depth, depIs, this]
theorem shRs (rs : List (List Int)) : SeqAt.shaped (.tuple (rs.map fun r => PyData.tuple (r.map PyData.int))) = true := by
  have := depRs rs
  simp [SeqAt.shaped, PyData.canLay0, layRs, PyData.depth]
  try omega
theorem eqvRs : ∀ xs ys : List (List Int), PyData.eqvAll (xs.map fun r => PyData.tuple (r.map PyData.int)) (ys.map fun r => PyData.tuple (r.map PyData.int)) = decide (xs = ys)
  | [], [] => by simp [PyData.eqvAll]
  | [], _ :: _ => by simp [PyData.eqvAll]
  | _ :: _, [] => by simp [PyData.eqvAll]
  | x :: xs, y :: ys => by
    simp [PyData.eqvAll, PyData.eqv, eqvIs, eqvRs xs ys]
def loA (rs : List (List Int)) (t : Nat) : Int := minL (col rs t)
def abL (m : Nat) (rs : List (List Int)) : List (List Int) := rs.map fun r => rg m fun t => r.getD t 0 - loA rs t
def dvL (m : Nat) (rs : List (List Int)) : Int := max 1 (G (abL m rs).flatten : Int)
def plL (m : Nat) (rs : List (List Int)) : List (List Int) := (abL m rs).map fun r => r.map fun x => x / dvL m rs
theorem col_ne {rs : List (List Int)} (h : Mn m rs) (t : Nat) : col rs t ≠ [] := by
  unfold col
  simpa using h.ne
theorem lo_ab {rs : List (List Int)} (h : Mn m rs) {t : Nat} (ht : t < m) : (loA rs t).natAbs ≤ 1000000 := by
  have hm := minL_mem (col_ne h t)
  unfold loA
  obtain ⟨r, hr, e⟩ := List.mem_map.mp hm
  rw [← e]
  have := h.row r hr
  rw [getD_g (by rw [this.1]; exact ht)]
  exact this.2 _ (List.getElem_mem _)
theorem ab_row {rs : List (List Int)} (h : Mn m rs) : ∀ r ∈ abL m rs, r.length = m ∧ ∀ i ∈ r, 0 ≤ i ∧ i ≤ 2000000 := fun r hr => by
  obtain ⟨q, hq, rfl⟩ := List.mem_map.mp hr
  refine ⟨by simp, fun i hi => ?_⟩
  obtain ⟨t, ht, rfl⟩ := List.mem_map.mp hi
  have ht : t < m := by simpa using ht
  have h1 := lo_ab h ht
  have hqr := h.row q hq
  have h2 : (q.getD t 0).natAbs ≤ 1000000 := by
    rw [getD_g (by rw [hqr.1]; exact ht)]
    exact hqr.2 _ (List.getElem_mem _)
  have h3 : loA rs t ≤ q.getD t 0 := minL_le (List.mem_map.mpr ⟨q, hq, rfl⟩)
  omega
theorem comp_rowsP {P : Fk.Env → Prop} {f : Int → Int} {x y : Nat} {e : SemE} {rs : List (List Int)} (hP1 : ∀ ρ d, P ρ → P (ρ.set x d)) (hP2 : ∀ ρ, P ρ → P (wipeD ρ [y])) (hl : rs.length ≤ 100) (hr : ∀ r ∈ rs, r.length ≤ 100) (he : ∀ (ρ : Fk.Env) S i, P ρ → (∃ r ∈ rs, i ∈ r) → y < ρ.length → e (ρ.set y (some (.int i))) S = .ok (.int (f i)) S) (ρ : Fk.Env) (S : Store) (hx : x < ρ.length) (hy : y < ρ.length) (hP : P ρ) :
    compGo (compStep (gN x) sYes (eOps tupD (aCons (frz (lComp (itSeq (eVar x)) (gN y) sYes e [y])) aNil)) ρ) (rs.map rowD) [] S = .ok ((rs.map fun r => r.map f).map rowD) S := by
  refine comp_enc (enc := rowD) (enc' := rowD) (fun r => r.map f) (fun r hr' => ?_) (by omega)
  refine eq_of_wp ?_
  simp [-List.map_map, hx, sYes, rowD]
  have hc : compGo (compStep (gN y) sYes e (wipeD (List.set ρ x (some (tI r))) [y])) (r.map D.int) [] S = .ok ((r.map f).map D.int) S := by
    refine comp_ints (enc := D.int) f (fun i hi => ?_) (by have := hr r hr'; omega)
    have := he (wipeD (List.set ρ x (some (tI r))) [y]) S i (hP2 _ (hP1 _ _ hP)) ⟨r, hr', hi⟩ (by simp [wipeD]; exact hy)
    refine eq_of_wp ?_
    simp [sYes, hy, wipeD] at this ⊢
    simp [this]
  rw [hc]
  generalize r.map f = rr
  simp [-List.map_map]
theorem itOf_any {n : Nat} {b : Bool} {S U : Store} {xs : List D} (hn : n = S.length) : itOf (.ref n) (S ++ .lst b xs :: U) = .ok xs (S ++ .lst false xs :: U) := by
  subst hn
  show itC S.length (S ++ .lst b xs :: U) (S ++ .lst b xs :: U)[S.length]? = _
  have e : (S ++ Cell.lst b xs :: U)[S.length]? = some (.lst b xs) := by simp
  rw [e]
  cases b with
  | true =>
    show Out.ok _ ((S ++ Cell.lst true xs :: U).set S.length (.lst false xs)) = _
    simp
  | false => rfl
theorem most_ofR {d : D} {S1 : Store} {ns : List Int} (hd : itOf d S = .ok (ns.map D.int) S1) (hS : S1.length = S.length) (h0 : ns ≠ []) (hl : ns.length ≤ 1000) : f_most_of [d] S = .ok (.int (maxL ns)) S1 := by
  refine eq_of_wp ?_
  unfold f_most_of
  rw [wp_fnD]
  simp [g_most_of, startD, hd]
  rw [comp_ints fun i : Int => i]
  · simp [max_ints h0]
    exact gcQ_cl (by simp) ⟨by simp, by rw [← hS]; simp⟩
  · intro i _
    exact eq_of_wp (by simp [wipeD, sYes])
  · omega
def apA (rs : List (List Int)) (t : Nat) : Int := maxL (col rs t) - loA rs t
theorem hi_ab {rs : List (List Int)} (h : Mn m rs) {t : Nat} (ht : t < m) : (maxL (col rs t)).natAbs ≤ 1000000 := by
  have hm := maxL_mem (col_ne h t)
  obtain ⟨r, hr, e⟩ := List.mem_map.mp hm
  rw [← e]
  have := h.row r hr
  rw [getD_g (by rw [this.1]; exact ht)]
  exact this.2 _ (List.getElem_mem _)
theorem most_apart {rs : List (List Int)} (h : Mn m rs) (h8 : rs.length ≤ 8) : f_most_apart [mD rs] S = .ok (.int (maxL (rg m (apA rs)))) S := by
  have m2 := h.m2
  have m4 := h.m4
  have et := fun S => tops_of (S := S) h
  have hcol : ∀ (ρ : Fk.Env) S t, t < m → 4 < ρ.length → ρ[2]? = some (some (.int (t : Int))) → compGo (compStep (gN 4) sYes (eBin opIx (eVar 4) (eVar 2)) ρ) (rs.map rowD) [] S = .ok ((col rs t).map D.int) S := fun ρ S t ht h1 h4 => by
    refine comp_ints (enc := rowD) (fun r => r.getD t 0) (fun r hr => ?_) (by omega)
    have hrl := (h.row r hr).1
    have hix : atI (r.map D.int) (t : Int) = some (.int (r.getD t 0)) := by rw [Fk.atI_nat]; simp [show t < r.length by omega]
    refine eq_of_wp ?_
    simp [-List.map_map, -List.getD_eq_getElem?_getD, h1, h4, sYes, rowD, hix]
  have hen : enumL ((tops m rs).map D.int) = rg m fun t => D.tup [.int (t : Nat), .int (maxL (col rs t))] := by
    have : (tops m rs).map D.int = rg m fun t => D.int (maxL (col rs t)) := by unfold tops; rw [List.map_map]; rfl
    rw [this, enum_rg]
  refine eq_of_wp ?_
  unfold f_most_apart
  rw [wp_fnD]
  simp [-List.map_map, g_most_apart, startD, et, sz]
  rw [hen]
  refine wp_forR (fun t ρ S' => ∃ x2 x3 : Option D, ρ = [some (mD rs), some (.ref S.length), x2, x3, none] ∧ S' = S ++ [.lst true ((rg t (apA rs)).map D.int)]) ⟨none, none, rfl, rfl⟩ ?_ ?_
  · rintro t ρ S' ht ⟨x2, x3, rfl, rfl⟩
    have hlo := fun S => least_of (S := S) (d := lI (col rs t)) (ns := col rs t) rfl (col_ne h t) (by unfold col; simp; omega)
    have hat : (S ++ [Cell.lst true ((rg t (apA rs)).map D.int)])[S.length]? = some (.lst true ((rg t (apA rs)).map D.int)) := by simp
    have hap := appC_of hat (y := .int (apA rs t)) (by simp; omega) (by simp)
    have hset : (S ++ [Cell.lst true ((rg t (apA rs)).map D.int)]).set S.length (.lst true ((rg t (apA rs)).map D.int ++ [.int (apA rs t)])) = S ++ [.lst true ((rg (t + 1) (apA rs)).map D.int)] := by rw [rg_succ]; simp
    rw [hset] at hap
    have hap' : appC (.ref S.length) (.int (maxL (col rs t) - minL (col rs t))) (S ++ [Cell.lst true ((rg t (apA rs)).map D.int)]) = .ok .non (S ++ [.lst true ((rg (t + 1) (apA rs)).map D.int)]) := hap
    generalize hS1 : S ++ [Cell.lst true ((rg t (apA rs)).map D.int)] = S1 at *
    simp [-List.map_map, isL_of hat]
    rw [hcol _ _ t ht (by simp [wipeD]) (by simp [wipeD])]
    generalize col rs t = ct at *
    simp [-List.map_map, hlo, hap']
  · rintro ρ S' ⟨x2, x3, rfl, rfl⟩
    have hmo := most_ofR (S := S ++ [Cell.lst true ((rg m (apA rs)).map D.int)]) (d := .ref S.length) (S1 := S ++ [Cell.lst false ((rg m (apA rs)).map D.int)]) (ns := rg m (apA rs)) (itOf_any rfl) (by simp) (fun z => by have := congrArg List.length z; simp at this; omega) (by simp; omega)
    simp [-List.map_map, hmo]
    exact gcQ_cl (by simp) ⟨rfl, by simp⟩
theorem ne_mD {xs ys : List (List Int)} : opNeA (mD xs) (mD ys) S = some (.bl (!decide (xs = ys))) := by
  rw [neA_of (by cases ys <;> rfl)]
  have e := eqvRs xs ys
  have e1 := shRs xs
  have e2 := shRs ys
  have e3 := datRs xs
  have e4 := datRs ys
  simp [-List.map_map, opNe, neD, dat, e3, e4, e1, e2, PyData.eqv, e]
theorem ap_ab {rs : List (List Int)} (h : Mn m rs) : 0 ≤ maxL (rg m (apA rs)) ∧ (maxL (rg m (apA rs))).natAbs ≤ 2000000 := by
  have m2 := h.m2
  have hm := maxL_mem (xs := rg m (apA rs)) (fun z => by have := congrArg List.length z; simp at this; omega)
  obtain ⟨t, ht, e⟩ := List.mem_map.mp hm
  rw [← e]
  have ht : t < m := by simpa using ht
  have h1 := hi_ab h ht
  have h2 := lo_ab h ht
  have h3 : loA rs t ≤ maxL (col rs t) := by
    have := minL_mem (col_ne h t)
    exact maxL_le this
  unfold apA
  omega
theorem frac_pos {a b : Int} (h0 : 0 < b) (ha : a.natAbs ≤ 2000000) (hb : b.natAbs ≤ 2000000) : ∃ x y : Int, fracL a b = [x, y] ∧ 0 < y ∧ x.natAbs ≤ 2000000 ∧ y.natAbs ≤ 2000000 := by
  have hG : G [a, b] ≠ 0 := G_pos (i := b) (by simp) (by omega)
  have d1 := (Gf_dvd [a, b] 0).2 a (by simp)
  have d2 := (Gf_dvd [a, b] 0).2 b (by simp)
  refine ⟨_, _, rfl, ?_, ?_, ?_⟩
  · obtain ⟨k, hk⟩ := d2
    have hk : b = (G [a, b] : Int) * k := hk
    have : b / (G [a, b] : Int) = k := by rw [show b / (G [a, b] : Int) = ((G [a, b] : Int) * k) / (G [a, b] : Int) from by rw [← hk]]; exact Int.mul_ediv_cancel_left _ (by omega)
    rw [this]
    rcases Int.lt_or_le 0 k with q | q
    · exact q
    · have := Int.mul_nonneg (show (0 : Int) ≤ (G [a, b] : Int) by omega) (show 0 ≤ -k by omega)
      rw [Int.mul_neg] at this
      omega
  · exact Nat.le_trans (Int.natAbs_ediv_le_natAbs _ _) ha
  · exact Nat.le_trans (Int.natAbs_ediv_le_natAbs _ _) hb
end Pl
end
set_option maxHeartbeats 4000000
set_option exponentiation.threshold 3000
noncomputable section
namespace Pl
open PySem PySem.Spec PyProof.Rows L2 Fk Sm Sp DB
variable {n m w : Nat} {T S : Store} {E : EX}
structure Mw (m : Nat) (rs : List (List Int)) : Prop where
  m2 : 2 ≤ m
  m4 : m ≤ 4
  ne : rs ≠ []
  row : ∀ is ∈ rs, is.length = m ∧ ∀ i ∈ is, i.natAbs ≤ 4000000
  len : rs.length ≤ 8
theorem Mw.of {rs : List (List Int)} (h : Mn m rs) (h8 : rs.length ≤ 8) : Mw m rs := ⟨h.m2, h.m4, h.ne, fun is hi => ⟨(h.row is hi).1, fun i hh => by have := (h.row is hi).2 i hh; omega⟩, h8⟩
section
variable {rs : List (List Int)}
theorem colW_ne (h : Mw m rs) (t : Nat) : col rs t ≠ [] := by
  unfold col
  simpa using h.ne
theorem at_ab (h : Mw m rs) {q : List Int} (hq : q ∈ rs) {t : Nat} (ht : t < m) : (q.getD t 0).natAbs ≤ 4000000 := by
  have := h.row q hq
  rw [getD_g (by rw [this.1]; exact ht)]
  exact this.2 _ (List.getElem_mem _)
theorem lo_le (h : Mw m rs) {q : List Int} (hq : q ∈ rs) (t : Nat) : loA rs t ≤ q.getD t 0 := minL_le (List.mem_map.mpr ⟨q, hq, rfl⟩)
theorem lo_ex (h : Mw m rs) (t : Nat) : ∃ q ∈ rs, q.getD t 0 = loA rs t := by
  obtain ⟨r, hr, e⟩ := List.mem_map.mp (minL_mem (colW_ne h t))
  exact ⟨r, hr, e⟩
theorem loW_ab (h : Mw m rs) {t : Nat} (ht : t < m) : (loA rs t).natAbs ≤ 4000000 := by
  obtain ⟨r, hr, e⟩ := lo_ex h t
  rw [← e]
  exact at_ab h hr ht
theorem abW_row (h : Mw m rs) : ∀ r ∈ abL m rs, r.length = m ∧ ∀ i ∈ r, 0 ≤ i ∧ i ≤ 8000000 := fun r hr => by
  obtain ⟨q, hq, rfl⟩ := List.mem_map.mp hr
  refine ⟨by simp, fun i hi => ?_⟩
  obtain ⟨t, ht, rfl⟩ := List.mem_map.mp hi
  have ht : t < m := by simpa using ht
  have h1 := loW_ab h ht
  have h2 := at_ab h hq ht
  have h3 := lo_le h hq t
  omega
theorem dv_pos : 0 < dvL m rs := by unfold dvL; omega
theorem dv_dvd (h : Mw m rs) {r : List Int} (hr : r ∈ abL m rs) {i : Int} (hi : i ∈ r) : dvL m rs ∣ i := by
  have hm : i ∈ (abL m rs).flatten := List.mem_flatten.mpr ⟨r, hr, hi⟩
  unfold dvL
  by_cases c : (G (abL m rs).flatten : Int) ≤ 1
  · rw [show max 1 (G (abL m rs).flatten : Int) = 1 by omega]; exact Int.one_dvd _
  · rw [show max 1 (G (abL m rs).flatten : Int) = (G (abL m rs).flatten : Int) by omega]
    exact (Gf_dvd _ 0).2 _ hm
theorem pl_len : (plL m rs).length = rs.length := by simp [plL, abL]
/-- a mark is so much times the plain one, above the least -/
theorem pl_at (h : Mw m rs) {i t : Nat} (hi : i < rs.length) (ht : t < m) : (rs.getD i []).getD t 0 = dvL m rs * ((plL m rs).getD i []).getD t 0 + loA rs t := by
  have e : ((plL m rs).getD i []).getD t 0 = ((rs.getD i []).getD t 0 - loA rs t) / dvL m rs := by
    unfold plL abL
    simp [hi, ht]
  have hm : (rg m fun t => (rs.getD i []).getD t 0 - loA rs t) ∈ abL m rs := List.mem_map.mpr ⟨rs.getD i [], by simp [hi], rfl⟩
  have hd : dvL m rs ∣ (rs.getD i []).getD t 0 - loA rs t := dv_dvd h hm (List.mem_map.mpr ⟨t, by simpa using ht, rfl⟩)
  rw [e, Int.mul_comm, Int.ediv_mul_cancel hd]
  omega
theorem pl_row (h : Mw m rs) : ∀ r ∈ plL m rs, r.length = m ∧ ∀ i ∈ r, 0 ≤ i ∧ i ≤ 8000000 := fun r hr => by
  obtain ⟨q, hq, rfl⟩ := List.mem_map.mp hr
  have h1 := abW_row h q hq
  refine ⟨by simpa using h1.1, fun i hi => ?_⟩
  obtain ⟨j, hj, rfl⟩ := List.mem_map.mp hi
  have h2 := h1.2 j hj
  exact ⟨Int.ediv_nonneg h2.1 (Int.le_of_lt dv_pos), Int.le_trans (Int.ediv_le_self _ h2.1) h2.2⟩
theorem rg_getD {r : List Int} (h : r.length = m) : (rg m fun t => r.getD t 0) = r := by
  apply List.ext_getElem
  · simp [h]
  · intro i h1 h2
    simp [rg, h2]
theorem pl_lo (h : Mw m rs) {t : Nat} (ht : t < m) : loA (plL m rs) t = 0 := by
  have hne : plL m rs ≠ [] := fun z => h.ne (by have := congrArg List.length z; rw [pl_len] at this; exact List.eq_nil_of_length_eq_zero this)
  refine (minL_unique (m := 0) ?_ ?_).symm
  · obtain ⟨q, hq, e⟩ := lo_ex h t
    refine List.mem_map.mpr ⟨(rg m fun t => q.getD t 0 - loA rs t).map fun x => x / dvL m rs, List.mem_map.mpr ⟨_, List.mem_map.mpr ⟨q, hq, rfl⟩, rfl⟩, ?_⟩
    have e' := e
    simp [rg, ht] at e' ⊢
    rw [e']
    simp
  · intro y hy
    obtain ⟨r, hr, rfl⟩ := List.mem_map.mp hy
    have := pl_row h r hr
    rw [getD_g (by rw [this.1]; exact ht)]
    exact (this.2 _ (List.getElem_mem _)).1
theorem ab_pl (h : Mw m rs) : abL m (plL m rs) = plL m rs := by
  unfold abL
  refine (List.map_congr_left (g := id) fun r hr => ?_).trans (List.map_id _)
  have hl := (pl_row h r hr).1
  show (rg m fun t => r.getD t 0 - loA (plL m rs) t) = r
  have : (rg m fun t => r.getD t 0 - loA (plL m rs) t) = rg m fun t => r.getD t 0 := by
    unfold rg
    refine List.map_congr_left fun t ht => ?_
    rw [pl_lo h (by simpa using ht)]
    omega
  rw [this, rg_getD hl]
theorem dv_pl (h : Mw m rs) : dvL m (plL m rs) = 1 := by
  have e : (plL m rs).flatten = (abL m rs).flatten.map fun x => x / dvL m rs := by
    unfold plL
    rw [List.map_flatten]
  have key : G (plL m rs).flatten ≤ 1 := by
    rw [e]
    by_cases c : G (abL m rs).flatten = 0
    · have hz := (Gf_zero _ 0 c).2
      have : ((abL m rs).flatten.map fun x => x / dvL m rs) = (abL m rs).flatten := by
        refine (List.map_congr_left (g := id) fun x hx => ?_).trans (List.map_id _)
        rw [hz x hx]
        simp
      rw [this, c]
      omega
    · have hd : dvL m rs = (G (abL m rs).flatten : Int) := by unfold dvL; omega
      rw [hd, G_div c]
      omega
  unfold dvL
  rw [ab_pl h]
  omega
theorem pl_pl (h : Mw m rs) : plL m (plL m rs) = plL m rs := by
  have e : plL m (plL m rs) = (abL m (plL m rs)).map fun r => r.map fun x => x / dvL m (plL m rs) := rfl
  rw [e, ab_pl h, dv_pl h]
  refine (List.map_congr_left (g := id) fun r hr => ?_).trans (List.map_id _)
  refine (List.map_congr_left (g := id) fun x hx => ?_).trans (List.map_id _)
  simp
end
end Pl
end
set_option maxHeartbeats 0
noncomputable section
namespace Sm
open PySem PySem.Spec PyProof.Rows L2 Fk
def g_plain : SemS :=
    (sSeq (sAsg 1 (frz (lComp (itR1 (aCons (eOps lenD (aCons (eBin opIx (eVar 0) (eC (.int 0))) aNil)) aNil)) (gN 4) sYes (eCall f_least_of [] (aCons (frz (lComp (itSeq (eVar 0)) (gN 5) sYes (eBin opIx (eVar 5) (eVar 4)) [5])) aNil)) [4])))
    (sSeq (sAsg 2 (frz (lComp (itSeq (eVar 0)) (gN 5) sYes (eOps tupD (aCons (frz (lComp (itZip (aCons (eVar 5) (aCons (eVar 1) aNil))) (gT [(gN 6), (gN 7)]) sYes (eBin opSubA (eVar 6) (eVar 7)) [6, 7])) aNil)) [5])))
    (sSeq (sAsg 3 (eOps maxD (aCons (eC (.int 1)) (aCons (eCall f_divisor_of [] (aCons (frz (lComp2 (itSeq (eVar 2)) (gN 5) sYes (itSeq (eVar 5)) (gN 6) sYes (eVar 6) [5, 6] [6])) aNil)) aNil))))
    (sRet (eOps tupD (aCons (frz (lComp (itSeq (eVar 2)) (gN 5) sYes (eOps tupD (aCons (frz (lComp (itSeq (eVar 5)) (gN 6) sYes (eBin opDiv (eVar 6) (eVar 3)) [6])) aNil)) [5])) aNil))))))
def f_plain : FSem := fnD 8 g_plain
def g_like : SemS :=
    (sSeq (sIf (tOfE (eBin opNeA (eOps lenD (aCons (eBin opIx (eVar 0) (eC (.int 0))) aNil)) (eOps lenD (aCons (eBin opIx (eVar 1) (eC (.int 0))) aNil)))) (sRaise "Unlike" [] aNil) sNext)
    (sSeq (sIf (sOr (tOfE (eBin opNeA (eOps lenD (aCons (eVar 0) aNil)) (eOps lenD (aCons (eVar 1) aNil)))) (tOfE (eBin opNeA (eCall f_plain [] (aCons (eVar 0) aNil)) (eCall f_plain [] (aCons (eVar 1) aNil))))) (sRet (eC .non)) sNext)
    (sSeq (sAsgT (gT [(gN 2), (gN 3)]) (eTup (aCons (eC (.int 1)) (aCons (eC (.int 1)) aNil))))
    (sSeq (sIf (tOfE (eBin opGt (eCall f_most_apart [] (aCons (eVar 0) aNil)) (eC (.int 0)))) (sAsgT (gT [(gN 2), (gN 3)]) (eCall f_fraction [] (aCons (eCall f_most_apart [] (aCons (eVar 1) aNil)) (aCons (eCall f_most_apart [] (aCons (eVar 0) aNil)) aNil)))) sNext)
    (sSeq (sAsg 4 (frz (lComp (itZip (aCons (eBin opIx (eVar 0) (eC (.int 0))) (aCons (eBin opIx (eVar 1) (eC (.int 0))) aNil))) (gT [(gN 5), (gN 6)]) sYes (eCall f_fraction [] (aCons (eBin opSubA (eBin opMulA (eVar 6) (eVar 3)) (eBin opMulA (eVar 5) (eVar 2))) (aCons (eVar 3) aNil))) [5, 6])))
    (sRet (eTup (aCons (eTup (aCons (eVar 2) (aCons (eVar 3) aNil))) (aCons (eOps tupD (aCons (eVar 4) aNil)) aNil)))))))))
def f_like : FSem := fnD 7 g_like
def g__law_told_k33 : SemS :=
    (sSeq (sTry frTbl (sAsg 2 (frz (lDisp (aCons (eC (.str "ok")) (aCons (eCall f_like [] (aCons (eVar 0) (aCons (eVar 1) aNil))) aNil)))))
   [("Unlike", none, (sAsg 2 (frz (lDisp (aCons (eC (.str "unlike")) aNil)))))])
    (sRet (eVar 2)))
def f__law_told_k33 : FSem := fnD 3 g__law_told_k33
end Sm
end
set_option maxHeartbeats 0
noncomputable section
namespace Sm
open PySem PySem.Spec PyProof.Rows L2 Fk
end Sm
end
set_option maxHeartbeats 0
noncomputable section
namespace Sm
open PySem PySem.Spec PyProof.Rows L2 Fk
end Sm
end
set_option maxHeartbeats 0
noncomputable section
namespace Sm
open PySem PySem.Spec PyProof.Rows L2 Fk
end Sm
end
set_option maxHeartbeats 0
noncomputable section
namespace Sm
open PySem PySem.Spec PyProof.Rows L2 Fk
end Sm
end
set_option maxHeartbeats 0
noncomputable section
namespace Sm
open PySem PySem.Spec PyProof.Rows L2 Fk
def g__law_menu_k33 : SemS :=
    (sSeq (sPar 2 3 (aCons (eBin opAddA (eC (.int 2)) (eCall f__law_draw_k28 [] (aCons (eVar 0) (aCons (eC (.int 3)) aNil)))) (aCons (cellL (lDisp aNil)) aNil)))
    (sSeq (sAsg 4 (eCall f__law_one_k28 [] (aCons (eVar 0) (aCons (frz (lDisp (aCons (eC (.int 9)) (aCons (eC (.int 60)) (aCons (eBin opPow (eC (.int 10)) (eC (.int 6))) aNil))))) aNil))))
    (sSeq (sFor (itR1 (aCons (eBin opAddA (eC (.int 1)) (eCall f__law_draw_k28 [] (aCons (eVar 0) (aCons (eVar 1) aNil)))) aNil)) (gN 5)
   (sIf (sAnd (tOfE (eBin opNeA (eVar 3) (frz (lDisp aNil)))) (tOfE (eBin opEqA (eCall f__law_draw_k28 [] (aCons (eVar 0) (aCons (eC (.int 4)) aNil))) (eC (.int 0))))) (sSeq (sAsg 6 (eCall f__law_mixed_row [] (aCons (eVar 0) (aCons (eVar 3) aNil))))
    (sExp (eApp (eVar 3) (eOps tupD (aCons (frz (lComp (itSeq (eVar 6)) (gN 7) sYes (eOps maxD (aCons (eOps intD (aCons (eBin opSubA (eC (.int 0)) (eVar 4)) aNil)) (aCons (eOps intD (aCons (eVar 7) aNil)) aNil))) [7])) aNil))))) (sExp (eApp (eVar 3) (eOps tupD (aCons (frz (lComp (itR1 (aCons (eVar 2) aNil)) (gN 8) sYes (eCall f__law_mark_k28 [] (aCons (eVar 0) (aCons (eVar 4) aNil))) [8])) aNil))))))
    (sRet (eOps tupKD (aCons (eVar 3) aNil))))))
def f__law_menu_k33 : FSem := fnD 9 g__law_menu_k33
def g__law_made_k33x : SemS :=
    (sSeq (sAsgT (gT [(gN 2), (gN 3)]) (eTup (aCons (eBin opAddA (eC (.int 1)) (eCall f__law_draw_k28 [] (aCons (eVar 0) (aCons (eC (.int 9)) aNil)))) (aCons (frz (lComp (itSeq (eBin opIx (eWk (eVar 1)) (eC (.int 0)))) (gN 5) sYes (eBin opSubA (eCall f__law_draw_k28 [] (aCons (eVar 0) (aCons (eC (.int 41)) aNil))) (eC (.int 20))) [5])) aNil))))
    (sSeq (sAsg 4 (frz (lComp (itSeq (eWk (eVar 1))) (gN 6) sYes (eOps tupD (aCons (frz (lComp (itZip (aCons (eVar 6) (aCons (eVar 3) aNil))) (gT [(gN 7), (gN 8)]) sYes (eBin opAddA (eBin opMulA (eVar 2) (eVar 7)) (eVar 8)) [7, 8])) aNil)) [6])))
    (sSeq (sIf (tOfE (eBin opNeA (frz (lComp (itSeq (eVar 4)) (gN 6) (sOr (tOfE (eBin opGt (eCall f__law_most [] (aCons (eVar 6) aNil)) (eBin opPow (eC (.int 10)) (eC (.int 6))))) (tOfE (eBin opLt (eCall f__law_least_k30 [] (aCons (eVar 6) aNil)) (eUn opNeg (eBin opPow (eC (.int 10)) (eC (.int 6))))))) (eVar 6) [6])) (frz (lDisp aNil)))) (sRet (eVar 1)) sNext)
    (sRet (eOps tupKD (aCons (eVar 4) aNil))))))
def f__law_made_k33x : FSem := fnD 9 g__law_made_k33x
def g__law_due_k33x : SemS :=
    (sSeq (sIf (tOfE (eBin opNeA (eOps lenD (aCons (eBin opIx (eWk (eVar 0)) (eC (.int 0))) aNil)) (eOps lenD (aCons (eBin opIx (eWk (eVar 1)) (eC (.int 0))) aNil)))) (sRet (frz (lDisp (aCons (eC (.str "unlike")) aNil)))) sNext)
    (sSeq (sIf (sOr (tOfE (eBin opNeA (eOps lenD (aCons (eWk (eVar 0)) aNil)) (eOps lenD (aCons (eWk (eVar 1)) aNil)))) (tOfE (eBin opNeA (eCall f__law_plain [] (aCons (eWk (eVar 0)) aNil)) (eCall f__law_plain [] (aCons (eWk (eVar 1)) aNil))))) (sRet (frz (lDisp (aCons (eC (.str "ok")) (aCons (eC .non) aNil))))) sNext)
    (sSeq (sAsg 2 (eTup (aCons (eC (.int 1)) (aCons (eC (.int 1)) aNil))))
    (sSeq (sFor (itZip (aCons (eWk (eVar 0)) (aCons (eSl opSl (eWk (eVar 0)) (oSome (eC (.int 1))) oNone) aNil))) (gT [(gN 3), (gN 4)])
   (sFor (itEnum (aCons (eVar 3) aNil)) (gT [(gN 5), (gN 6)])
   (sIf (tOfE (eBin opNeA (eVar 6) (eBin opIx (eVar 4) (eVar 5)))) (sSeq (sAsg 7 (eTix (eVar 0) (eVar 3)))
    (sSeq (sPar 8 9 (aCons (eBin opSubA (eVar 6) (eBin opIx (eVar 4) (eVar 5))) (aCons (eBin opSubA (eBin opIx (eBin opIx (eWk (eVar 1)) (eVar 7)) (eVar 5)) (eBin opIx (eBin opIx (eWk (eVar 1)) (eTix (eVar 0) (eVar 4))) (eVar 5))) aNil)))
    (sAsg 2 (eCall f__law_primitive_k28 [] (aCons (eTup (aCons (eOps absDA (aCons (eVar 9) aNil)) (aCons (eOps absDA (aCons (eVar 8) aNil)) aNil))) aNil))))) sNext)))
    (sSeq (sAsg 10 (cellL (lDisp aNil)))
    (sSeq (sFor (itZip (aCons (eBin opIx (eWk (eVar 0)) (eC (.int 0))) (aCons (eBin opIx (eWk (eVar 1)) (eC (.int 0))) aNil))) (gT [(gN 11), (gN 6)])
   (sExp (eApp (eVar 10) (eCall f__law_primitive_k28 [] (aCons (eTup (aCons (eBin opSubA (eBin opMulA (eVar 6) (eBin opIx (eVar 2) (eC (.int 1)))) (eBin opMulA (eVar 11) (eBin opIx (eVar 2) (eC (.int 0))))) (aCons (eBin opIx (eVar 2) (eC (.int 1))) aNil))) aNil)))))
    (sRet (frz (lDisp (aCons (eC (.str "ok")) (aCons (eTup (aCons (eVar 2) (aCons (eOps tupD (aCons (eVar 10) aNil)) aNil))) aNil)))))))))))
def f__law_due_k33x : FSem := fnD 12 g__law_due_k33x
def g_law_k33x : SemS :=
    (sSeq (sAsg 1 (eCall f__law_deck_k28 [] (aCons (eVar 0) aNil)))
    (sSeq (sFor (itR1 (aCons (eC (.int 6)) aNil)) (gN 2)
   (sSeq (sPar 3 4 (aCons (eCall f__law_menu_k33 [] (aCons (eVar 1) (aCons (eC (.int 8)) aNil))) (aCons (eCall f__law_menu_k33 [] (aCons (eVar 1) (aCons (eC (.int 4)) aNil))) aNil)))
    (sSeq (sAsg 5 (eCall f__law_made_k33x [] (aCons (eVar 1) (aCons (eVar 3) aNil))))
    (sSeq (sFor (itSeq (frz (lDisp (aCons (eWk (eVar 3)) (aCons (eWk (eVar 5)) (aCons (eWk (eVar 4)) (aCons (eBin opMulA (eSl opSl (eWk (eVar 3)) oNone (oSome (eC (.int 1)))) (eC (.int 3))) aNil))))))) (gN 6)
   (sIf (tOfE (eBin opNeA (eOps reprD (aCons (frz (lDisp (aCons (eCall f_plain [] (aCons (eWk (eVar 6)) aNil)) (aCons (eCall f_plain [] (aCons (eCall f_plain [] (aCons (eWk (eVar 6)) aNil)) aNil)) aNil)))) aNil)) (eOps reprD (aCons (eBin opMulA (frz (lDisp (aCons (eCall f__law_plain [] (aCons (eWk (eVar 6)) aNil)) aNil))) (eC (.int 2))) aNil)))) (sRet (eC (.bl false))) sNext))
    (sSeq (sAsg 7 (cellL (lDisp (aCons (eTup (aCons (eVar 3) (aCons (eVar 5) aNil))) (aCons (eTup (aCons (eVar 5) (aCons (eVar 3) aNil))) (aCons (eTup (aCons (eVar 3) (aCons (eVar 3) aNil))) (aCons (eTup (aCons (eVar 3) (aCons (eCall f__law_bent_k33 [] (aCons (eVar 1) (aCons (eWk (eVar 5)) aNil))) aNil))) (aCons (eTup (aCons (eVar 3) (aCons (eUn opRev (eWk (eVar 5))) aNil))) aNil))))))))
    (sSeq (sAsg 7 (cellL (eBin opCatL (eVar 7) (frz (lDisp (aCons (eTup (aCons (eVar 5) (aCons (eCall f__law_made_k33x [] (aCons (eVar 1) (aCons (eVar 3) aNil))) aNil))) (aCons (eTup (aCons (eVar 3) (aCons (eBin opAddA (eSl opSl (eWk (eVar 5)) oNone (oSome (eUn opNeg (eC (.int 1))))) (eSl opSl (eWk (eVar 3)) oNone (oSome (eC (.int 1))))) aNil))) (aCons (eTup (aCons (eVar 3) (aCons (eVar 4) aNil))) aNil))))))))
    (sSeq (sExp (eApp (eVar 7) (eTup (aCons (eVar 4) (aCons (eVar 5) aNil)))))
    (sSeq (sAsg 7 (cellL (eBin opCatL (eVar 7) (frz (lDisp (aCons (eTup (aCons (eBin mulKD (eSl opSl (eWk (eVar 3)) oNone (oSome (eC (.int 1)))) (eC (.int 3))) (aCons (eBin mulKD (eSl opSl (eWk (eVar 5)) oNone (oSome (eC (.int 1)))) (eC (.int 3))) aNil))) (aCons (eTup (aCons (eBin mulKD (eSl opSl (eWk (eVar 3)) oNone (oSome (eC (.int 1)))) (eC (.int 2))) (aCons (eBin mulKD (eSl opSl (eWk (eVar 3)) oNone (oSome (eC (.int 1)))) (eC (.int 3))) aNil))) (aCons (eTup (aCons (eBin mulKD (eSl opSl (eWk (eVar 3)) oNone (oSome (eC (.int 1)))) (eC (.int 2))) (aCons (eSl opSl (eWk (eVar 5)) oNone (oSome (eC (.int 2)))) aNil))) aNil))))))))
    (sFor (itSeq (eVar 7)) (gT [(gN 6), (gN 8)])
   (sIf (sAnd (tOfE (eBin opNeA (eWk (eVar 8)) (eTup aNil))) (tOfE (eBin opNeA (eOps reprD (aCons (eCall f__law_told_k33 [] (aCons (eWk (eVar 6)) (aCons (eWk (eVar 8)) aNil))) aNil)) (eOps reprD (aCons (eCall f__law_due_k33x [] (aCons (eVar 6) (aCons (eVar 8) aNil))) aNil))))) (sRet (eC (.bl false))) sNext))))))))))
    (sRet (eC (.bl true)))))
def f_law_k33x : FSem := fnD 9 g_law_k33x
end Sm
end
set_option maxHeartbeats 4000000
set_option exponentiation.threshold 3000
noncomputable section
namespace Pl
open PySem PySem.Spec PyProof.Rows L2 Fk Sm Sp DB
variable {n m w : Nat} {T S : Store} {E : EX}
theorem plainW {rs : List (List Int)} (h : Mw m rs) : f_plain [mD rs] S = .ok (mD (plL m rs)) S := by
  have m2 := h.m2
  have h8 := h.len
  have m4 := h.m4
  have hr1 : 0 < rs.length := List.length_pos_iff.mpr h.ne
  have i0 : atI (rs.map rowD) 0 = some (rowD (rs.getD 0 [])) := by rw [show (0 : Int) = ((0 : Nat) : Int) from rfl, Fk.atI_nat]; simp [hr1]
  have r00 : (rs.getD 0 []).length = m := (h.row _ (by simp [hr1])).1
  have l0 : ∀ S, lenD [rowD (rs.getD 0 [])] S = some (.int (m : Int)) := fun S => by
    show some (D.int _) = _
    simp [-List.getD_eq_getElem?_getD, rowD, r00]
  refine eq_of_wp ?_
  unfold f_plain
  rw [wp_fnD]
  simp [-List.map_map, -List.getD_eq_getElem?_getD, g_plain, startD, i0, l0, okR]
  refine ⟨by omega, ?_⟩
  have hcol : ∀ (ρ : Fk.Env) S t, t < m → 5 < ρ.length → ρ[4]? = some (some (.int (t : Int))) → compGo (compStep (gN 5) sYes (eBin opIx (eVar 5) (eVar 4)) ρ) (rs.map rowD) [] S = .ok ((col rs t).map D.int) S := fun ρ S t ht h1 h4 => by
    refine comp_ints (enc := rowD) (fun r => r.getD t 0) (fun r hr => ?_) (by omega)
    have hrl := (h.row r hr).1
    have hix : atI (r.map D.int) (t : Int) = some (.int (r.getD t 0)) := by rw [Fk.atI_nat]; simp [show t < r.length by omega]
    refine eq_of_wp ?_
    simp [-List.map_map, -List.getD_eq_getElem?_getD, h1, h4, sYes, rowD, hix]
  rw [rng_eq, comp_ints fun t : Nat => loA rs t]
  · simp [-List.map_map, -List.getD_eq_getElem?_getD]
    have hlor : (List.range m).map (fun t => loA rs t) = rg m (loA rs) := rfl
    rw [hlor]
    have hcb : ∀ (ρ : Fk.Env) S, 7 < ρ.length → ρ[1]? = some (some (lI (rg m (loA rs)))) → compGo (compStep (gN 5) sYes (eOps tupD (aCons (frz (lComp (itZip (aCons (eVar 5) (aCons (eVar 1) aNil))) (gT [gN 6, gN 7]) sYes (eBin opSubA (eVar 6) (eVar 7)) [6, 7])) aNil)) ρ) (rs.map rowD) [] S = .ok ((abL m rs).map rowD) S := fun ρ S h1 hl1 => by
      refine comp_enc (enc := rowD) (enc' := rowD) (fun r => rg m fun t => r.getD t 0 - loA rs t) (fun r hr => ?_) (by omega)
      have hrl := (h.row r hr).1
      have hz : zipL (r.map D.int) ((rg m (loA rs)).map D.int) = rg m fun t => D.tup [.int (r.getD t 0), .int (loA rs t)] := by
        rw [mapD_rg hrl, show (rg m (loA rs)).map D.int = rg m fun t => D.int (loA rs t) by simp, zipL_rg]
      refine eq_of_wp ?_
      simp [-List.map_map, -List.getD_eq_getElem?_getD, h1, hl1, sYes, rowD, show 5 < ρ.length by omega, hz]
      rw [rg, comp_ints fun t => r.getD t 0 - loA rs t]
      · have : ((List.range m).map fun t => r.getD t 0 - loA rs t) = rg m fun t => r.getD t 0 - loA rs t := rfl
        rw [this]
        generalize (rg m fun t => r.getD t 0 - loA rs t) = rr
        simp [-List.map_map]
      · intro t _
        generalize r.getD t 0 = rt
        generalize loA rs t = lt
        refine eq_of_wp ?_
        simp [sYes, wipeD, show 6 < ρ.length by omega, h1]
      · simp; omega
    rw [hcb _ _ (by simp [wipeD]) (by simp [wipeD])]
    simp [-List.map_map, -List.getD_eq_getElem?_getD]
    have hab := abW_row h
    have habl : (abL m rs).length = rs.length := by simp [abL]
    have hfl : ((abL m rs).map fun r => r.map D.int).flatten = (abL m rs).flatten.map D.int := by rw [List.map_flatten]
    have hfll : (abL m rs).flatten.length ≤ 100 := by
      rw [List.length_flatten]
      have : ∀ l : List (List Int), (∀ r ∈ l, r.length = m ∧ ∀ i ∈ r, 0 ≤ i ∧ i ≤ 8000000) → (l.map List.length).sum ≤ 4 * l.length := fun l => by
        induction l with
        | nil => simp
        | cons r l ih =>
          intro hh
          have h1 := ih fun q hq => hh q (List.mem_cons_of_mem _ hq)
          have h2 := (hh r (by simp)).1
          rw [List.map_cons, List.sum_cons, List.length_cons]
          omega
      have := this _ hab
      omega
    have hc2 : ∀ (ρ : Fk.Env) S, 6 < ρ.length → comp2Go (gN 5) sYes (itSeq (eVar 5)) (gN 6) sYes (eVar 6) [6] ρ ((abL m rs).map rowD) [] S = .ok ((abL m rs).flatten.map D.int) S := fun ρ S h1 => by
      have := comp2_flat (S := S) (enc := rowD) (h := fun r : List Int => r.map D.int) (g := gN 5) (t := sYes) (it1 := itSeq (eVar 5)) (g1 := gN 6) (t1 := sYes) (e := eVar 6) (vs1 := [6]) (ρ := ρ) (as := abL m rs) (acc := []) (fun r hr => ?_) (by rw [hfl, List.length_map, List.length_nil]; omega)
      · rw [this, hfl]; rfl
      · refine ⟨ρ.set 5 (some (rowD r)), r.map D.int, by simp [gN, show 5 < ρ.length by omega], rfl, ?_, fun acc hacc => ?_⟩
        · refine eq_of_wp ?_
          simp [show 5 < ρ.length by omega, rowD]
        · refine comp_mapA (enc := D.int) (h := D.int) (fun i _ => ?_) (by simpa using hacc)
          refine eq_of_wp ?_
          simp [sYes, wipeD, h1]
    rw [hc2 _ _ (by simp [wipeD])]
    have hdv := fun S => divisor (S := S) (d := lI (abL m rs).flatten) (ns := (abL m rs).flatten) rfl
    have hfb : ∀ i ∈ (abL m rs).flatten, i.natAbs < 2 ^ 2000 := fun i hi => by
      obtain ⟨r, hr, hi⟩ := List.mem_flatten.mp hi
      have := (hab r hr).2 i hi
      exact natAbs_pow (a := 23) (by omega) (by decide)
    have hdvv : (if ((G (abL m rs).flatten : Nat) : Int) > 1 then ((G (abL m rs).flatten : Nat) : Int) else 1) = dvL m rs := by
      unfold dvL
      split <;> omega
    generalize (abL m rs).flatten = fl at *
    simp [-List.map_map, hdv, sz]
    have hdvv' : (if 1 < ((G fl : Nat) : Int) then ((G fl : Nat) : Int) else 1) = dvL m rs := hdvv
    rw [hdvv']
    have hdo : divOk (dvL m rs) = true := by
      rw [← hdvv]
      split
      · exact divOk_G (by omega) hfb
      · decide
    rw [comp_rowsP (P := fun ρ => ρ[3]? = some (some (.int (dvL m rs)))) (f := fun x => x / dvL m rs) (fun ρ d h => by rw [List.getElem?_set_ne (by decide)]; exact h) (fun ρ h => by simp [wipeD, h]) (by omega) (fun r hr => by rw [(hab r hr).1]; omega) (fun ρ S i hP _ hy => by
      refine eq_of_wp ?_
      simp [hy, hP, div_ok hdo]) _ _ (by simp [wipeD]) (by simp [wipeD]) (by simp [wipeD])]
    have hpl : ((abL m rs).map fun r => r.map fun x => x / dvL m rs) = plL m rs := rfl
    rw [hpl]
    generalize plL m rs = pl
    simp [-List.map_map]
    refine gcQ_cl ?_ ⟨rfl, by simp⟩
    simp only [closed]
    exact closedA_mem.mpr fun x hx => by obtain ⟨i, _, rfl⟩ := List.mem_map.mp hx; simp [rowD]
  · intro t ht
    have ht : t < m := by simpa using ht
    have hlo := fun S => least_of (S := S) (d := lI (col rs t)) (ns := col rs t) rfl (colW_ne h t) (by unfold col; simp; omega)
    refine eq_of_wp ?_
    simp [-List.map_map, wipeD]
    rw [hcol _ _ t ht (by simp) (by simp)]
    generalize hct : col rs t = ct at *
    simp [-List.map_map, hlo, loA, hct]
  · simp; omega
end Pl
end
set_option maxHeartbeats 4000000
set_option exponentiation.threshold 3000
noncomputable section
namespace Pl
open PySem PySem.Spec PyProof.Rows L2 Fk Sm Sp DB
variable {n m w : Nat} {T S : Store} {E : EX}
theorem law_divisorR {d : D} {S1 : Store} {ns : List Int} (hd : itOf d S = .ok (ns.map D.int) S1) (hS : S1.length = S.length) : f__law_divisor [d] S = .ok (.int (G ns)) S1 := by
  refine eq_of_wp ?_
  unfold f__law_divisor
  rw [wp_fnD]
  simp [g__law_divisor, startD, hd]
  refine wp_forL (fun xs ρ S' => ∃ (a : Nat) (ns' : List Int) (x y : Option D), xs = ns'.map D.int ∧ ρ = [some d, some (.int a), x, y] ∧ S1 = S' ∧ Gf a ns' = G ns) ⟨0, ns, none, none, rfl, rfl, rfl, rfl⟩ ?_ ?_
  · rintro x xs ρ S' ⟨a, ns', x', y', he, rfl, rfl, hg⟩
    cases ns' with
    | nil => cases he
    | cons i ns' =>
      simp at he
      obtain ⟨rfl, rfl⟩ := he
      simp [abs_nat]
      refine wp_sWhile (fun m ρ S' => ∃ a' b' : Nat, m = b' ∧ ρ = [some d, some (.int a'), some (.int i), some (.int b')] ∧ S1 = S' ∧ Nat.gcd a' b' = Nat.gcd a i.natAbs) i.natAbs ⟨a, i.natAbs, rfl, rfl, rfl, rfl⟩ ?_
      rintro b' ρ S' ⟨a', _, rfl, rfl, rfl, hab⟩
      by_cases hb : b' = 0
      · subst hb
        simp
        exact ⟨a', ns', rfl, rfl, by simp at hab; rw [hab]; exact hg⟩
      · simp [hb]
        refine ⟨by omega, a' % b', Nat.mod_lt _ (by omega), b', ⟨rfl, by simp⟩, ?_⟩
        rw [← hab, Nat.gcd_comm a' b', Nat.gcd_rec b' a', Nat.gcd_comm]
  · rintro ρ S' ⟨a, ns', x', y', he, rfl, rfl, hg⟩
    cases ns' with
    | cons i ns' => cases he
    | nil =>
      simp
      refine gcQ_cl (closed_int _ _) ⟨?_, by rw [← hS]; simp⟩
      simp [Gf] at hg
      rw [hg]
theorem map_rg_rows {α : Type} (rs : List (List Int)) (f : List Int → α) : rs.map f = rg rs.length fun i => f (rs.getD i []) := by
  apply List.ext_getElem
  · simp
  · intro i h1 h2
    have h1' : i < rs.length := by simpa using h1
    simp [rg, h1']
theorem ext_ofL {S : Store} {k : Nat} {xs ys : List D} (h : S[k]? = some (.lst true xs)) (hs : xs.length + ys.length ≤ 4000000) (hc : closedA k ys = true) : extC (.ref k) (.lst ys) S = .ok .non (S.set k (.lst true (xs ++ ys))) := by
  unfold extC
  rw [cellAt_of h]
  simp only [dr_lst]
  rw [if_pos]
  simp [sz, hs, hc]
theorem flat_rg (f : Nat → List Int) (i : Nat) : (rg (i + 1) f).flatten = (rg i f).flatten ++ f i := by rw [rg_succ]; simp
theorem flat_len {f : Nat → List Int} (hf : ∀ i, (f i).length ≤ 4) : ∀ i, (rg i f).flatten.length ≤ 4 * i := fun i => by
  induction i with
  | zero => simp [rg]
  | succ i ih => rw [flat_rg, List.length_append]; have := hf i; omega
theorem law_plain {rs : List (List Int)} (h : Mw m rs) : f__law_plain [mD rs] S = .ok (mD (plL m rs)) S := by
  have m2 := h.m2
  have m4 := h.m4
  have h8 := h.len
  have hr1 : 0 < rs.length := List.length_pos_iff.mpr h.ne
  have hab := abW_row h
  have habl : (abL m rs).length = rs.length := by simp [abL]
  -- one row above the least
  let aR : Nat → List Int := fun i => rg m fun t => (rs.getD i []).getD t 0 - loA rs t
  have haR : abL m rs = rg rs.length aR := map_rg_rows rs fun r => rg m fun t => r.getD t 0 - loA rs t
  have hcl : ∀ N (l : List (List Int)), closedA N (l.map lI) = true := fun N l => closedA_mem.mpr fun x hx => by obtain ⟨i, _, rfl⟩ := List.mem_map.mp hx; simp [lI]
  have hcol : ∀ (ρ : Fk.Env) S t, t < m → 7 < ρ.length → ρ[5]? = some (some (.int (t : Int))) → compGo (compStep (gN 7) sYes (eBin opIx (eVar 7) (eVar 5)) ρ) (rs.map rowD) [] S = .ok ((col rs t).map D.int) S := fun ρ S t ht h1 h4 => by
    refine comp_ints (enc := rowD) (fun r => r.getD t 0) (fun r hr => ?_) (by omega)
    have hrl := (h.row r hr).1
    have hix : atI (r.map D.int) (t : Int) = some (.int (r.getD t 0)) := by rw [Fk.atI_nat]; simp [show t < r.length by omega]
    refine eq_of_wp ?_
    simp [-List.map_map, -List.getD_eq_getElem?_getD, h1, h4, sYes, rowD, hix]
  refine eq_of_wp ?_
  unfold f__law_plain
  rw [wp_fnD]
  simp [-List.map_map, -List.getD_eq_getElem?_getD, g__law_plain, startD, sz]
  rw [map_rg_rows rs rowD]
  refine wp_forR (fun i ρ S' => ∃ x2 x3 x4 x5 x6 x7 : Option D, ρ = [some (mD rs), some (.ref S.length), x2, x3, x4, x5, x6, x7] ∧ S' = S ++ [.lst true ((rg i aR).map lI)]) ⟨none, none, none, none, none, none, rfl, rfl⟩ ?_ ?_
  · rintro i ρ S' hi ⟨x2, x3, x4, x5, x6, x7, rfl, rfl⟩
    have hat : (S ++ [Cell.lst true ((rg i aR).map lI)])[S.length]? = some (.lst true ((rg i aR).map lI)) := by simp
    have hap := appC_of hat (y := lI (aR i)) (by simp; omega) (by simp [lI])
    have hset : (S ++ [Cell.lst true ((rg i aR).map lI)]).set S.length (.lst true ((rg i aR).map lI ++ [lI (aR i)])) = S ++ [.lst true ((rg (i + 1) aR).map lI)] := by rw [rg_succ]; simp
    rw [hset] at hap
    have hrl := (h.row (rs.getD i []) (by simp [hi])).1
    have hen : enumL ((rs.getD i []).map D.int) = rg m fun t => D.tup [.int (t : Nat), .int ((rs.getD i []).getD t 0)] := by rw [mapD_rg hrl, enum_rg]
    replace hap : appC (.ref S.length) (.lst ((rg m fun t => (rs.getD i []).getD t 0 - loA rs t).map D.int)) (S ++ [Cell.lst true ((rg i aR).map lI)]) = .ok .non (S ++ [.lst true ((rg (i + 1) aR).map lI)]) := hap
    generalize hS1 : S ++ [Cell.lst true ((rg i aR).map lI)] = S1 at *
    generalize hS2 : S ++ [Cell.lst true ((rg (i + 1) aR).map lI)] = S2 at *
    generalize rs.getD i [] = ri at *
    simp [-List.map_map, -List.getD_eq_getElem?_getD, isL_of hat, rowD, hen]
    rw [rg, comp_ints fun t => ri.getD t 0 - loA rs t]
    · have : ((List.range m).map fun t => ri.getD t 0 - loA rs t) = rg m fun t => ri.getD t 0 - loA rs t := rfl
      rw [this]
      generalize (rg m fun t => ri.getD t 0 - loA rs t) = rr at *
      simp [-List.map_map, hap, hS2]
    · intro t ht
      have ht : t < m := by simpa using ht
      have hlo := fun S => law_least30 (S := S) (d := lI (col rs t)) (ns := col rs t) rfl (colW_ne h t) (by unfold col; simp; omega)
      refine eq_of_wp ?_
      simp [-List.map_map, -List.getD_eq_getElem?_getD, wipeD, sYes]
      rw [hcol _ _ t ht (by simp) (by simp)]
      generalize hct : col rs t = ct at *
      generalize ri.getD t 0 = rt
      simp [-List.map_map, hlo, loA, hct]
    · simp; omega
  · rintro ρ S' ⟨x2, x3, x4, x5, x6, x7, rfl, rfl⟩
    rw [← haR]
    have hit := itOf_any (n := S.length) (b := true) (S := S) (U := [Cell.lst true []]) (xs := (abL m rs).map lI) rfl
    simp [-List.map_map, sz, hit]
    rw [map_rg_rows (abL m rs) lI]
    let bR : Nat → List Int := fun i => (abL m rs).getD i []
    refine wp_forR (fun i ρ S' => ∃ x2 x4 x5 x6 x7 : Option D, ρ = [some (mD rs), some (.ref S.length), x2, some (.ref (S.length + 1)), x4, x5, x6, x7] ∧ S' = S ++ [.lst false ((abL m rs).map lI), .lst true ((rg i bR).flatten.map D.int)]) ⟨x2, x4, x5, x6, x7, rfl, by simp [rg, map_rg_rows (abL m rs) lI]⟩ ?_ ?_
    · rintro i ρ S' hi ⟨x2, x4, x5, x6, x7, rfl, rfl⟩
      have hbl : ∀ i, (bR i).length ≤ 4 := fun i => by
        show ((abL m rs).getD i []).length ≤ 4
        by_cases c : i < (abL m rs).length
        · have := (hab ((abL m rs).getD i []) (by simp [c])).1
          omega
        · simp [c]
      have hat : (S ++ [Cell.lst false ((abL m rs).map lI), Cell.lst true ((rg i bR).flatten.map D.int)])[S.length + 1]? = some (.lst true ((rg i bR).flatten.map D.int)) := by simp
      have hex := ext_ofL hat (ys := (bR i).map D.int) (by have := flat_len hbl i; have := hbl i; simp only [List.length_map]; omega) (by simp)
      have hset : (S ++ [Cell.lst false ((abL m rs).map lI), Cell.lst true ((rg i bR).flatten.map D.int)]).set (S.length + 1) (.lst true ((rg i bR).flatten.map D.int ++ (bR i).map D.int)) = S ++ [.lst false ((abL m rs).map lI), .lst true ((rg (i + 1) bR).flatten.map D.int)] := by rw [flat_rg]; simp
      rw [hset] at hex
      have hex' : extC (.ref (S.length + 1)) (lI ((abL m rs).getD i [])) (S ++ [Cell.lst false ((abL m rs).map lI), Cell.lst true ((rg i bR).flatten.map D.int)]) = .ok .non (S ++ [.lst false ((abL m rs).map lI), .lst true ((rg (i + 1) bR).flatten.map D.int)]) := hex
      generalize S ++ [Cell.lst false ((abL m rs).map lI), Cell.lst true ((rg i bR).flatten.map D.int)] = S1 at *
      generalize S ++ [Cell.lst false ((abL m rs).map lI), Cell.lst true ((rg (i + 1) bR).flatten.map D.int)] = S2 at *
      generalize lI ((abL m rs).getD i []) = ll at *
      simp [-List.map_map, isL_of hat, hex']
    · rintro ρ S' ⟨x2, x4, x5, x6, x7, rfl, rfl⟩
      have hfl : (rg (abL m rs).length bR).flatten = (abL m rs).flatten := by
        have : rg (abL m rs).length bR = abL m rs := by
          have := map_rg_rows (abL m rs) (fun r => r)
          rw [List.map_id'] at this
          exact this.symm
        rw [this]
      rw [hfl]
      have hfb : ∀ i ∈ (abL m rs).flatten, i.natAbs < 2 ^ 2000 := fun i hi => by
        obtain ⟨r, hr, hi⟩ := List.mem_flatten.mp hi
        have := (hab r hr).2 i hi
        exact natAbs_pow (a := 23) (by omega) (by decide)
      have hit2 := itOf_any (n := S.length + 1) (b := true) (S := S ++ [.lst false ((abL m rs).map lI)]) (U := []) (xs := (abL m rs).flatten.map D.int) (by simp)
      have hdv := law_divisorR hit2 (by simp)
      rw [List.append_assoc, List.append_assoc] at hdv
      have hdvv : (if ((G (abL m rs).flatten : Nat) : Int) > 1 then ((G (abL m rs).flatten : Nat) : Int) else 1) = dvL m rs := by
        unfold dvL
        split <;> omega
      have hpl : ((abL m rs).map fun r => r.map fun x => x / dvL m rs) = plL m rs := rfl
      have hdo : divOk (dvL m rs) = true := by
        rw [← hdvv]
        split
        · exact divOk_G (by omega) hfb
        · decide
      have hlen : ∀ r ∈ abL m rs, r.length ≤ 4 := fun r hr => by rw [(hab r hr).1]; exact m4
      generalize (abL m rs).flatten = fl at *
      have hdv' : f__law_divisor [.ref (S.length + 1)] (S ++ [Cell.lst false ((abL m rs).map lI), Cell.lst true (fl.map D.int)]) = .ok (.int (G fl)) (S ++ [Cell.lst false ((abL m rs).map lI), Cell.lst false (fl.map D.int)]) := hdv
      have hdvv' : (if 1 < ((G fl : Nat) : Int) then ((G fl : Nat) : Int) else 1) = dvL m rs := hdvv
      have hit3 : itOf (.ref S.length) (S ++ [Cell.lst false ((abL m rs).map lI), Cell.lst false (fl.map D.int)]) = .ok ((abL m rs).map lI) (S ++ [Cell.lst false ((abL m rs).map lI), Cell.lst false (fl.map D.int)]) := itOf_any (n := S.length) (b := false) (S := S) (U := [Cell.lst false (fl.map D.int)]) (xs := (abL m rs).map lI) rfl
      have hcomp : ∀ (ρ : Fk.Env) S, 6 < ρ.length → ρ[4]? = some (some (.int (dvL m rs))) → compGo (compStep (gN 2) sYes (eOps tupD (aCons (frz (lComp (itSeq (eVar 2)) (gN 6) sYes (eBin opDiv (eVar 6) (eVar 4)) [6])) aNil)) ρ) ((abL m rs).map lI) [] S = .ok ((plL m rs).map rowD) S := fun ρ S h1 h4 => by
        rw [← hpl]
        refine comp_enc (enc := lI) (enc' := rowD) (fun r => r.map fun x => x / dvL m rs) (fun r hr => ?_) (by omega)
        refine eq_of_wp ?_
        simp [-List.map_map, sYes, rowD, show 2 < ρ.length by omega]
        rw [comp_ints fun x => x / dvL m rs]
        · generalize (r.map fun x => x / dvL m rs) = rr
          simp [-List.map_map]
        · intro i hi
          refine eq_of_wp ?_
          simp [wipeD, sYes, h1, h4, div_ok hdo]
        · have := hlen r hr; omega
      generalize S ++ [Cell.lst false ((abL m rs).map lI), Cell.lst true (fl.map D.int)] = S1 at *
      generalize hS2 : S ++ [Cell.lst false ((abL m rs).map lI), Cell.lst false (fl.map D.int)] = S2 at *
      simp [-List.map_map, hdv', hdvv', sz, hit3]
      rw [hcomp _ _ (by simp [wipeD]) (by simp [wipeD])]
      generalize plL m rs = pl
      simp [-List.map_map]
      refine gcQ_cl ?_ ⟨rfl, by rw [← hS2]; simp⟩
      simp only [closed]
      exact closedA_mem.mpr fun x hx => by obtain ⟨i, _, rfl⟩ := List.mem_map.mp hx; simp [rowD]
end Pl
end
set_option maxHeartbeats 4000000
set_option exponentiation.threshold 3000
noncomputable section
namespace Pl
open PySem PySem.Spec PyProof.Rows L2 Fk Sm Sp DB
variable {n m w : Nat} {T S : Store} {E : EX}
theorem frac_mul {c : Nat} (hc : 0 < c) (a b : Int) : fracL (c * a) (c * b) = fracL a b := by
  have hg : G [(c : Int) * a, (c : Int) * b] = c * G [a, b] := G_mul c [a, b]
  unfold fracL
  rw [hg, Int.natCast_mul, Int.mul_ediv_mul_of_pos _ _ (by omega), Int.mul_ediv_mul_of_pos _ _ (by omega)]
section
variable {rs qs : List (List Int)}
/-- two rows, one below the other, that differ somewhere -/
def Df (m : Nat) (rs : List (List Int)) : Prop := ∃ i t, i + 1 < rs.length ∧ t < m ∧ (rs.getD i []).getD t 0 ≠ (rs.getD (i + 1) []).getD t 0
def apM (m : Nat) (rs : List (List Int)) : Int := maxL (rg m (apA rs))
def tbL (m : Nat) (rs qs : List (List Int)) : List Int := if 0 < apM m rs then fracL (apM m qs) (apM m rs) else [1, 1]
def rowV (m : Nat) (rs qs : List (List Int)) (f : List Int) : List (List Int) := rg m fun t => fracL ((qs.getD 0 []).getD t 0 * f.getD 1 0 - (rs.getD 0 []).getD t 0 * f.getD 0 0) (f.getD 1 0)
theorem col_mono {g c : Int} (hg : 0 ≤ g) : ∀ {xs : List Int}, xs ≠ [] → maxL (xs.map fun x => g * x + c) = g * maxL xs + c := fun {xs} hx => by
  refine (maxL_unique ?_ ?_).symm
  · exact List.mem_map.mpr ⟨_, maxL_mem hx, rfl⟩
  · intro y hy
    obtain ⟨x, hx', rfl⟩ := List.mem_map.mp hy
    have := Int.mul_le_mul_of_nonneg_left (maxL_le hx') hg
    omega
theorem col_pl (h : Mw m rs) {t : Nat} (ht : t < m) : col rs t = (col (plL m rs) t).map fun x => dvL m rs * x + loA rs t := by
  unfold col
  apply List.ext_getElem
  · simp [pl_len]
  · intro i h1 h2
    have hi : i < rs.length := by simpa using h1
    have := pl_at h hi ht
    have hp : i < (plL m rs).length := by rw [pl_len]; exact hi
    simp [hi, hp] at this ⊢
    exact this
theorem pl_ne (h : Mw m rs) : plL m rs ≠ [] := fun z => h.ne (by have := congrArg List.length z; rw [pl_len] at this; exact List.eq_nil_of_length_eq_zero this)
theorem ap_pl (h : Mw m rs) {t : Nat} (ht : t < m) : apA rs t = dvL m rs * maxL (col (plL m rs) t) := by
  unfold apA
  rw [col_pl h ht, col_mono (Int.le_of_lt dv_pos) (by unfold col; simpa using pl_ne h)]
  omega
theorem apM_pl (h : Mw m rs) : apM m rs = dvL m rs * maxL (rg m fun t => maxL (col (plL m rs) t)) := by
  have m2 := h.m2
  have e : rg m (apA rs) = (rg m fun t => maxL (col (plL m rs) t)).map fun x => dvL m rs * x + 0 := by
    unfold rg
    rw [List.map_map]
    refine List.map_congr_left fun t ht => ?_
    rw [ap_pl h (by simpa using ht)]
    simp
  unfold apM
  rw [e, col_mono (Int.le_of_lt dv_pos) (fun z => by have := congrArg List.length z; simp at this; omega)]
  omega
theorem dv_nat (m : Nat) (rs : List (List Int)) : ∃ g : Nat, 0 < g ∧ dvL m rs = g := ⟨(dvL m rs).toNat, by have := dv_pos (m := m) (rs := rs); omega, by have := dv_pos (m := m) (rs := rs); omega⟩
/-- the factor that the greatest differences tell -/
theorem tb_dv (h : Mw m rs) (h' : Mw m qs) (e : plL m rs = plL m qs) (h0 : 0 < apM m rs) : tbL m rs qs = fracL (dvL m qs) (dvL m rs) := by
  unfold tbL
  rw [if_pos h0, apM_pl h, apM_pl h', ← e]
  rw [apM_pl h] at h0
  generalize maxL (rg m fun t => maxL (col (plL m rs) t)) = M at *
  have hM : 0 < M := by
    rcases Int.lt_or_le 0 M with q | q
    · exact q
    · have := Int.mul_nonneg (Int.le_of_lt (dv_pos (m := m) (rs := rs))) (show 0 ≤ -M by omega)
      rw [Int.mul_neg] at this
      omega
  obtain ⟨k, rfl⟩ : ∃ k : Nat, M = k := ⟨M.toNat, by omega⟩
  rw [Int.mul_comm (dvL m qs), Int.mul_comm (dvL m rs), frac_mul (by omega)]
/-- a difference somewhere, where the marks are apart -/
theorem df_of (h : Mw m rs) (h0 : 0 < apM m rs) : Df m rs := by
  have m2 := h.m2
  obtain ⟨t, ht, e⟩ := List.mem_map.mp (maxL_mem (xs := rg m (apA rs)) (fun z => by have := congrArg List.length z; simp at this; omega))
  have ht : t < m := by simpa using ht
  have h1 : 0 < apA rs t := by
    rw [e]
    exact h0
  rcases Classical.em (Df m rs) with q | q
  · exact q
  · exfalso
    have all : ∀ i, i < rs.length → (rs.getD i []).getD t 0 = (rs.getD 0 []).getD t 0 := fun i => by
      induction i with
      | zero => intro _; rfl
      | succ i ih =>
        intro hi
        rw [← ih (by omega)]
        rcases Classical.em ((rs.getD i []).getD t 0 = (rs.getD (i + 1) []).getD t 0) with z | z
        · exact z.symm
        · exact (q ⟨i, t, hi, ht, z⟩).elim
    have hmem : ∀ x ∈ col rs t, x = (rs.getD 0 []).getD t 0 := fun x hx => by
      obtain ⟨r, hr, rfl⟩ := List.mem_map.mp hx
      obtain ⟨i, hi, rfl⟩ := List.getElem_of_mem hr
      have := all i hi
      simpa [hi] using this
    have a1 := hmem _ (maxL_mem (colW_ne h t))
    have a2 := hmem _ (minL_mem (colW_ne h t))
    have : apA rs t = maxL (col rs t) - minL (col rs t) := rfl
    omega
theorem ap_of (h : Mw m rs) (d : Df m rs) : 0 < apM m rs := by
  obtain ⟨i, t, hi, ht, ne⟩ := d
  have h1 : rs.getD i [] ∈ rs := by simp [show i < rs.length by omega]
  have h2 : rs.getD (i + 1) [] ∈ rs := by simp [hi]
  have a1 := lo_le h h1 t
  have a2 := lo_le h h2 t
  have b1 : (rs.getD i []).getD t 0 ≤ maxL (col rs t) := maxL_le (List.mem_map.mpr ⟨_, h1, rfl⟩)
  have b2 : (rs.getD (i + 1) []).getD t 0 ≤ maxL (col rs t) := maxL_le (List.mem_map.mpr ⟨_, h2, rfl⟩)
  have hm : apA rs t ≤ apM m rs := maxL_le (List.mem_map.mpr ⟨t, by simpa using ht, rfl⟩)
  have : apA rs t = maxL (col rs t) - loA rs t := rfl
  omega
/-- equal rows are equal in the plain rows, and in those of the like menu -/
theorem pl_same (h : Mw m rs) {i j : Nat} (hi : i < rs.length) (hj : j < rs.length) (e : rs.getD i [] = rs.getD j []) {t : Nat} (ht : t < m) : ((plL m rs).getD i []).getD t 0 = ((plL m rs).getD j []).getD t 0 := by
  have a1 := pl_at h hi ht
  have a2 := pl_at h hj ht
  rw [e] at a1
  have : dvL m rs * ((plL m rs).getD i []).getD t 0 = dvL m rs * ((plL m rs).getD j []).getD t 0 := by omega
  exact Int.eq_of_mul_eq_mul_left (Int.ne_of_gt dv_pos) this
theorem ix_lt {r : List Int} (hr : r ∈ rs) : rs.idxOf r < rs.length := List.idxOf_lt_length_iff.mpr hr
theorem ix_at {r : List Int} (hr : r ∈ rs) : rs.getD (rs.idxOf r) [] = r := by
  have h := ix_lt hr
  simp [h]
/-- what the law's factor comes to at a difference -/
theorem due_frac (h : Mw m rs) (h' : Mw m qs) (e : plL m rs = plL m qs) {i t : Nat} (hi : i + 1 < rs.length) (ht : t < m) (ne : (rs.getD i []).getD t 0 ≠ (rs.getD (i + 1) []).getD t 0) :
    fracL (((qs.getD (rs.idxOf (rs.getD i [])) []).getD t 0 - (qs.getD (rs.idxOf (rs.getD (i + 1) [])) []).getD t 0).natAbs : Nat) (((rs.getD i []).getD t 0 - (rs.getD (i + 1) []).getD t 0).natAbs : Nat) = fracL (dvL m qs) (dvL m rs) := by
  have hl : rs.length = qs.length := by rw [← pl_len (m := m) (rs := rs), e, pl_len]
  have h1 : rs.getD i [] ∈ rs := by simp [show i < rs.length by omega]
  have h2 : rs.getD (i + 1) [] ∈ rs := by simp [hi]
  have l1 := ix_lt h1
  have l2 := ix_lt h2
  have a1 := pl_at h (show i < rs.length by omega) ht
  have a2 := pl_at h hi ht
  have b1 := pl_at h' (show rs.idxOf (rs.getD i []) < qs.length by omega) ht
  have b2 := pl_at h' (show rs.idxOf (rs.getD (i + 1) []) < qs.length by omega) ht
  rw [← e, pl_same h l1 (show i < rs.length by omega) (ix_at h1) ht] at b1
  rw [← e, pl_same h l2 hi (ix_at h2) ht] at b2
  generalize ((plL m rs).getD i []).getD t 0 = x at *
  generalize ((plL m rs).getD (i + 1) []).getD t 0 = y at *
  rw [b1, b2, a1, a2]
  obtain ⟨g, g0, hg⟩ := dv_nat m rs
  obtain ⟨k, k0, hk⟩ := dv_nat m qs
  rw [hg, hk] at *
  have e1 : (k : Int) * x + loA qs t - ((k : Int) * y + loA qs t) = k * (x - y) := by rw [Int.mul_sub]; omega
  have e2 : (g : Int) * x + loA rs t - ((g : Int) * y + loA rs t) = g * (x - y) := by rw [Int.mul_sub]; omega
  rw [e1, e2, Int.natAbs_mul, Int.natAbs_mul]
  have hd : 0 < (x - y).natAbs := by
    have : x ≠ y := fun z => ne (by rw [a1, a2, z])
    omega
  simp only [Int.natAbs_natCast, Int.natCast_mul]
  rw [Int.mul_comm (k : Int), Int.mul_comm (g : Int), frac_mul hd]
end
end Pl
end
set_option maxHeartbeats 4000000
set_option exponentiation.threshold 3000
noncomputable section
namespace Pl
open PySem PySem.Spec PyProof.Rows L2 Fk Sm Sp DB
variable {n m w : Nat} {T S : Store} {E : EX}
def likeV (m : Nat) (rs qs : List (List Int)) : D := if rs.length = qs.length ∧ plL m rs = plL m qs then .tup [tI (tbL m rs qs), .tup ((rowV m rs qs (tbL m rs qs)).map tI)] else .non
section
variable {rs qs : List (List Int)}
theorem tb_two (h : Mn m rs) (h' : Mn m qs) : ∃ x y : Int, tbL m rs qs = [x, y] ∧ 0 < y ∧ x.natAbs ≤ 2000000 ∧ y.natAbs ≤ 2000000 := by
  obtain ⟨b1, b2⟩ := ap_ab h
  obtain ⟨b3, b4⟩ := ap_ab h'
  unfold tbL
  by_cases q : 0 < apM m rs
  · rw [if_pos q]
    exact frac_pos q b4 b2
  · rw [if_neg q]
    exact ⟨1, 1, rfl, by decide, by decide, by decide⟩
theorem atD (h : Mn m rs) {i : Nat} (hi : i < rs.length) {t : Nat} (ht : t < m) : ((rs.getD i []).getD t 0).natAbs ≤ 1000000 := by
  have := h.row (rs.getD i []) (by simp [hi])
  rw [getD_g (by rw [this.1]; exact ht)]
  exact this.2 _ (List.getElem_mem _)
theorem row_big {u v x y : Int} (c1 : u.natAbs ≤ 1000000) (c2 : v.natAbs ≤ 1000000) (hx : x.natAbs ≤ 2000000) (hy : y.natAbs ≤ 2000000) : (v * y - u * x).natAbs < 2 ^ 60 := by
  have e1 := Int.natAbs_sub_le (v * y) (u * x)
  rw [Int.natAbs_mul, Int.natAbs_mul] at e1
  have e2 := Nat.mul_le_mul c2 hy
  have e3 := Nat.mul_le_mul c1 hx
  omega
theorem like_val (h : Mn m rs) (h' : Mn m qs) (h8 : rs.length ≤ 8) (h8' : qs.length ≤ 8) : f_like [mD rs, mD qs] S = .ok (likeV m rs qs) S := by
  have m2 := h.m2
  have m4 := h.m4
  have hr1 : 0 < rs.length := List.length_pos_iff.mpr h.ne
  have hq1 : 0 < qs.length := List.length_pos_iff.mpr h'.ne
  have i0 : atI (rs.map rowD) 0 = some (rowD (rs.getD 0 [])) := by rw [show (0 : Int) = ((0 : Nat) : Int) from rfl, Fk.atI_nat]; simp [hr1]
  have j0 : atI (qs.map rowD) 0 = some (rowD (qs.getD 0 [])) := by rw [show (0 : Int) = ((0 : Nat) : Int) from rfl, Fk.atI_nat]; simp [hq1]
  have r0 : RowOk m (rs.getD 0 []) := h.row _ (by simp [hr1])
  have q0 : RowOk m (qs.getD 0 []) := h'.row _ (by simp [hq1])
  have l0 : ∀ S, lenD [rowD (rs.getD 0 [])] S = some (.int (m : Int)) := fun S => by
    show some (D.int _) = _
    simp [-List.getD_eq_getElem?_getD, rowD, r0.1]
  have l1 : ∀ S, lenD [rowD (qs.getD 0 [])] S = some (.int (m : Int)) := fun S => by
    show some (D.int _) = _
    simp [-List.getD_eq_getElem?_getD, rowD, q0.1]
  have p1 := fun S => plainW (S := S) (Mw.of h h8)
  have p2 := fun S => plainW (S := S) (Mw.of h' h8')
  have a1 := fun S => most_apart (S := S) h h8
  have a2 := fun S => most_apart (S := S) h' h8'
  have en := fun S => ne_mD (S := S) (xs := plL m rs) (ys := plL m qs)
  by_cases hl : rs.length = qs.length
  case neg =>
    have hlq : ¬ (rs.length : Int) = (qs.length : Int) := by omega
    have hv : likeV m rs qs = .non := if_neg fun z => hl z.1
    refine eq_of_wp ?_
    rw [hv]
    unfold f_like
    rw [wp_fnD]
    simp [-List.map_map, -List.getD_eq_getElem?_getD, g_like, startD, i0, j0, l0, l1, hlq]
    exact gcQ_cl (by simp) ⟨rfl, by simp⟩
  have hlq : (rs.length : Int) = (qs.length : Int) := by omega
  by_cases c : plL m rs = plL m qs
  · rw [decide_eq_true c] at en
    have hv : likeV m rs qs = .tup [tI (tbL m rs qs), .tup ((rowV m rs qs (tbL m rs qs)).map tI)] := if_pos ⟨hl, c⟩
    obtain ⟨b1, b2⟩ := ap_ab h
    obtain ⟨b3, b4⟩ := ap_ab h'
    obtain ⟨x, y, etb, hy0, hxb, hyb⟩ := tb_two h h'
    have hxy : (0 < apM m rs ∧ fracL (apM m qs) (apM m rs) = [x, y]) ∨ (¬ 0 < apM m rs ∧ x = 1 ∧ y = 1) := by
      unfold tbL at etb
      by_cases q : 0 < apM m rs
      · rw [if_pos q] at etb; exact .inl ⟨q, etb⟩
      · rw [if_neg q] at etb
        simp at etb
        exact .inr ⟨q, etb.1.symm, etb.2.symm⟩
    have hrv : rowV m rs qs (tbL m rs qs) = rg m fun t => fracL ((qs.getD 0 []).getD t 0 * y - (rs.getD 0 []).getD t 0 * x) y := by
      unfold rowV
      rw [etb]
      rfl
    rw [hv, etb] at *
    rw [etb] at hrv
    obtain ⟨A, hA⟩ : ∃ A, A = apM m rs := ⟨_, rfl⟩
    obtain ⟨B, hB⟩ : ∃ B, B = apM m qs := ⟨_, rfl⟩
    unfold apM at hA hB hxy
    rw [← hA, ← hB] at hxy
    rw [← hA] at a1 b1 b2
    rw [← hB] at a2 b3 b4
    have hb : ∀ {i : Int}, i.natAbs ≤ 2000000 → i.natAbs < 2 ^ 2000 := fun {i} hi => natAbs_pow (a := 21) (by omega) (by decide)
    have hf := fun S (q : 0 < A) => Sp.fraction (S := S) (a := B) (b := A) (hb b4) (hb b2) q
    have hz : zipL ((rs.getD 0 []).map D.int) ((qs.getD 0 []).map D.int) = rg m fun t => D.tup [.int ((rs.getD 0 []).getD t 0), .int ((qs.getD 0 []).getD t 0)] := by
      rw [mapD_rg r0.1, mapD_rg q0.1, zipL_rg]
    have hcomp : ∀ (ρ : Fk.Env) S, 6 < ρ.length → ρ[2]? = some (some (.int x)) → ρ[3]? = some (some (.int y)) → compGo (compStep (gT [gN 5, gN 6]) sYes (eCall f_fraction [] (aCons (eBin opSubA (eBin opMulA (eVar 6) (eVar 3)) (eBin opMulA (eVar 5) (eVar 2))) (aCons (eVar 3) aNil))) ρ) (rg m fun t => D.tup [.int ((rs.getD 0 []).getD t 0), .int ((qs.getD 0 []).getD t 0)]) [] S = .ok ((rowV m rs qs [x, y]).map tI) S := fun ρ S h1 h2 h3 => by
      rw [hrv, rg, comp_enc (enc' := tI) fun t => fracL ((qs.getD 0 []).getD t 0 * y - (rs.getD 0 []).getD t 0 * x) y]
      · intro t ht
        have ht : t < m := by simpa using ht
        have c1 := atD h hr1 ht
        have c2 := atD h' hq1 ht
        generalize (rs.getD 0 []).getD t 0 = u at *
        generalize (qs.getD 0 []).getD t 0 = v at *
        have m1 := fun S => mul_ok (S := S) (Fk.mulOk_of (i := v) (j := y) 21 22 (by omega) (by omega) (by decide))
        have m3 := fun S => mul_ok (S := S) (Fk.mulOk_of (i := u) (j := x) 21 22 (by omega) (by omega) (by decide))
        have hbig : (v * y - u * x).natAbs < 2 ^ 2000 := natAbs_pow (a := 60) (row_big c1 c2 hxb hyb) (by decide)
        have hfr := fun S => Sp.fraction (S := S) (a := v * y - u * x) (b := y) hbig (hb hyb) hy0
        refine eq_of_wp ?_
        generalize fracL (v * y - u * x) y = fr at *
        simp [-List.map_map, h1, h2, h3, sYes, m1, m3, hfr, show 5 < ρ.length by omega]
      · simp; omega
    clear hrv hv
    generalize rowV m rs qs [x, y] = row at *
    generalize rs.getD 0 [] = u0 at *
    generalize qs.getD 0 [] = v0 at *
    have huv : (u0.length : Int) = (v0.length : Int) := by rw [r0.1, q0.1]
    have hcl : ∀ N, closedA N (row.map tI) = true := fun N => closedA_mem.mpr fun x hx => by obtain ⟨i, _, rfl⟩ := List.mem_map.mp hx; simp
    refine eq_of_wp ?_
    unfold f_like
    rw [wp_fnD]
    rcases hxy with ⟨q, e⟩ | ⟨q, rfl, rfl⟩
    · have hf' : ∀ S, f_fraction [.int B, .int A] S = .ok (.tup [.int x, .int y]) S := fun S => by rw [hf S q, e]; rfl
      simp [-List.map_map, -List.getD_eq_getElem?_getD, g_like, startD, i0, j0, l0, l1, p1, p2, en, hlq, a1, a2, q, hf', sz, rowD, hz, huv]
      rw [hcomp _ _ (by simp [wipeD]) (by simp [wipeD]) (by simp [wipeD])]
      simp [-List.map_map, sz]
      exact gcQ_cl (by simp [closed, closedA, hcl]) ⟨rfl, by simp⟩
    · simp [-List.map_map, -List.getD_eq_getElem?_getD, g_like, startD, i0, j0, l0, l1, p1, p2, en, hlq, a1, a2, q, sz, rowD, hz, huv]
      rw [hcomp _ _ (by simp [wipeD]) (by simp [wipeD]) (by simp [wipeD])]
      simp [-List.map_map, sz]
      exact gcQ_cl (by simp [closed, closedA, hcl]) ⟨rfl, by simp⟩
  · rw [decide_eq_false c] at en
    have hv : likeV m rs qs = .non := if_neg fun z => c z.2
    refine eq_of_wp ?_
    rw [hv]
    unfold f_like
    rw [wp_fnD]
    simp [-List.map_map, -List.getD_eq_getElem?_getD, g_like, startD, i0, j0, l0, l1, p1, p2, en, hlq]
    exact gcQ_cl (by simp) ⟨rfl, by simp⟩
theorem like_unlike {k : Nat} (h : Mn m rs) (h' : Mn k qs) (ne : m ≠ k) : f_like [mD rs, mD qs] S = .exc "Unlike" [] S := by
  have hr1 : 0 < rs.length := List.length_pos_iff.mpr h.ne
  have hq1 : 0 < qs.length := List.length_pos_iff.mpr h'.ne
  have i0 : atI (rs.map rowD) 0 = some (rowD (rs.getD 0 [])) := by rw [show (0 : Int) = ((0 : Nat) : Int) from rfl, Fk.atI_nat]; simp [hr1]
  have j0 : atI (qs.map rowD) 0 = some (rowD (qs.getD 0 [])) := by rw [show (0 : Int) = ((0 : Nat) : Int) from rfl, Fk.atI_nat]; simp [hq1]
  have l0 : ∀ S, lenD [rowD (rs.getD 0 [])] S = some (.int (m : Int)) := fun S => by
    show some (D.int _) = _
    simp [-List.getD_eq_getElem?_getD, rowD, (h.row (rs.getD 0 []) (by simp [hr1])).1]
  have l1 : ∀ S, lenD [rowD (qs.getD 0 [])] S = some (.int (k : Int)) := fun S => by
    show some (D.int _) = _
    simp [-List.getD_eq_getElem?_getD, rowD, (h'.row (qs.getD 0 []) (by simp [hq1])).1]
  have hne : ¬ (m : Int) = (k : Int) := by omega
  refine exc_of_wp ?_
  unfold f_like
  rw [wp_fnD]
  generalize rowD (rs.getD 0 []) = u0 at *
  generalize rowD (qs.getD 0 []) = v0 at *
  simp [-List.map_map, -List.getD_eq_getElem?_getD, g_like, startD, i0, j0, l0, l1, hne]
  exact gcE_cl rfl ⟨rfl, rfl, by simp⟩
theorem told (h : Mn m rs) (h' : Mn m qs) (h8 : rs.length ≤ 8) (h8' : qs.length ≤ 8) : f__law_told_k33 [mD rs, mD qs] S = .ok (.lst [.str "ok", likeV m rs qs]) S := by
  have e := fun S => like_val (S := S) h h' h8 h8'
  have hc : ∀ N, closed N (likeV m rs qs) = true := fun N => by
    unfold likeV
    split
    · simp [closed, closedA]
      exact closedA_mem.mpr fun x hx => by obtain ⟨i, _, rfl⟩ := List.mem_map.mp hx; simp
    · simp
  generalize likeV m rs qs = v at *
  refine eq_of_wp ?_
  unfold f__law_told_k33
  rw [wp_fnD]
  simp [-List.map_map, g__law_told_k33, startD, e, sz]
  exact gcQ_cl (by simp [hc]) ⟨by simp, by simp⟩
theorem told_un {k : Nat} (h : Mn m rs) (h' : Mn k qs) (ne : m ≠ k) : f__law_told_k33 [mD rs, mD qs] S = .ok (.lst [.str "unlike"]) S := by
  have e := fun S => like_unlike (S := S) h h' ne
  refine eq_of_wp ?_
  unfold f__law_told_k33
  rw [wp_fnD]
  simp [-List.map_map, g__law_told_k33, startD, e, sz, hd_yes]
  exact gcQ_cl (by simp) ⟨by simp, by simp⟩
end
end Pl
end
set_option maxHeartbeats 4000000
set_option exponentiation.threshold 3000
noncomputable section
namespace Fk
open PySem PySem.Spec PyProof.Rows L2
section
variable {f g : SemE} {ρ : Env} {S : Store} {E : EX} {Q : D → Store → Prop}
@[simp] theorem wk_ktp (xs : List D) : wkD (.ktp xs) = .tup xs := rfl
@[simp] theorem wk_tup (xs : List D) : wkD (.tup xs) = .tup xs := rfl
def kWk (Q : D → Store → Prop) (d : D) (S : Store) : Prop := Q (wkD d) S
@[simp] theorem kWk_eq {d : D} : kWk Q d S = Q (wkD d) S := rfl
@[simp] theorem wp_eWk : (eWk f ρ S).wp Q E = (f ρ S).wp (kWk Q) E := by
  simp only [eWk, wp_bind, wp_ok]
  rfl
def kTx2 (Q : D → Store → Prop) (x y : D) (S : Store) : Prop := ∃ z, opTix x y S = some z ∧ Q z S
@[simp] theorem kTx2_eq {x y : D} : kTx2 Q x y S = ∃ z, opTix x y S = some z ∧ Q z S := rfl
def kTx1 (g : SemE) (ρ : Env) (Q : D → Store → Prop) (E : EX) (x : D) (S : Store) : Prop := isKt x = true ∧ (g ρ S).wp (kTx2 Q x) E
@[simp] theorem kTx1_eq {x : D} : kTx1 g ρ Q E x S = (isKt x = true ∧ (g ρ S).wp (kTx2 Q x) E) := rfl
@[simp] theorem wp_eTix : (eTix f g ρ S).wp Q E = (f ρ S).wp (kTx1 g ρ Q E) E := by
  simp only [eTix, wp_bind, wp_itestuck, wp_lift]
  rfl
@[simp] theorem isKt_k (xs : List D) : isKt (.ktp xs) = true := rfl
theorem rowI_row (r : List Int) : rowI (.tup (r.map D.int)) = some r := asInts_map r
theorem rowsI_rows : ∀ rs : List (List Int), rowsI (rs.map fun r => D.tup (r.map D.int)) = some rs
  | [] => rfl
  | r :: rs => by rw [List.map_cons, rowsI, rowI_row, rowsI_rows rs]
theorem tix_of {rs : List (List Int)} {r : List Int} (h : r ∈ rs) : opTix (.ktp (rs.map fun r => D.tup (r.map D.int))) (.tup (r.map D.int)) S = some (.int (rs.idxOf r : Nat)) := by
  unfold opTix
  simp only [rowsI_rows, rowI_row]
  rw [if_pos h]
end
end Fk
namespace Pl
open PySem PySem.Spec PyProof.Rows L2 Fk Sm Sp DB
variable {n m w : Nat} {T S : Store} {E : EX}
section
variable {rs qs : List (List Int)}
abbrev ktD (rs : List (List Int)) : D := .ktp (rs.map rowD)
theorem tixR {r : List Int} (h : r ∈ rs) : opTix (ktD rs) (rowD r) S = some (.int (rs.idxOf r : Nat)) := tix_of h
theorem due_un {k : Nat} {o : D} (ho : wkD o = mD qs) (h : Mn m rs) (h' : Mn k qs) (ne : m ≠ k) : f__law_due_k33x [ktD rs, o] S = .ok (.lst [.str "unlike"]) S := by
  have hr1 : 0 < rs.length := List.length_pos_iff.mpr h.ne
  have hq1 : 0 < qs.length := List.length_pos_iff.mpr h'.ne
  have i0 : atI (rs.map rowD) 0 = some (rowD (rs.getD 0 [])) := by rw [show (0 : Int) = ((0 : Nat) : Int) from rfl, Fk.atI_nat]; simp [hr1]
  have j0 : atI (qs.map rowD) 0 = some (rowD (qs.getD 0 [])) := by rw [show (0 : Int) = ((0 : Nat) : Int) from rfl, Fk.atI_nat]; simp [hq1]
  have l0 : ∀ S, lenD [rowD (rs.getD 0 [])] S = some (.int (m : Int)) := fun S => by
    show some (D.int _) = _
    simp [-List.getD_eq_getElem?_getD, rowD, (h.row (rs.getD 0 []) (by simp [hr1])).1]
  have l1 : ∀ S, lenD [rowD (qs.getD 0 [])] S = some (.int (k : Int)) := fun S => by
    show some (D.int _) = _
    simp [-List.getD_eq_getElem?_getD, rowD, (h'.row (qs.getD 0 []) (by simp [hq1])).1]
  have hne : ¬ (m : Int) = (k : Int) := by omega
  refine eq_of_wp ?_
  unfold f__law_due_k33x
  rw [wp_fnD]
  generalize rowD (rs.getD 0 []) = u0 at *
  generalize rowD (qs.getD 0 []) = v0 at *
  simp [-List.map_map, -List.getD_eq_getElem?_getD, g__law_due_k33x, startD, ho, i0, j0, l0, l1, hne, sz]
  exact gcQ_cl (by simp) ⟨rfl, by simp⟩
theorem zip_next (rs : List (List Int)) : zipL (rs.map rowD) ((rs.map rowD).drop 1) = rg (rs.length - 1) fun i => D.tup [rowD (rs.getD i []), rowD (rs.getD (i + 1) [])] := by
  unfold zipL
  apply List.ext_getElem
  · simp
  · intro i h1 h2
    have h2' : i < rs.length - 1 := by simpa using h2
    simp [rg, show i < rs.length by omega, show i + 1 < rs.length by omega, Nat.add_comm 1 i]
theorem getD_mem {l : List (List Int)} {k : Nat} (h : k < l.length) : l.getD k [] ∈ l := by simp [h]
theorem due (h : Mn m rs) (h' : Mn m qs) (h8 : rs.length ≤ 8) (h8' : qs.length ≤ 8) {o : D} (ho : wkD o = mD qs) : f__law_due_k33x [ktD rs, o] S = .ok (.lst [.str "ok", likeV m rs qs]) S := by
  have m2 := h.m2
  have m4 := h.m4
  have hr1 : 0 < rs.length := List.length_pos_iff.mpr h.ne
  have hq1 : 0 < qs.length := List.length_pos_iff.mpr h'.ne
  have i0 : atI (rs.map rowD) 0 = some (rowD (rs.getD 0 [])) := by rw [show (0 : Int) = ((0 : Nat) : Int) from rfl, Fk.atI_nat]; simp [hr1]
  have j0 : atI (qs.map rowD) 0 = some (rowD (qs.getD 0 [])) := by rw [show (0 : Int) = ((0 : Nat) : Int) from rfl, Fk.atI_nat]; simp [hq1]
  have r0 : RowOk m (rs.getD 0 []) := h.row _ (by simp [hr1])
  have q0 : RowOk m (qs.getD 0 []) := h'.row _ (by simp [hq1])
  have l0 : ∀ S, lenD [rowD (rs.getD 0 [])] S = some (.int (m : Int)) := fun S => by
    show some (D.int _) = _
    simp [-List.getD_eq_getElem?_getD, rowD, r0.1]
  have l1 : ∀ S, lenD [rowD (qs.getD 0 [])] S = some (.int (m : Int)) := fun S => by
    show some (D.int _) = _
    simp [-List.getD_eq_getElem?_getD, rowD, q0.1]
  have W := Mw.of h h8
  have W' := Mw.of h' h8'
  have p1 := fun S => law_plain (S := S) W
  have p2 := fun S => law_plain (S := S) W'
  have en := fun S => ne_mD (S := S) (xs := plL m rs) (ys := plL m qs)
  by_cases hl : rs.length = qs.length
  case neg =>
    have hlq : ¬ (rs.length : Int) = (qs.length : Int) := by omega
    have hv : likeV m rs qs = .non := if_neg fun z => hl z.1
    refine eq_of_wp ?_
    rw [hv]
    unfold f__law_due_k33x
    rw [wp_fnD]
    simp [-List.map_map, -List.getD_eq_getElem?_getD, g__law_due_k33x, startD, ho, i0, j0, l0, l1, hlq, sz]
    exact gcQ_cl (by simp) ⟨rfl, by simp⟩
  have hlq : (rs.length : Int) = (qs.length : Int) := by omega
  by_cases c : plL m rs = plL m qs
  case neg =>
    rw [decide_eq_false c] at en
    have hv : likeV m rs qs = .non := if_neg fun z => c z.2
    refine eq_of_wp ?_
    rw [hv]
    unfold f__law_due_k33x
    rw [wp_fnD]
    simp [-List.map_map, -List.getD_eq_getElem?_getD, g__law_due_k33x, startD, ho, i0, j0, l0, l1, p1, p2, en, hlq, sz]
    exact gcQ_cl (by simp) ⟨rfl, by simp⟩
  rw [decide_eq_true c] at en
  have hv : likeV m rs qs = .tup [tI (tbL m rs qs), .tup ((rowV m rs qs (tbL m rs qs)).map tI)] := if_pos ⟨hl, c⟩
  obtain ⟨x, y, etb, hy0, hxb, hyb⟩ := tb_two h h'
  have hb : ∀ {i : Int}, i.natAbs ≤ 2000000 → i.natAbs < 2 ^ 2000 := fun {i} hi => natAbs_pow (a := 21) (by omega) (by decide)
  have hpr : ∀ (S : Store) (a b : Int), a.natAbs < 2 ^ 2000 → b.natAbs < 2 ^ 2000 → b ≠ 0 → f__law_primitive_k28 [.tup [.int a, .int b]] S = .ok (tI (fracL a b)) S := fun S a b ha hb h0 => law_primitive28 (S := S) (d := tI [a, b]) (ns := [a, b]) rfl (by simp; exact ⟨ha, hb⟩) (G_pos (i := b) (by simp) h0) (by simp)
  -- the factor as it stands behind some of the differences
  let Sn : (Nat → Nat → Prop) → List Int → Prop := fun P f => (f = [1, 1] ∧ ∀ i t, P i t → i + 1 < rs.length → t < m → (rs.getD i []).getD t 0 = (rs.getD (i + 1) []).getD t 0) ∨ (f = fracL (dvL m qs) (dvL m rs) ∧ Df m rs)
  have hend : ∀ f, Sn (fun _ _ => True) f → f = tbL m rs qs := by
    rintro f (⟨rfl, hz⟩ | ⟨rfl, hd⟩)
    · have : ¬ 0 < apM m rs := fun q => by
        obtain ⟨i, t, hi, ht, ne⟩ := df_of W q
        exact ne (hz i t trivial hi ht)
      unfold tbL
      rw [if_neg this]
    · rw [tb_dv W W' c (ap_of W hd)]
  have htwo : ∀ P f, Sn P f → ∃ a b : Int, f = [a, b] := by
    rintro P f (⟨rfl, _⟩ | ⟨rfl, _⟩)
    · exact ⟨1, 1, rfl⟩
    · exact ⟨_, _, rfl⟩
  have hdz : Fk.cutD (rs.map rowD) (some 1) none = (rs.map rowD).drop 1 := cutD_drop _ 1
  have hzn := zip_next rs
  rw [← hdz] at hzn
  refine eq_of_wp ?_
  rw [hv]
  unfold f__law_due_k33x
  rw [wp_fnD]
  simp [-List.map_map, -List.getD_eq_getElem?_getD, g__law_due_k33x, startD, ho, i0, j0, l0, l1, p1, p2, en, hlq, sz]
  rw [hzn]
  refine wp_forR (fun i ρ S' => ∃ (f : List Int) (x3 x4 x5 x6 x7 x8 x9 x10 x11 : Option D), ρ = [some (ktD rs), some o, some (tI f), x3, x4, x5, x6, x7, x8, x9, x10, x11] ∧ S = S' ∧ Sn (fun i' _ => i' < i) f) ⟨[1, 1], none, none, none, none, none, none, none, none, none, rfl, rfl, .inl ⟨rfl, fun i t hi => absurd hi (Nat.not_lt_zero _)⟩⟩ ?_ ?_
  · rintro i ρ S' hi ⟨f, x3, x4, x5, x6, x7, x8, x9, x10, x11, rfl, rfl, hf⟩
    have hi1 : i + 1 < rs.length := by omega
    have hm1 : rs.getD i [] ∈ rs := by simp [show i < rs.length by omega]
    have hm2 : rs.getD (i + 1) [] ∈ rs := by simp [hi1]
    have k1 := h.row _ hm1
    have k2 := h.row _ hm2
    have t1 : ∀ S, opTix (ktD rs) (tI (rs.getD i [])) S = some (.int (rs.idxOf (rs.getD i []) : Nat)) := fun S => tixR (S := S) hm1
    have t2 : ∀ S, opTix (ktD rs) (tI (rs.getD (i + 1) [])) S = some (.int (rs.idxOf (rs.getD (i + 1) []) : Nat)) := fun S => tixR (S := S) hm2
    have w1 := ix_lt hm1
    have w2 := ix_lt hm2
    have hen : enumL ((rs.getD i []).map D.int) = rg m fun t => D.tup [.int (t : Nat), .int ((rs.getD i []).getD t 0)] := by rw [mapD_rg k1.1, enum_rg]
    have ixR : ∀ (r : List Int) (t : Nat), r.length = m → t < m → atI (r.map D.int) (t : Int) = some (.int (r.getD t 0)) := fun r t hr ht => by rw [Fk.atI_nat]; simp [hr, ht]
    have ixQ : ∀ k : Nat, k < qs.length → atI (qs.map rowD) (k : Int) = some (rowD (qs.getD k [])) := fun k hk => by rw [Fk.atI_nat]; simp [hk]
    have g1 := ixQ _ (show rs.idxOf (rs.getD i []) < qs.length by omega)
    have g2 := ixQ _ (show rs.idxOf (rs.getD (i + 1) []) < qs.length by omega)
    have kq1 := h'.row (qs.getD (rs.idxOf (rs.getD i [])) []) (getD_mem (by omega))
    have kq2 := h'.row (qs.getD (rs.idxOf (rs.getD (i + 1) [])) []) (getD_mem (by omega))
    have dfr := fun t (ht : t < m) => due_frac W W' c hi1 ht
    have hdf : ∀ t, t < m → (rs.getD i []).getD t 0 ≠ (rs.getD (i + 1) []).getD t 0 → Df m rs := fun t ht ne => ⟨i, t, hi1, ht, ne⟩
    have hSn : ∀ t f, Sn (fun i' t' => i' < i ∨ (i' = i ∧ t' < t)) f → (rs.getD i []).getD t 0 = (rs.getD (i + 1) []).getD t 0 → Sn (fun i' t' => i' < i ∨ (i' = i ∧ t' < t + 1)) f := by
      rintro t f (⟨rfl, hz⟩ | hz) e
      · refine .inl ⟨rfl, fun i' t' hP h1 h2 => ?_⟩
        rcases hP with q | ⟨rfl, q⟩
        · exact hz i' t' (.inl q) h1 h2
        · by_cases qq : t' = t
          · subst qq; exact e
          · exact hz i' t' (.inr ⟨rfl, by omega⟩) h1 h2
      · exact .inr hz
    have hSe : ∀ f, Sn (fun i' t' => i' < i ∨ (i' = i ∧ t' < m)) f → Sn (fun i' _ => i' < i + 1) f := by
      rintro f (⟨rfl, hz⟩ | hz)
      · refine .inl ⟨rfl, fun i' t' hP h1 h2 => hz i' t' ?_ h1 h2⟩
        by_cases q : i' = i
        · exact .inr ⟨q, h2⟩
        · exact .inl (by omega)
      · exact .inr hz
    have hS0 : Sn (fun i' t' => i' < i ∨ (i' = i ∧ t' < 0)) f := by
      rcases hf with ⟨e, hz⟩ | hz
      · exact .inl ⟨e, fun i' t' hP h1 h2 => hz i' t' (by rcases hP with q | ⟨_, q⟩; exact q; omega) h1 h2⟩
      · exact .inr hz
    clear hf hzn hdz
    generalize rs.getD i [] = ri at *
    generalize rs.getD (i + 1) [] = rj at *
    simp [-List.map_map, -List.getD_eq_getElem?_getD, hen, rowD]
    refine wp_forR (fun t ρ S' => ∃ (f : List Int) (x5 x6 x7 x8 x9 x10 x11 : Option D), ρ = [some (ktD rs), some o, some (tI f), some (tI ri), some (tI rj), x5, x6, x7, x8, x9, x10, x11] ∧ S = S' ∧ Sn (fun i' t' => i' < i ∨ (i' = i ∧ t' < t)) f) ⟨f, x5, x6, x7, x8, x9, x10, x11, rfl, rfl, hS0⟩ ?_ ?_
    · rintro t ρ S' ht ⟨f, x5, x6, x7, x8, x9, x10, x11, rfl, rfl, hf⟩
      have e1 := ixR rj t k2.1 ht
      have e2 := ixR _ t kq1.1 ht
      have e3 := ixR _ t kq2.1 ht
      have dd := dfr t ht
      have hdf := hdf t ht
      have hSn := hSn t f hf
      have c1 : (ri.getD t 0).natAbs ≤ 1000000 := by rw [getD_g (by rw [k1.1]; exact ht)]; exact k1.2 _ (List.getElem_mem _)
      have c2 : (rj.getD t 0).natAbs ≤ 1000000 := by rw [getD_g (by rw [k2.1]; exact ht)]; exact k2.2 _ (List.getElem_mem _)
      have c3 : ((qs.getD (rs.idxOf ri) []).getD t 0).natAbs ≤ 1000000 := by rw [getD_g (by rw [kq1.1]; exact ht)]; exact kq1.2 _ (List.getElem_mem _)
      have c4 : ((qs.getD (rs.idxOf rj) []).getD t 0).natAbs ≤ 1000000 := by rw [getD_g (by rw [kq2.1]; exact ht)]; exact kq2.2 _ (List.getElem_mem _)
      generalize qs.getD (rs.idxOf ri) [] = qi at *
      generalize qs.getD (rs.idxOf rj) [] = qj at *
      generalize rs.idxOf ri = ii at *
      generalize rs.idxOf rj = jj at *
      generalize ri.getD t 0 = u at *
      generalize rj.getD t 0 = v at *
      generalize qi.getD t 0 = p at *
      generalize qj.getD t 0 = q at *
      by_cases huv : u = v
      · simp [-List.map_map, -List.getD_eq_getElem?_getD, e1, huv]
        exact ⟨f, rfl, hSn huv⟩
      · have hp2 := hpr S ((p - q).natAbs : Nat) ((u - v).natAbs : Nat) (natAbs_pow (a := 22) (by simp; omega) (by decide)) (natAbs_pow (a := 22) (by simp; omega) (by decide)) (by omega)
        rw [dd huv] at hp2
        have ab : ∀ z : Int, (if z < 0 then -z else z) = (z.natAbs : Int) := abs_nat
        simp [-List.map_map, -List.getD_eq_getElem?_getD, e1, huv, t1, t2, ho, g1, g2, e2, e3, rowD, ab, sz]
        have hp3 : f__law_primitive_k28 [.tup [.int ((p - q).natAbs : Nat), .int ((u - v).natAbs : Nat)]] S = .ok (.tup ((fracL (dvL m qs) (dvL m rs)).map D.int)) S := hp2
        simp [-List.map_map, hp3]
        exact ⟨fracL (dvL m qs) (dvL m rs), rfl, .inr ⟨rfl, hdf huv⟩⟩
    · rintro ρ S' ⟨f, x5, x6, x7, x8, x9, x10, x11, rfl, rfl, hf⟩
      exact ⟨f, ⟨_, _, _, _, _, _, _, _, _, rfl⟩, rfl, hSe f hf⟩
  · rintro ρ S' ⟨f, x3, x4, x5, x6, x7, x8, x9, x10, x11, rfl, rfl, hf⟩
    have hf2 : f = tbL m rs qs := hend f (by
      rcases hf with ⟨e, hz⟩ | hz
      · exact .inl ⟨e, fun i t _ h1 h2 => hz i t (by omega) h1 h2⟩
      · exact .inr hz)
    rw [etb] at hf2
    subst hf2
    rw [etb]
    have hz : zipL ((rs.getD 0 []).map D.int) ((qs.getD 0 []).map D.int) = rg m fun t => D.tup [.int ((rs.getD 0 []).getD t 0), .int ((qs.getD 0 []).getD t 0)] := by
      rw [mapD_rg r0.1, mapD_rg q0.1, zipL_rg]
    let fR : Nat → List Int := fun t => fracL ((qs.getD 0 []).getD t 0 * y - (rs.getD 0 []).getD t 0 * x) y
    have hrv : rowV m rs qs [x, y] = rg m fR := rfl
    rw [hrv]
    simp [-List.map_map, -List.getD_eq_getElem?_getD, i0, j0, sz, ho, rowD, hz]
    refine wp_forR (fun t ρ S' => ∃ x3 x4 x5 x6 x7 x8 x9 x11 : Option D, ρ = [some (ktD rs), some o, some (tI [x, y]), x3, x4, x5, x6, x7, x8, x9, some (.ref S.length), x11] ∧ S' = S ++ [.lst true ((rg t fR).map tI)]) ⟨x3, x4, x5, x6, x7, x8, x9, x11, rfl, rfl⟩ ?_ ?_
    · rintro t ρ S' ht ⟨x3, x4, x5, x6, x7, x8, x9, x11, rfl, rfl⟩
      have c1 := atD h hr1 ht
      have c2 := atD h' hq1 ht
      have hat : (S ++ [Cell.lst true ((rg t fR).map tI)])[S.length]? = some (.lst true ((rg t fR).map tI)) := by simp
      have hap := appC_of hat (y := tI (fR t)) (by simp; omega) (by simp)
      have hset : (S ++ [Cell.lst true ((rg t fR).map tI)]).set S.length (.lst true ((rg t fR).map tI ++ [tI (fR t)])) = S ++ [.lst true ((rg (t + 1) fR).map tI)] := by rw [rg_succ]; simp
      rw [hset] at hap
      replace hap : appC (.ref S.length) (tI (fracL ((qs.getD 0 []).getD t 0 * y - (rs.getD 0 []).getD t 0 * x) y)) (S ++ [Cell.lst true ((rg t fR).map tI)]) = .ok .non (S ++ [.lst true ((rg (t + 1) fR).map tI)]) := hap
      generalize S ++ [Cell.lst true ((rg t fR).map tI)] = S1 at *
      generalize S ++ [Cell.lst true ((rg (t + 1) fR).map tI)] = S2 at *
      generalize (rs.getD 0 []).getD t 0 = u at *
      generalize (qs.getD 0 []).getD t 0 = v at *
      have m1 := fun S => mul_ok (S := S) (Fk.mulOk_of (i := v) (j := y) 21 22 (by omega) (by omega) (by decide))
      have m3 := fun S => mul_ok (S := S) (Fk.mulOk_of (i := u) (j := x) 21 22 (by omega) (by omega) (by decide))
      have hbig : (v * y - u * x).natAbs < 2 ^ 2000 := natAbs_pow (a := 60) (row_big c1 c2 hxb hyb) (by decide)
      have hp := hpr S1 (v * y - u * x) y hbig (hb hyb) (by omega)
      generalize fracL (v * y - u * x) y = fr at *
      have at1 : atI [D.int x, D.int y] 1 = some (.int y) := rfl
      simp [-List.map_map, -List.getD_eq_getElem?_getD, isL_of hat, m1, m3, sz, hp, hap, at1]
    · rintro ρ S' ⟨x3, x4, x5, x6, x7, x8, x9, x11, rfl, rfl⟩
      have ht : tupD [.ref S.length] (S ++ [Cell.lst true ((rg m fR).map tI)]) = some (.tup ((rg m fR).map tI)) := tupD_of (b := true) (by simp)
      have hcl : ∀ N, closedA N ((rg m fR).map tI) = true := fun N => closedA_mem.mpr fun x hx => by obtain ⟨i, _, rfl⟩ := List.mem_map.mp hx; simp
      generalize (rg m fR).map tI = row at *
      simp [-List.map_map, ht, sz]
      exact gcQ_cl (by simp [closed, closedA, hcl]) ⟨rfl, by simp⟩
end
end Pl
end
set_option maxHeartbeats 4000000
set_option exponentiation.threshold 3000
noncomputable section
namespace Pl
open PySem PySem.Spec PyProof.Rows L2 Fk Sm Sp DB
variable {n m w : Nat} {T S : Store} {E : EX}
theorem tupK_lst {rs : List (List Int)} (h : rs ≠ []) : tupKD [.lst (rs.map rowD)] S = some (ktD rs) := by
  cases rs with
  | nil => exact absurd rfl h
  | cons r rs => rfl
theorem tupK_of {k : Nat} {b : Bool} {rs : List (List Int)} (hk : S[k]? = some (.lst b (rs.map rowD))) (h : rs ≠ []) : tupKD [.ref k] S = some (ktD rs) := by
  have e : dr S (.ref k) = .lst (rs.map rowD) := by rw [dr_ref, hk]; rfl
  unfold tupKD
  simp only [e]
  cases rs with
  | nil => exact absurd rfl h
  | cons r rs => rfl
theorem mulK_of {rs : List (List Int)} {k : Nat} (h : rs ≠ []) (hk : 2 ≤ k ∧ k ≤ 1000) (hl : rs.length ≤ 1000) : mulKD (mD rs) (.int (k : Int)) S = some (ktD (List.replicate k rs).flatten) := by
  cases rs with
  | nil => exact absurd rfl h
  | cons r rs =>
    show (if _ then _ else _) = _
    have hl' : (rs.map rowD).length < 1000 := by simp at hl ⊢; omega
    rw [if_pos ⟨by omega, by omega, hl'⟩]
    simp [ktD, List.map_flatten]
    rfl
theorem menuK (h : Dk n T S) (most : Int) (hm : 1 ≤ most ∧ most ≤ 20) (hn : n ≤ 10 ^ 10) : (f__law_menu_k33 [.ref 1, .int most] S).wp (fun r S' => ∃ (m : Nat) (rs : List (List Int)), Mn m rs ∧ rs.length ≤ most ∧ r = ktD rs ∧ Dk (n + 1000) T S') E := by
  unfold f__law_menu_k33
  rw [wp_fnD]
  simp [g__law_menu_k33, startD]
  refine (draw h (by omega) (by decide) (by decide +kernel)).no fun r S1 ⟨d, e, d0, d1, hB⟩ => ?_
  subst e
  obtain ⟨m, rfl⟩ : ∃ m : Nat, d = m := ⟨d.toNat, by omega⟩
  simp [sz]
  have hB1 := hB.put [.lst true []]
  refine (one_far hB1 (by omega)).no fun r S2 ⟨far, e, f0, f1, hB2⟩ => ?_
  subst e
  simp
  refine (draw (m := most) hB2 (by omega) (by omega) (log2_of 9 (by decide) (by omega) (by omega))).no fun r S3 ⟨q, e, q0, q1, hB3⟩ => ?_
  subst e
  obtain ⟨k, rfl⟩ : ∃ k : Nat, q = k := ⟨q.toNat, by omega⟩
  have hl1 : List.length S1 = T.length + 2 := hB.len
  simp [okR]
  have hcl : ∀ is : List Int, ∀ N, closed N (rowD is) = true := fun is N => by simp [rowD]
  let RF : List Int → Prop := fun is => is.length = 2 + m ∧ ∀ i ∈ is, -far ≤ i ∧ i ≤ far
  refine ⟨by omega, wp_forL (fun xs ρ S => ∃ (rs : List (List Int)) (x y z w : Option D), ρ = [some (.ref 1), some (.int most), some (.int (2 + (m : Int))), some (.ref (T.length + 2)), some (.int far), x, y, z, w] ∧ rs.length + xs.length = 1 + k ∧ (∀ is ∈ rs, RF is) ∧ Dk (n + 3 + 30 * rs.length) (T ++ [.lst true (rs.map rowD)]) S) ⟨[], none, none, none, none, by simp [hl1], by simp [rng]; omega, by simp, by simpa using hB3⟩ ?_ ?_⟩
  · rintro x xs ρ S ⟨rs, y1, y2, y3, y4, rfl, hl, hb, hB⟩
    simp only [List.length_cons] at hl
    have hc : S[T.length + 2]? = some (.lst true (rs.map rowD)) := by rw [hB.at]; simp
    have hdr : ∀ m S', Dk m (T ++ [.lst true (rs.map rowD)]) S' → dr S' (.ref (T.length + 2)) = .lst (rs.map rowD) := fun m S' hB' => by
      rw [dr_ref, hB'.at]
      simp [drc]
    have hil : ∀ m S', Dk m (T ++ [.lst true (rs.map rowD)]) S' → isL S' (.ref (T.length + 2)) = true := fun m S' hB' => isL_of (b := true) (xs := rs.map rowD) (by rw [hB'.at]; simp)
    have fin : ∀ (is : List Int) (S' : Store) (m' : Nat), m' ≤ n + 3 + 30 * (rs.length + 1) → Dk m' (T ++ [.lst true (rs.map rowD)]) S' → RF is →
        ∃ S'', appC (.ref (T.length + 2)) (rowD is) S' = .ok .non S'' ∧ ∃ rs' : List (List Int), rs'.length + xs.length = 1 + k ∧ (∀ is ∈ rs', RF is) ∧ Dk (n + 3 + 30 * rs'.length) (T ++ [.lst true (rs'.map rowD)]) S'' := fun is S' m' hm' hB' his => by
      refine ⟨_, appC_of (xs := rs.map rowD) (by rw [hB'.at]; simp) (by simp; omega) (hcl _ _), rs ++ [is], by simp; omega, ?_, ?_⟩
      · intro js hj
        rcases List.mem_append.mp hj with hj | hj
        · exact hb js hj
        · simp at hj; subst hj; exact his
      · have q := (hB'.set T.length (.lst true ((rs ++ [is]).map rowD))).mono (m := n + 3 + 30 * (rs ++ [is]).length) (by simp; omega)
        simpa using q
    have hne := ne_rows (d := .ref (T.length + 2)) (hdr _ _ hB) rfl
    -- a row of marks
    have useRow : ∀ (S' : Store) (m' : Nat), m' ≤ n + 3 + 30 * rs.length + 5 → Dk m' (T ++ [.lst true (rs.map rowD)]) S' →
        ((sExp (eApp (eVar 3) (eOps tupD (aCons (frz (lComp (itR1 (aCons (eVar 2) aNil)) (gN 8) sYes (eCall f__law_mark_k28 [] (aCons (eVar 0) (aCons (eVar 4) aNil))) [8])) aNil)))) [some (.ref 1), some (.int most), some (.int (2 + (m : Int))), some (.ref (T.length + 2)), some (.int far), some x, y2, y3, y4] S').wp
          ⟨fun ρ S'' => ∃ (rs' : List (List Int)) (x y z w : Option D), ρ = [some (.ref 1), some (.int most), some (.int (2 + (m : Int))), some (.ref (T.length + 2)), some (.int far), x, y, z, w] ∧ rs'.length + xs.length = 1 + k ∧ (∀ is ∈ rs', RF is) ∧ Dk (n + 3 + 30 * rs'.length) (T ++ [.lst true (rs'.map rowD)]) S'', fun _ _ => False, fun _ _ => False, fun _ _ => False, fun _ _ _ _ => False⟩ := fun S' m' hm' hB' => by
      simp [hil _ _ hB', okR]
      refine ⟨by omega, wp_compGo (fun ys acc S => ∃ is : List Int, acc = is.map D.int ∧ is.length + ys.length = 2 + m ∧ (∀ i ∈ is, -far ≤ i ∧ i ≤ far) ∧ Dk (m' + 3 * is.length) (T ++ [.lst true (rs.map rowD)]) S) ⟨[], rfl, by simp [rng]; omega, by simp, by simpa using hB'⟩ ?_ ?_⟩
      · rintro y ys acc S ⟨is, rfl, hl, hb, hB⟩
        simp only [List.length_cons] at hl
        simp [wipeD, sYes]
        refine (mark hB (by omega) far ⟨f0, f1⟩).no fun r S' ⟨i, e, i0, i1, hB'⟩ => ?_
        subst e
        refine ⟨by simp [sz]; omega, is ++ [i], by simp, by simp; omega, ?_, hB'.mono (by simp; omega)⟩
        intro j hj
        rcases List.mem_append.mp hj with hj | hj
        · exact hb j hj
        · simp at hj; subst hj; exact ⟨i0, i1⟩
      · rintro acc S ⟨is, rfl, hl, hb, hB⟩
        simp at hl
        simp
        obtain ⟨S3, e3, h3⟩ := fin is S _ (by omega) hB ⟨hl, hb⟩
        have e3' : appC (.ref (T.length + 2)) (.tup (is.map D.int)) S = .ok .non S3 := e3
        rw [e3']
        simpa using h3
    by_cases hrs : rs = []
    · simp [-wp_sExp, hne, hrs, sz]
      refine wpS_mono (useRow S _ (by omega) hB) ?_ ?_ ?_ ?_ ?_
      · rintro ρ S' h
        simpa using h
      · simp
      · simp
      · simp
      · simp
    · simp [-wp_sExp, hne, hrs, sz]
      refine (draw hB (by omega) (by decide) (by decide +kernel)).no fun r S4 ⟨d, e, d0, d1, hB4⟩ => ?_
      subst e
      by_cases hd : d = 0
      · simp [hd]
        refine (mixed (m := 2 + m) (far := far) hB4 (by omega) hdr hrs (by omega) (by omega) hb).no fun r S5 ⟨js, e, hj, hB5⟩ => ?_
        subst e
        simp [hil _ _ hB5, rowD]
        rw [comp_ints fun i : Int => if i > -far then i else -far]
        · generalize hz : (js.map fun i : Int => if i > -far then i else -far) = zs
          simp
          obtain ⟨S3, e3, h3⟩ := fin zs S5 _ (by omega) hB5 ⟨by rw [← hz]; simpa using hj.1, fun i hi => by
            rw [← hz] at hi
            obtain ⟨j, hj2, rfl⟩ := List.mem_map.mp hi
            have := hj.2 j hj2
            split <;> omega⟩
          have e3' : appC (.ref (T.length + 2)) (.tup (zs.map D.int)) S5 = .ok .non S3 := e3
          rw [e3']
          simpa using h3
        · intro i _
          exact eq_of_wp (by simp [wipeD, sYes])
        · rw [hj.1]; omega
      · simp [-wp_sExp, hd]
        refine wpS_mono (useRow S4 _ (by omega) hB4) ?_ ?_ ?_ ?_ ?_
        · rintro ρ S' h
          simpa using h
        · simp
        · simp
        · simp
        · simp
  · rintro ρ S ⟨rs, y1, y2, y3, y4, rfl, hl, hb, hB⟩
    simp at hl
    have hne0 : rs ≠ [] := by intro z; subst z; simp at hl; omega
    have ht : tupKD [.ref (T.length + 2)] S = some (.ktp (rs.map rowD)) := tupK_of (b := true) (by rw [hB.at]; simp) hne0
    simp [ht]
    refine gcQ_cl ?_ ⟨2 + m, rs, ⟨by omega, by omega, by intro z; subst z; simp at hl; omega, fun is his => ⟨(hb is his).1, fun i hi => ?_⟩, by omega⟩, by omega, rfl, (hB.mono (by omega)).take h.len⟩
    · simp [closedA_mem, rowD]
    · have := (hb is his).2 i hi
      omega
theorem setC_k {S : Store} {n k : Nat} {xs : List D} {y : D} (h : S[n]? = some (.lst true xs)) (hk : k < xs.length) (hc : closed n y = true) : setC (.ref n) (.int k) y S = some (S.set n (.lst true (xs.set k y))) := by
  unfold setC
  rw [cellAt_of h]
  simp only [hc, if_true, ixN]
  rw [if_pos (by omega), if_pos (by omega)]
  simp
theorem cut1 {rs : List (List Int)} {i : Nat} : Fk.cutD (rs.map rowD) none (some (i : Int)) = (rs.take i).map rowD := by rw [cutD_take, List.map_take]
theorem cut2 {rs : List (List Int)} {i : Nat} : Fk.cutD (rs.map rowD) (some (i : Int)) none = (rs.drop i).map rowD := by rw [cutD_drop, List.map_drop]
theorem bent {rs : List (List Int)} (h : Dk n T S) (hn : n ≤ 10 ^ 10) (hM : Mn m rs) : (f__law_bent_k33 [.ref 1, mD rs] S).wp (fun r S' => ∃ qs : List (List Int), Mn m qs ∧ qs.length = rs.length ∧ r = mD qs ∧ Dk (n + 2) T S') E := by
  have m2 := hM.m2
  have m4 := hM.m4
  have hr1 : 0 < rs.length := List.length_pos_iff.mpr hM.ne
  have hlen := hM.len
  have i0 : atI (rs.map rowD) 0 = some (rowD (rs.getD 0 [])) := by rw [show (0 : Int) = ((0 : Nat) : Int) from rfl, Fk.atI_nat]; simp [hr1]
  have l0 : ∀ S, lenD [rowD (rs.getD 0 [])] S = some (.int (m : Int)) := fun S => by
    show some (D.int _) = _
    simp [-List.getD_eq_getElem?_getD, rowD, (hM.row _ (getD_mem hr1)).1]
  unfold f__law_bent_k33
  rw [wp_fnD]
  simp [-List.map_map, -List.getD_eq_getElem?_getD, g__law_bent_k33, startD, i0, l0]
  refine (draw (m := (rs.length : Int)) h (by omega) (by omega) (log2_len (by omega))).no fun r S1 ⟨a, e, a0, a1, hB1⟩ => ?_
  subst e
  obtain ⟨a, rfl⟩ : ∃ k : Nat, a = k := ⟨a.toNat, by omega⟩
  simp [-List.map_map, -List.getD_eq_getElem?_getD, i0, l0]
  refine (draw (m := (m : Int)) hB1 (by omega) (by omega) (log2_len (by omega))).no fun r S2 ⟨b, e, b0, b1, hB2⟩ => ?_
  subst e
  obtain ⟨b, rfl⟩ : ∃ k : Nat, b = k := ⟨b.toNat, by omega⟩
  have ha : a < rs.length := by omega
  have hb : b < m := by omega
  have hrow := hM.row _ (getD_mem ha)
  have ixa : atI (rs.map rowD) (a : Int) = some (rowD (rs.getD a [])) := by rw [Fk.atI_nat]; simp [ha]
  have hl2 : List.length S2 = T.length + 2 := hB2.len
  generalize hra : rs.getD a [] = ra at *
  have hB3 := hB2.put [.lst true (ra.map D.int)]
  have hat : (S2 ++ [Cell.lst true (ra.map D.int)])[T.length + 2]? = some (.lst true (ra.map D.int)) := by rw [hB3.at]; simp
  have hix : atI (ra.map D.int) (b : Int) = some (.int (ra.getD b 0)) := by rw [Fk.atI_nat]; simp [show b < ra.length by rw [hrow.1]; exact hb]
  have hop : opIx (.ref (T.length + 2)) (.int (b : Int)) (S2 ++ [Cell.lst true (ra.map D.int)]) = some (.int (ra.getD b 0)) := by
    unfold opIx
    rw [dr_ref, hat]
    exact hix
  -- the row with one mark otherwise
  have fin : ∀ v : Int, v.natAbs ≤ 1000000 → ∃ S4 : Store, setC (.ref (T.length + 2)) (.int (b : Int)) (.int v) (S2 ++ [Cell.lst true (ra.map D.int)]) = some S4 ∧ tupD [.ref (T.length + 2)] S4 = some (rowD (ra.set b v)) ∧ Dk (n + 2) T (S4.take (T.length + 2)) ∧ Mn m (rs.take a ++ [ra.set b v] ++ rs.drop (a + 1)) := fun v hv => by
    refine ⟨_, setC_k hat (by simp [hrow.1]; exact hb) (by simp), ?_, ?_, ?_⟩
    · have hB4 := hB3.set T.length (.lst true ((ra.map D.int).set b (.int v)))
      have := tupD_of (b := true) (S := (S2 ++ [Cell.lst true (ra.map D.int)]).set (T.length + 2) (.lst true ((ra.map D.int).set b (.int v)))) (n := T.length + 2) (xs := (ra.map D.int).set b (.int v)) (by rw [hB4.at]; simp)
      rw [this]
      simp [rowD, List.map_set]
    · have hB4 := (hB3.set T.length (.lst true ((ra.map D.int).set b (.int v)))).mono (m := n + 2) (by omega)
      have : (T ++ [Cell.lst true (ra.map D.int)]).set T.length (.lst true ((ra.map D.int).set b (.int v))) = T ++ [.lst true ((ra.map D.int).set b (.int v))] := by simp
      rw [this] at hB4
      exact hB4.take rfl
    · refine ⟨m2, m4, by simp, fun is his => ?_, by simp; omega⟩
      simp only [List.mem_append, List.mem_singleton] at his
      rcases his with (q | rfl) | q
      · exact hM.row _ (List.mem_of_mem_take q)
      · refine ⟨by simp [hrow.1], fun i hi => ?_⟩
        rcases List.mem_or_eq_of_mem_set hi with q | rfl
        · exact hrow.2 _ q
        · omega
      · exact hM.row _ (List.mem_of_mem_drop q)
  have hcv : (ra.getD b 0).natAbs ≤ 1000000 := by
    rw [getD_g (by rw [hrow.1]; exact hb)]
    exact hrow.2 _ (List.getElem_mem _)
  have hil : isL (S2 ++ [Cell.lst true (ra.map D.int)]) (.ref (T.length + 2)) = true := isL_of hat
  have c1 := cut1 (rs := rs) (i := a)
  have c2 := cut2 (rs := rs) (i := a + 1)
  have c2' : Fk.cutD (rs.map rowD) (some ((a : Int) + 1)) none = (rs.drop (a + 1)).map rowD := c2
  have hcl : ∀ (l : List (List Int)) N, closedA N (l.map rowD) = true := fun l N => closedA_mem.mpr fun x hx => by obtain ⟨i, _, rfl⟩ := List.mem_map.mp hx; exact closed_row _ _
  have hlq : ∀ v, (rs.take a ++ [ra.set b v] ++ rs.drop (a + 1)).length = rs.length := fun v => by simp; omega
  have hls : S.length = T.length + 2 := h.len
  have ok : ∀ (v : Int) (S4 : Store), Dk (n + 2) T (S4.take (T.length + 2)) → Mn m (rs.take a ++ [ra.set b v] ++ rs.drop (a + 1)) → gcQ S.length (fun r S' => ∃ qs : List (List Int), Mn m qs ∧ qs.length = rs.length ∧ r = mD qs ∧ Dk (n + 2) T S') (.tup ((rs.map rowD).take a ++ rowD (ra.set b v) :: (rs.map rowD).drop (a + 1))) S4 := fun v S4 e3 e4 => by
    have e : (.tup ((rs.map rowD).take a ++ rowD (ra.set b v) :: (rs.map rowD).drop (a + 1)) : D) = mD (rs.take a ++ [ra.set b v] ++ rs.drop (a + 1)) := by simp [mD, List.map_take, List.map_drop]
    rw [e]
    exact gcQ_cl (by rw [closed_tup]; exact hcl _ _) ⟨_, e4, hlq v, rfl, by rw [hls]; exact e3⟩
  simp [-List.map_map, -List.getD_eq_getElem?_getD, ixa, rowD, hl2, hop, powOk]
  by_cases hv : ra.getD b 0 < 1000000
  · obtain ⟨S4, e1, e2, e3, e4⟩ := fin (ra.getD b 0 + 1) (by omega)
    simp [-List.map_map, -List.getD_eq_getElem?_getD, hv, hop, e1, e2, c1, c2', sz]
    exact .inr ⟨by omega, by omega, ok _ _ e3 e4⟩
  · obtain ⟨S4, e1, e2, e3, e4⟩ := fin (ra.getD b 0 + -1) (by omega)
    simp [-List.map_map, -List.getD_eq_getElem?_getD, hv, hop, c1, c2', sz]
    refine ⟨by omega, S4, e1, _, e2, by omega, by omega, ok _ _ e3 e4⟩
/-- the marks led on -/
def led (q : Int) (ws : List Int) (r : List Int) : List Int := (r.zip ws).map fun p => q * p.1 + p.2
theorem made {rs : List (List Int)} (h : Dk n T S) (hn : n ≤ 10 ^ 10) (hM : Mn m rs) (h8 : rs.length ≤ 8) : (f__law_made_k33x [.ref 1, ktD rs] S).wp (fun r S' => ∃ qs : List (List Int), Mn m qs ∧ qs.length = rs.length ∧ r = ktD qs ∧ Dk (n + 10) T S') E := by
  have m2 := hM.m2
  have m4 := hM.m4
  have hr1 : 0 < rs.length := List.length_pos_iff.mpr hM.ne
  have i0 : atI (rs.map rowD) 0 = some (rowD (rs.getD 0 [])) := by rw [show (0 : Int) = ((0 : Nat) : Int) from rfl, Fk.atI_nat]; simp [hr1]
  have hr0 := (hM.row _ (getD_mem hr1)).1
  unfold f__law_made_k33x
  rw [wp_fnD]
  simp [-List.map_map, -List.getD_eq_getElem?_getD, g__law_made_k33x, startD]
  refine (draw (m := 9) h (by omega) (by omega) (by decide +kernel)).no fun r S1 ⟨q, e, q0, q1, hB1⟩ => ?_
  subst e
  generalize rs.getD 0 [] = r0 at *
  simp [-List.map_map, -List.getD_eq_getElem?_getD, i0, rowD, sz]
  refine wp_compGo (fun ys acc S => ∃ is : List Int, acc = is.map D.int ∧ is.length + ys.length = m ∧ (∀ i ∈ is, i.natAbs ≤ 20) ∧ Dk (n + 1 + is.length) T S) ⟨[], rfl, by simp [hr0], by simp, by simpa using hB1⟩ ?_ ?_
  · rintro y ys acc S2 ⟨is, rfl, hl, hb, hB⟩
    simp only [List.length_cons] at hl
    simp [wipeD, sYes]
    refine (draw (m := 41) hB (by omega) (by omega) (by decide +kernel)).no fun r S' ⟨i, e, i0, i1, hB'⟩ => ?_
    subst e
    simp [sz]
    refine ⟨by omega, is ++ [i - 20], by simp, by simp; omega, ?_, hB'.mono (by simp; omega)⟩
    intro j hj
    rcases List.mem_append.mp hj with hj | hj
    · exact hb j hj
    · simp at hj; subst hj; omega
  · rintro acc S2 ⟨ws, rfl, hl, hb, hB⟩
    simp at hl
    have hq : (1 + q).natAbs ≤ 9 := by omega
    have hlen : ∀ r ∈ rs, (led (1 + q) ws r).length = m := fun r hr => by simp [led, (hM.row r hr).1, hl]
    have hbig : ∀ r ∈ rs, ∀ i ∈ led (1 + q) ws r, i.natAbs < 2 ^ 2000 := fun r hr i hi => by
      obtain ⟨p, hp, rfl⟩ := List.mem_map.mp hi
      obtain ⟨h1, h2⟩ := List.of_mem_zip hp
      have b1 := (hM.row r hr).2 _ h1
      have b2 := hb _ h2
      have e1 := Int.natAbs_add_le ((1 + q) * p.1) p.2
      rw [Int.natAbs_mul] at e1
      have e2 := Nat.mul_le_mul hq (show p.1.natAbs ≤ 1000000 by omega)
      exact natAbs_pow (a := 60) (by omega) (by decide)
    have hc1 : ∀ (ρ : Fk.Env) S, 8 < ρ.length → ρ[2]? = some (some (.int (1 + q))) → ρ[3]? = some (some (lI ws)) → compGo (compStep (gN 6) sYes (eOps tupD (aCons (frz (lComp (itZip (aCons (eVar 6) (aCons (eVar 3) aNil))) (gT [gN 7, gN 8]) sYes (eBin opAddA (eBin opMulA (eVar 2) (eVar 7)) (eVar 8)) [7, 8])) aNil)) ρ) (rs.map rowD) [] S = .ok ((rs.map (led (1 + q) ws)).map rowD) S := fun ρ S h1 h2 h3 => by
      refine comp_enc (enc := rowD) (enc' := rowD) (led (1 + q) ws) (fun r hr => ?_) (by omega)
      have hr' := hM.row r hr
      refine eq_of_wp ?_
      simp [-List.map_map, -List.getD_eq_getElem?_getD, sYes, rowD, show 6 < ρ.length by omega, h3]
      rw [comp_ints fun p : Int × Int => (1 + q) * p.1 + p.2]
      · have e : (r.zip ws).map (fun p : Int × Int => (1 + q) * p.1 + p.2) = led (1 + q) ws r := rfl
        rw [e]
        generalize led (1 + q) ws r = rr
        simp [-List.map_map]
      · rintro ⟨a, b⟩ hp
        obtain ⟨z1, z2⟩ := List.of_mem_zip hp
        have b1 : a.natAbs ≤ 1000000 := by have := hr'.2 a z1; omega
        have m1 := fun S => mul_ok (S := S) (Fk.mulOk_of (i := 1 + q) (j := a) 21 22 (by omega) (by omega) (by decide))
        refine eq_of_wp ?_
        simp [wipeD, sYes, h1, h2, show 7 < ρ.length by omega, m1]
      · simp; omega
    generalize hfs : rs.map (led (1 + q) ws) = fs at *
    have hfl : fs.length = rs.length := by rw [← hfs]; simp
    have hfm : ∀ r ∈ fs, r.length = m ∧ r ≠ [] := fun r hr => by
      rw [← hfs] at hr
      obtain ⟨r', hr', rfl⟩ := List.mem_map.mp hr
      exact ⟨hlen r' hr', fun z => by have := hlen r' hr'; rw [z] at this; simp at this; omega⟩
    have hc2 : ∀ (ρ : Fk.Env) S, 6 < ρ.length → compGo (compStep (gN 6) (sOr (tOfE (eBin opGt (eCall f__law_most [] (aCons (eVar 6) aNil)) (eBin opPow (eC (.int 10)) (eC (.int 6))))) (tOfE (eBin opLt (eCall f__law_least_k30 [] (aCons (eVar 6) aNil)) (eUn opNeg (eBin opPow (eC (.int 10)) (eC (.int 6))))))) (eVar 6) ρ) (fs.map rowD) [] S = .ok ((fs.filter fun r => decide (maxL r > 1000000) || decide (minL r < -1000000)).map rowD) S := fun ρ S h1 => by
      refine comp_filter (enc := rowD) (h := rowD) (p := fun r => decide (maxL r > 1000000) || decide (minL r < -1000000)) (fun r hr => ?_) (by omega)
      obtain ⟨z1, z2⟩ := hfm r hr
      have g1 := fun S => law_most (S := S) (d := rowD r) (ns := r) rfl z2 (by omega)
      have g2 := fun S => law_least30 (S := S) (d := rowD r) (ns := r) rfl z2 (by omega)
      refine eq_of_wp ?_
      simp [-Bool.exists_bool, -List.map_map, h1, g1, g2, powOk]
      by_cases q1 : 1000000 < maxL r
      · simp [q1, h1]
      · by_cases q2 : minL r < -1000000
        · simp [q1, q2, h1, g2, powOk]
        · simp [q1, q2, h1, g2, powOk]
    have hne := fun S => ne_rows (S := S) (d := .lst ((fs.filter fun r => decide (maxL r > 1000000) || decide (minL r < -1000000)).map rowD)) (rs := fs.filter fun r => decide (maxL r > 1000000) || decide (minL r < -1000000)) rfl rfl
    have hcl : ∀ (l : List (List Int)) N, closedA N (l.map rowD) = true := fun l N => closedA_mem.mpr fun x hx => by obtain ⟨i, _, rfl⟩ := List.mem_map.mp hx; exact closed_row _ _
    have hff : fs.filter (fun r => decide (maxL r > 1000000) || decide (minL r < -1000000)) = [] → Mn m fs := fun z => by
      refine ⟨m2, m4, by intro y; subst y; simp at hfl; omega, fun r hr => ⟨(hfm r hr).1, fun i hi => ?_⟩, by omega⟩
      have hz := List.filter_eq_nil_iff.mp z r hr
      simp at hz
      have g1 : i ≤ maxL r := maxL_le hi
      have g2 : minL r ≤ i := minL_le hi
      omega
    have htk := fun S (z : Mn m fs) => tupK_lst (S := S) z.ne
    simp [-List.map_map, -List.getD_eq_getElem?_getD, sz]
    rw [hc1 _ _ (by simp [wipeD]) (by simp [wipeD]) (by simp [wipeD])]
    simp [-List.map_map, -List.getD_eq_getElem?_getD, sz]
    rw [hc2 _ _ (by simp [wipeD])]
    generalize fs.filter (fun r => decide (maxL r > 1000000) || decide (minL r < -1000000)) = gs at *
    by_cases hg : gs = []
    · have z := hff hg
      have htk := fun S => htk S z
      subst hg
      simp [-List.map_map, htk, sz]
      exact ⟨_, hne S2, .inl ⟨rfl, gcQ_cl (by rw [closed_ktp]; exact hcl _ _) ⟨fs, z, hfl, rfl, (hB.mono (by omega)).take0 h.len⟩⟩⟩
    · have : gs.isEmpty = false := by cases gs; exact absurd rfl hg; rfl
      simp [-List.map_map, hne, this, sz]
      exact gcQ_cl (by rw [closed_ktp]; exact hcl _ _) ⟨rs, hM, rfl, rfl, (hB.mono (by omega)).take0 h.len⟩
end Pl
end
set_option maxHeartbeats 4000000
set_option exponentiation.threshold 3000
noncomputable section
namespace Pl
open PySem PySem.Spec PyProof.Rows L2 Fk Sm Sp DB
variable {n m w : Nat} {T S : Store} {E : EX}
theorem gd_ints {k : Nat} : ∀ {ns : List Int}, (∀ i ∈ ns, i.natAbs < 2 ^ 100) → GdA 200 (104 * ns.length) k (ns.map D.int)
  | [], _ => GdA.nil
  | i :: ns, h => by
    have h1 := (Gd.int (b := 100) (w := 102) (k := k) (by decide) (h i (by simp)) (by decide)).bits (b' := 200) (by decide)
    exact (GdA.cons h1 (gd_ints fun j hj => h j (by simp [hj]))).mono (by simp; omega) (Nat.le_refl _)
theorem gd_rows {k : Nat} : ∀ {rs : List (List Int)}, (∀ r ∈ rs, r.length ≤ 4 ∧ ∀ i ∈ r, i.natAbs < 2 ^ 100) → GdA 200 (430 * rs.length) (k + 1) (rs.map tI)
  | [], _ => GdA.nil
  | r :: rs, h => by
    have hr := h r (by simp)
    have h1 := (gd_ints (k := k) hr.2).tup
    exact (GdA.cons h1 (gd_rows fun j hj => h j (by simp [hj]))).mono (by simp; omega) (Nat.le_refl _)
theorem pl_mw {rs : List (List Int)} (h : Mn m rs) (h8 : rs.length ≤ 8) : Mw m (plL m rs) := by
  have W := Mw.of h h8
  refine ⟨h.m2, h.m4, pl_ne W, fun r hr => ?_, by rw [pl_len]; exact h8⟩
  obtain ⟨q, hq, rfl⟩ := List.mem_map.mp hr
  have h1 := ab_row h q hq
  refine ⟨by simpa using h1.1, fun i hi => ?_⟩
  obtain ⟨j, hj, rfl⟩ := List.mem_map.mp hi
  have h2 := h1.2 j hj
  have a1 := Int.ediv_nonneg h2.1 (Int.le_of_lt (dv_pos (m := m) (rs := rs)))
  have a2 := Int.ediv_le_self (dvL m rs) h2.1
  omega
theorem gd_pl {k : Nat} {rs : List (List Int)} (h : Mw m rs) : Gd 200 4000 (k + 2) (mD (plL m rs)) := by
  have h8 := h.len
  have := (gd_rows (k := k) (rs := plL m rs) fun r hr => ⟨by rw [(pl_row h r hr).1]; exact h.m4, fun i hi => natAbs_pow (a := 30) (by have := (pl_row h r hr).2 i hi; omega) (by decide)⟩).tup
  exact this.mono (by rw [pl_len]; omega) (Nat.le_refl _)
theorem frac_len (a b : Int) : (fracL a b).length = 2 := rfl
theorem frac_bit {a b : Int} {k : Nat} (ha : a.natAbs < 2 ^ k) (hb : b.natAbs < 2 ^ k) : ∀ i ∈ fracL a b, i.natAbs < 2 ^ k := by
  intro i hi
  simp [fracL] at hi
  rcases hi with rfl | rfl
  · exact Nat.lt_of_le_of_lt (Int.natAbs_ediv_le_natAbs _ _) ha
  · exact Nat.lt_of_le_of_lt (Int.natAbs_ediv_le_natAbs _ _) hb
theorem gd_like {k : Nat} {rs qs : List (List Int)} (h : Mn m rs) (h' : Mn m qs) : Gd 200 4000 (k + 3) (likeV m rs qs) := by
  have m4 := h.m4
  unfold likeV
  split
  · next c =>
    obtain ⟨x, y, etb, hy0, hxb, hyb⟩ := tb_two h h'
    rw [etb]
    have hr1 : 0 < rs.length := List.length_pos_iff.mpr h.ne
    have hq1 : 0 < qs.length := List.length_pos_iff.mpr h'.ne
    have g1 : Gd 200 300 (k + 2) (tI [x, y]) := ((gd_ints (k := k + 1) (ns := [x, y]) (by
      intro i hi
      simp at hi
      rcases hi with rfl | rfl
      · exact natAbs_pow (a := 22) (by omega) (by decide)
      · exact natAbs_pow (a := 22) (by omega) (by decide))).tup).mono (by simp) (Nat.le_refl _)
    have g2 : Gd 200 1800 (k + 2) (.tup ((rowV m rs qs [x, y]).map tI)) := ((gd_rows (k := k) (rs := rowV m rs qs [x, y]) (fun r hr => by
      obtain ⟨t, ht, rfl⟩ := List.mem_map.mp hr
      have ht : t < m := by simpa using ht
      refine ⟨by rw [frac_len]; decide, frac_bit ?_ ?_⟩
      · exact natAbs_pow (a := 60) (row_big (atD h hr1 ht) (atD h' hq1 ht) hxb hyb) (by decide)
      · exact natAbs_pow (a := 22) (by show y.natAbs < _; omega) (by decide))).tup).mono (by simp [rowV]; omega) (Nat.le_refl _)
    exact ((GdA.cons g1 (GdA.one g2)).tup).mono (by decide) (Nat.le_refl _)
  · exact (gdB_ok (by decide) : Gd 200 10 0 .non).mono (by decide) (by omega)
theorem gd_str {k : Nat} {s : Str} (hs : wt (.str s) ≤ 100) : Gd 200 100 k (.str s) := ⟨by simp [Fk.plain], hs, by simp [dep]⟩
theorem gd_two {k : Nat} {x y : D} (hx : Gd 200 5000 k x) (hy : Gd 200 5000 k y) : Gd 200 11000 (k + 1) (.lst [x, y]) := ((GdA.cons hx (GdA.one hy)).lst).mono (by decide) (Nat.le_refl _)
/-- what is told of two menus is what is due -/
theorem same {k : Nat} {rs qs : List (List Int)} {o : D} (h : Mn m rs) (h' : Mn k qs) (h8 : rs.length ≤ 8) (h8' : qs.length ≤ 8) (ho : wkD o = mD qs) :
    ∃ v, (∀ S, f__law_told_k33 [mD rs, mD qs] S = .ok v S) ∧ (∀ S, f__law_due_k33x [ktD rs, o] S = .ok v S) ∧ ∃ t, ∀ S, reprD [v] S = some (.str t) := by
  by_cases e : m = k
  · subst e
    refine ⟨_, fun S => told h h' h8 h8', fun S => due h h' h8 h8' ho, ?_⟩
    have g := gd_two (gd_str (k := 3) (s := "ok") (by decide +kernel) |>.mono (by decide) (Nat.le_refl _)) ((gd_like (k := 0) h h').mono (w' := 5000) (by decide) (Nat.le_refl _))
    exact ⟨_, fun S => g.repr⟩
  · refine ⟨_, fun S => told_un h h' e, fun S => due_un ho h h' e, ?_⟩
    have g := (GdA.one (gd_str (k := 0) (s := "unlike") (by decide +kernel))).lst
    exact ⟨_, fun S => g.repr⟩
structure Me (m : Nat) (rs : List (List Int)) : Prop where
  mn : Mn m rs
  l8 : rs.length ≤ 8
theorem Me.rep {rs : List (List Int)} (h : Me m rs) {k : Nat} (h1 : 1 ≤ k) (h3 : k ≤ 3) : Me m (List.replicate k (rs.take 1)).flatten := by
  have hne := h.mn.ne
  obtain ⟨r, rest, rfl⟩ : ∃ r rest, rs = r :: rest := by
    cases rs with
    | nil => exact absurd rfl hne
    | cons r rest => exact ⟨r, rest, rfl⟩
  have e : (List.replicate k ((r :: rest).take 1)).flatten = List.replicate k r := by simp [List.flatten_replicate_singleton]
  rw [e]
  refine ⟨⟨h.mn.m2, h.mn.m4, by intro z; have := congrArg List.length z; simp at this; omega, fun is his => ?_, by simp; omega⟩, by simp; omega⟩
  rw [List.eq_of_mem_replicate his]
  exact h.mn.row r (by simp)
theorem Me.sub {rs qs : List (List Int)} (h : Me m rs) (hne : qs ≠ []) (hl : qs.length ≤ 8) (hs : ∀ q ∈ qs, q ∈ rs) : Me m qs := ⟨⟨h.mn.m2, h.mn.m4, hne, fun is his => h.mn.row is (hs is his), by omega⟩, hl⟩
/-- a pair of menus, the first one's object known -/
def Pa (d : D) : Prop := ∃ (m k : Nat) (rs qs : List (List Int)) (o : D), d = .tup [ktD rs, o] ∧ wkD o = mD qs ∧ Me m rs ∧ Me k qs ∧ ∀ N, closed N o = true
theorem cl_rows (l : List (List Int)) (N : Nat) : closedA N (l.map rowD) = true := closedA_mem.mpr fun x hx => by
  obtain ⟨i, _, rfl⟩ := List.mem_map.mp hx
  exact closed_row _ _
theorem pa_k {k : Nat} {rs qs : List (List Int)} (h : Me m rs) (h' : Me k qs) : Pa (.tup [ktD rs, ktD qs]) := ⟨m, k, rs, qs, ktD qs, rfl, rfl, h, h', fun N => by rw [closed_ktp]; exact cl_rows _ _⟩
theorem pa_m {k : Nat} {rs qs : List (List Int)} (h : Me m rs) (h' : Me k qs) : Pa (.tup [ktD rs, mD qs]) := ⟨m, k, rs, qs, mD qs, rfl, rfl, h, h', fun N => by rw [closed_tup]; exact cl_rows _ _⟩
theorem Pa.cl {d : D} (h : Pa d) (N : Nat) : closed N d = true := by
  obtain ⟨m, k, rs, qs, o, rfl, _, _, _, ho⟩ := h
  simp [ho, cl_rows]
end Pl
end
set_option maxHeartbeats 4000000
set_option exponentiation.threshold 3000
noncomputable section
namespace K33
open PySem PySem.Spec PyProof.Rows L2 Fk Sm Sp DB Pl
variable {n : Nat} {T S : Store} {E : EX}
theorem mul3 {r : List Int} {S : Store} : opMulA (.tup [rowD r]) (.int 3) S = some (mD (List.replicate 3 r)) := by
  rw [mulT_ok ⟨by simp, by decide, by decide, by simp⟩]
  rfl
theorem mul2L {x : D} {S : Store} : opMulA (.lst [x]) (.int 2) S = some (.lst [x, x]) := mulL [x] 2 S ⟨by decide, by decide, by simp⟩
theorem law_ok (ns : List Int) (hl : ns.length ≤ 63) : (f_law_k33x [.scr (ns.map D.int)] []).wp (fun r _ => r = .bl true) fun _ _ _ => False := by
  unfold f_law_k33x
  rw [wp_fnD]
  simp [g_law_k33x, startD]
  refine (deck ns hl).no fun r S1 ⟨e, hB1⟩ => ?_
  subst e
  simp [okR]
  refine wp_forL (fun xs ρ S => ∃ (T : Store) (x2 x3 x4 x5 x6 x7 x8 : Option D), ρ = [some (.scr (ns.map D.int)), some (.ref 1), x2, x3, x4, x5, x6, x7, x8] ∧ xs.length ≤ 6 ∧ Dk (5000 * (6 - xs.length)) T S) ⟨[], none, none, none, none, none, none, none, rfl, by simp [rng], by simpa [rng] using hB1⟩ ?_ ?_
  · rintro xk xs ρ S ⟨T, x2, x3, x4, x5, x6, x7, x8, rfl, hxl, hB⟩
    simp only [List.length_cons] at hxl
    generalize hq : 5000 * (6 - (xk :: xs).length) = q at hB
    simp only [List.length_cons] at hq
    have hq2 : q + 5000 = 5000 * (6 - xs.length) := by omega
    have hq3 : q ≤ 30000 := by omega
    simp
    refine (menuK hB 8 (by decide) (by omega)).no fun r S2 ⟨m, rs, hM, h8, e, hB2⟩ => ?_
    subst e
    simp
    refine (menuK hB2 4 (by decide) (by omega)).no fun r S3 ⟨k, us, hU, h4, e, hB3⟩ => ?_
    subst e
    simp
    refine (made hB3 (by omega) hM (by omega)).no fun r S4 ⟨qs, hQ, hql, e, hB4⟩ => ?_
    subst e
    have mR : Me m rs := ⟨hM, by omega⟩
    have mU : Me k us := ⟨hU, by omega⟩
    have mQ : Me m qs := ⟨hQ, by omega⟩
    obtain ⟨r0, rr, hrs⟩ : ∃ r0 rr, rs = r0 :: rr := by
      cases rs with
      | nil => exact absurd rfl hM.ne
      | cons a b => exact ⟨a, b, rfl⟩
    have c1 : Fk.cutD (rs.map rowD) none (some 1) = [rowD r0] := by
      have := cut1 (rs := rs) (i := 1)
      rw [hrs] at this ⊢
      exact this
    have m3 : Me m (List.replicate 3 r0) := by
      have := mR.rep (k := 3) (by decide) (by decide)
      rw [hrs] at this
      exact this
    simp [-List.map_map, c1, mul3, sz]
    refine wp_forL (fun xs ρ S' => ∃ x6 : Option D, (∀ x ∈ xs, ∃ (m : Nat) (rs : List (List Int)), x = mD rs ∧ Me m rs) ∧ ρ = [some (.scr (ns.map D.int)), some (.ref 1), some xk, some (ktD rs), some (ktD us), some (ktD qs), x6, x7, x8] ∧ S4 = S') ⟨x6, ?_, rfl, rfl⟩ ?_ ?_
    · intro x hx
      simp only [List.mem_cons, List.not_mem_nil, or_false] at hx
      rcases hx with rfl | rfl | rfl | rfl
      · exact ⟨_, _, rfl, mR⟩
      · exact ⟨_, _, rfl, mQ⟩
      · exact ⟨_, _, rfl, mU⟩
      · exact ⟨_, _, rfl, m3⟩
    · rintro x xs ρ S' ⟨y6, hx, rfl, rfl⟩
      obtain ⟨m1, p, rfl, hp⟩ := hx x (by simp)
      have W := Mw.of hp.mn hp.l8
      have W2 := pl_mw hp.mn hp.l8
      have e1 := fun S => plainW (S := S) W
      have e2 := fun S => plainW (S := S) W2
      rw [pl_pl W] at e2
      have e3 := fun S => law_plain (S := S) W
      have g := (gd_pl (k := 1) W).mono (w' := 5000) (by decide) (Nat.le_refl _)
      have g2 := gd_two g g
      generalize mD (plL m1 p) = pd at *
      simp [-List.map_map, e1, e2, e3, sz, mul2L, g2.repr]
      exact fun y hy => hx y (by simp [hy])
    rintro ρ S' ⟨y6, _, rfl, rfl⟩
    simp [-List.map_map, sz]
    refine (bent hB4 (by omega) hQ).no fun r S5 ⟨bs, hBn, hbl, e, hB5⟩ => ?_
    subst e
    have mB : Me m bs := ⟨hBn, by omega⟩
    have mRev : Me m qs.reverse := mQ.sub (by simpa using hQ.ne) (by simp; exact mQ.l8) (fun q hq => by simpa using hq)
    have erev : (qs.map rowD).reverse = qs.reverse.map rowD := by rw [List.map_reverse]
    simp [-List.map_map, -List.map_reverse, sz, erev]
    refine ⟨by simp [-List.map_reverse, cl_rows], ?_⟩
    have hL1 : ∀ d ∈ ([.tup [ktD rs, ktD qs], .tup [ktD qs, ktD rs], .tup [ktD rs, ktD rs], .tup [ktD rs, mD bs], .tup [ktD rs, .tup (qs.reverse.map rowD)]] : List D), Pa d := fun d hd => by
      simp only [List.mem_cons, List.not_mem_nil, or_false] at hd
      rcases hd with rfl | rfl | rfl | rfl | rfl
      · exact pa_k mR mQ
      · exact pa_k mQ mR
      · exact pa_k mR mR
      · exact pa_m mR mB
      · exact pa_m mR mRev
    have hn1 : ([.tup [ktD rs, ktD qs], .tup [ktD qs, ktD rs], .tup [ktD rs, ktD rs], .tup [ktD rs, mD bs], .tup [ktD rs, .tup (qs.reverse.map rowD)]] : List D).length = 5 := rfl
    generalize ([.tup [ktD rs, ktD qs], .tup [ktD qs, ktD rs], .tup [ktD rs, ktD rs], .tup [ktD rs, mD bs], .tup [ktD rs, .tup (qs.reverse.map rowD)]] : List D) = L1 at *
    have hB6 := hB5.put [.lst true L1]
    have hl5 : S5.length = T.length + 2 := hB5.len
    refine (made hB6 (by omega) hM (by omega)).no fun r S7 ⟨q2, hQ2, hql2, e, hB7⟩ => ?_
    subst e
    have mQ2 : Me m q2 := ⟨hQ2, by omega⟩
    have hat7 : S7[S5.length]? = some (.lst true L1) := by rw [hl5, hB7.at]; simp
    have hdl : (qs.map rowD).take (qs.length - 1) ++ [rowD r0] = (qs.take (qs.length - 1) ++ [r0]).map rowD := by rw [List.map_append, List.map_take]; rfl
    have hcut : Fk.cutD (qs.map rowD) none (some (-1)) = (qs.map rowD).take (qs.length - 1) := by
      have h1 : 0 < qs.length := List.length_pos_iff.mpr hQ.ne
      unfold Fk.cutD
      simp [-List.map_take, HT.sIx]
      omega
    have mDl : Me m (qs.take (qs.length - 1) ++ [r0]) := by
      have hr0 := hM.row r0 (by rw [hrs]; simp)
      have := mQ.l8
      refine ⟨⟨hM.m2, hM.m4, by simp, fun is his => ?_, by simp; omega⟩, by simp; omega⟩
      rcases List.mem_append.mp his with z | z
      · exact hQ.row _ (List.mem_of_mem_take z)
      · simp at z; subst z; exact hr0
    have hcat : ∀ (ys : List D), ys.length ≤ 100 → opCatL (.ref S5.length) (.lst ys) S7 = some (L1 ++ ys) := fun ys hy => catL_of (b := true) hat7 (by omega)
    simp [-List.map_map, -List.map_append, -List.map_take, sz, c1, hcut, hdl, hcat]
    refine ⟨by have := mQ.l8; omega, ?_⟩
    have hL2 : ∀ d ∈ L1 ++ ([.tup [ktD qs, ktD q2], .tup [ktD rs, .tup ((qs.take (qs.length - 1) ++ [r0]).map rowD)], .tup [ktD rs, ktD us]] : List D), Pa d := fun d hd => by
      rcases List.mem_append.mp hd with hd | hd
      · exact hL1 d hd
      simp only [List.mem_cons, List.not_mem_nil, or_false] at hd
      rcases hd with rfl | rfl | rfl
      · exact pa_k mQ mQ2
      · exact pa_m mR mDl
      · exact pa_k mR mU
    have hn2 : (L1 ++ ([.tup [ktD qs, ktD q2], .tup [ktD rs, .tup ((qs.take (qs.length - 1) ++ [r0]).map rowD)], .tup [ktD rs, ktD us]] : List D)).length = 8 := by simp [hn1]
    generalize L1 ++ ([.tup [ktD qs, ktD q2], .tup [ktD rs, .tup ((qs.take (qs.length - 1) ++ [r0]).map rowD)], .tup [ktD rs, ktD us]] : List D) = L2 at *
    have pcl : ∀ {L : List D} N, (∀ d ∈ L, Pa d) → closedA N L = true := fun N h => closedA_mem.mpr fun x hx => (h x hx).cl N
    have hat8 : (S7 ++ [Cell.lst true L2])[S7.length]? = some (.lst true L2) := by simp
    have hap := appC_of hat8 (y := .tup [ktD us, ktD qs]) (by omega) ((pa_k mU mQ).cl _)
    have hset : (S7 ++ [Cell.lst true L2]).set S7.length (.lst true (L2 ++ [.tup [ktD us, ktD qs]])) = S7 ++ [.lst true (L2 ++ [.tup [ktD us, ktD qs]])] := by simp
    rw [hset] at hap
    have hL3 : ∀ d ∈ L2 ++ ([.tup [ktD us, ktD qs]] : List D), Pa d := fun d hd => by
      rcases List.mem_append.mp hd with hd | hd
      · exact hL2 d hd
      · simp only [List.mem_cons, List.not_mem_nil, or_false] at hd
        subst hd
        exact pa_k mU mQ
    have hn3 : (L2 ++ ([.tup [ktD us, ktD qs]] : List D)).length = 9 := by simp [hn2]
    refine ⟨pcl _ hL2, isL_of hat8, ?_⟩
    rw [hap]
    generalize L2 ++ ([.tup [ktD us, ktD qs]] : List D) = L3 at *
    obtain ⟨t0, tt, hqs⟩ : ∃ t0 tt, qs = t0 :: tt := by
      cases qs with
      | nil => exact absurd rfl hQ.ne
      | cons a b => exact ⟨a, b, rfl⟩
    have c2 : Fk.cutD (qs.map rowD) none (some 1) = [rowD t0] := by
      have := cut1 (rs := qs) (i := 1)
      rw [hqs] at this ⊢
      exact this
    have c3 : Fk.cutD (qs.map rowD) none (some 2) = (qs.take 2).map rowD := cut1 (rs := qs) (i := 2)
    have mk : ∀ (r : List Int) (k : Nat) S, 2 ≤ k ∧ k ≤ 1000 → mulKD (.tup [rowD r]) (.int (k : Int)) S = some (ktD (List.replicate k r)) := fun r k S hk => by
      have := mulK_of (S := S) (rs := [r]) (k := k) (by simp) hk (by simp)
      rw [List.flatten_replicate_singleton] at this
      exact this
    have mk3 : ∀ r S, mulKD (.tup [rowD r]) (.int 3) S = some (ktD (List.replicate 3 r)) := fun r S => mk r 3 S (by decide)
    have mk2 : ∀ r S, mulKD (.tup [rowD r]) (.int 2) S = some (ktD (List.replicate 2 r)) := fun r S => mk r 2 S (by decide)
    have hcat3 : ∀ (ys : List D), ys.length ≤ 100 → opCatL (.ref S7.length) (.lst ys) (S7 ++ [.lst true L3]) = some (L3 ++ ys) := fun ys hy => catL_of (b := true) (by simp) (by omega)
    simp [-List.map_map, -List.map_append, -List.map_take, -List.replicate_succ, sz, c1, c2, c3, mk3, mk2, hcat3]
    have hL4 : ∀ d ∈ L3 ++ ([.tup [ktD [r0, r0, r0], ktD [t0, t0, t0]], .tup [ktD [r0, r0], ktD [r0, r0, r0]], .tup [ktD [r0, r0], .tup ((qs.take 2).map rowD)]] : List D), Pa d := fun d hd => by
      rcases List.mem_append.mp hd with hd | hd
      · exact hL3 d hd
      have n3 : Me m [t0, t0, t0] := by
        have := mQ.rep (k := 3) (by decide) (by decide)
        rw [hqs] at this
        exact this
      have m2 : Me m [r0, r0] := by
        have := mR.rep (k := 2) (by decide) (by decide)
        rw [hrs] at this
        exact this
      have n2 : Me m (qs.take 2) := mQ.sub (by rw [hqs]; simp) (by simp; omega) (fun q hq => List.mem_of_mem_take hq)
      simp only [List.mem_cons, List.not_mem_nil, or_false] at hd
      rcases hd with rfl | rfl | rfl
      · exact pa_k m3 n3
      · exact pa_k m2 m3
      · exact pa_m m2 n2
    refine ⟨pcl _ hL4, ?_⟩
    have hn4 : (L3 ++ ([.tup [ktD [r0, r0, r0], ktD [t0, t0, t0]], .tup [ktD [r0, r0], ktD [r0, r0, r0]], .tup [ktD [r0, r0], .tup ((qs.take 2).map rowD)]] : List D)).length = 12 := by simp [hn3]
    generalize L3 ++ ([.tup [ktD [r0, r0, r0], ktD [t0, t0, t0]], .tup [ktD [r0, r0], ktD [r0, r0, r0]], .tup [ktD [r0, r0], .tup ((qs.take 2).map rowD)]] : List D) = L4 at *
    have hit := itOf_any (n := S7.length + 1) (b := true) (S := S7 ++ [.lst true L3]) (U := []) (xs := L4) (by simp)
    rw [List.append_assoc, List.append_assoc] at hit
    have hit' : itOf (.ref (S7.length + 1)) (S7 ++ [Cell.lst true L3, Cell.lst true L4]) = .ok L4 (S7 ++ [Cell.lst true L3, Cell.lst false L4]) := hit
    have hB9 : ∃ T', Dk (q + 5000) T' (S7 ++ [Cell.lst true L3, Cell.lst false L4]) := ⟨_, (hB7.mono (by omega)).put _⟩
    rw [hit']
    generalize S7 ++ [Cell.lst true L3, Cell.lst false L4] = S9 at *
    simp [-List.map_map]
    refine wp_forL (fun ys ρ S' => ∃ y6 y8 : Option D, (∀ y ∈ ys, Pa y) ∧ ρ = [some (.scr (ns.map D.int)), some (.ref 1), some xk, some (ktD rs), some (ktD us), some (ktD qs), y6, some (.ref (S7.length + 1)), y8] ∧ S9 = S') ⟨y6, x8, hL4, rfl, rfl⟩ ?_ ?_
    · rintro y ys ρ S' ⟨z6, z8, hy, rfl, rfl⟩
      obtain ⟨m1, k1, p1, p2, o, rfl, ho, hp1, hp2, _⟩ := hy y (by simp)
      obtain ⟨v, e1, e2, t, e3⟩ := same hp1.mn hp2.mn hp1.l8 hp2.l8 ho
      have hne := ne_mD (S := S9) (xs := p2) (ys := [])
      have hd : (!decide (p2 = [])) = true := by simp [hp2.mn.ne]
      rw [hd] at hne
      have hne' : opNeA (mD p2) (.tup []) S9 = some (.bl true) := hne
      simp [-List.map_map, ho, e1, e2, e3, hne']
      exact ⟨by simp [sz], fun y hy2 => hy y (List.mem_cons_of_mem _ hy2)⟩
    · rintro ρ S' ⟨z6, z8, _, rfl, rfl⟩
      obtain ⟨T', hB9⟩ := hB9
      rw [hq2] at hB9
      exact ⟨⟨_, _, _, _, _, _, _, rfl⟩, by omega, T', hB9⟩
  · rintro ρ S ⟨T, x2, x3, x4, x5, x6, x7, x8, rfl, _, hB⟩
    simp
    exact gcQ_cl (by simp) rfl
theorem plain : ∀ ns : List Int, ns.length ≤ 63 → (∀ z ∈ ns, Builtin.Int.intBits z ≤ 1048576) → ∃ S, f_law_k33x [.scr (ns.map D.int)] [] = .ok (.bl true) S := fun ns hl _ => by
  have h := (law_ok ns hl).run
  cases e : f_law_k33x [.scr (ns.map D.int)] [] with
  | ok d S =>
    rw [e] at h
    have h : d = .bl true := h
    exact ⟨S, by rw [h]⟩
  | exc c fs S => rw [e] at h; exact h.elim
  | stuck => rw [e] at h; exact h.elim
end K33
end
set_option maxHeartbeats 0
noncomputable section
namespace K33
open PySem PySem.Spec PyProof.Rows L2 Fk Sm
def top (i : Nat) : Stmt := PySem.Challenge.pw_frankmarks_k33_plain_and_like.main.body.getD i (.Pass ⟨0, 0, 0, 0⟩)
/-- names of the module -/
structure Gs (mg : Str → Option Value) : Prop where
  b_abs : mg "abs" = none
  b_enumerate : mg "enumerate" = none
  b_int : mg "int" = none
  b_len : mg "len" = none
  b_list : mg "list" = none
  b_max : mg "max" = none
  b_min : mg "min" = none
  b_range : mg "range" = none
  b_repr : mg "repr" = none
  b_tuple : mg "tuple" = none
  b_zip : mg "zip" = none
/-- what is known of the exceptions -/
structure Xs (P : Program) (w : World) (K : PySem.W.Frag) (mg : Str → Option Value) (base : Heap) : Prop where
  x_Unlike : Exc0 K mg "Unlike"
  tbl : TblOk K mg frTbl
  h_Unlike : HTbl K mg frTbl "Unlike"
abbrev SysM (base : Heap) : Prop := ∃ o, base.get? sysModules = some o ∧ o.cls ≠ .type "list"
section
variable {P : Program} {w : World} {K : PySem.W.Frag} {mg : Str → Option Value} {base : Heap} {f : Addr} {fd : FuncData}
theorem sc_divisor_of : FnScope ["values", "found", "value", "rest"] ["values"] (defScope (top 4)) := ⟨rfl, rfl, rfl, by decide +kernel, rfl, by decide +kernel, by decide +kernel⟩
theorem ok_divisor_of (G : Gs mg) (E : Xs P w K mg base) (B : SysM base) (F : FunD K "divisor_of" "divisor_of" (defArgs (top 4)) (defBody (top 4)) (defScope (top 4)) [] [] f fd) : FnG P w K mg base 1 f fd ["values"] (spD K mg 1 f_divisor_of) :=
  fn_ok (k := 0) F sc_divisor_of fun cdv A outer s H Ex hg hr => by
  have c := cxe_of (P := P) (w := w) (K := K) (mg := mg) (base := base) (N := ["values", "found", "value", "rest"]) (outer := outer) (H := H) (E := Ex) (k := 0) sc_divisor_of.nd hg hr B
  exact (xss_cons (xs_set c.nd rfl (by first | exact .inl rfl | exact .inr rfl) xe_int)
    (xss_cons (xs_for own_of c.calm (xi_seq (xe_var 0)) (gd_name c.nd rfl (by first | exact .inl rfl | exact .inr rfl))
   (xss_cons (xs_set c.nd rfl (by first | exact .inl rfl | exact .inr rfl) (xe_callB cx_absA rfl G.b_abs (by decide +kernel) (xa_cons (xe_var 2) xa_nil)))
    (xss_one (xs_while own_of (xt_cmp (ox_neA c.u64) (xe_var 3) xe_int rfl)
   (xss_one (xs_par c.calm c.nd rfl rfl (by decide) rfl rfl (xa_cons (xe_var 3) (xa_cons (xe_bin ox_mod (xe_var 1) (xe_var 3)) xa_nil)) rfl))))))
    (xss_one (xs_ret (xe_var 1)))))
theorem sc_primitive : FnScope ["values", "divisor", "value"] ["values"] (defScope (top 5)) := ⟨rfl, rfl, rfl, by decide +kernel, rfl, by decide +kernel, by decide +kernel⟩
theorem ok_primitive (G : Gs mg) (E : Xs P w K mg base) (B : SysM base) (h_divisor_of : Fn P w K mg base 1 "divisor_of" ["values"] [] f_divisor_of) (F : FunD K "primitive" "primitive" (defArgs (top 5)) (defBody (top 5)) (defScope (top 5)) [] [] f fd) : FnG P w K mg base 2 f fd ["values"] (spD K mg 1 f_primitive) :=
  fn_ok (k := 1) F sc_primitive fun cdv A outer s H Ex hg hr => by
  have c := cxe_of (P := P) (w := w) (K := K) (mg := mg) (base := base) (N := ["values", "divisor", "value"]) (outer := outer) (H := H) (E := Ex) (k := 1) sc_primitive.nd hg hr B
  exact (xss_cons (xs_set c.nd rfl (by first | exact .inl rfl | exact .inr rfl) (xe_fn h_divisor_of c (by decide) rfl (xa_cons (xe_var 0) xa_nil) (alen_cons alen_nil)))
    (xss_one (xs_ret (xe_callTy cx_tup rfl G.b_tuple (by decide +kernel) (xa_cons (xe_frz (xl_comp c.calm c.nd (xi_seq (xe_var 0)) (own := [("value", 2)]) (blkOk_by (by kernel_rfl)) (by decide) (fun s1 H1 C1 cl1 fp1 => (gd_name (c.blk s1 H1 _ _ fp1).nd rfl (by first | exact .inl rfl | exact .inr rfl))) (fun s1 H1 C1 cl1 fp1 => xts_nil) (fun s1 H1 C1 cl1 fp1 => (xe_bin ox_div (xe_var 2) (xe_var 1))))) xa_nil)))))
theorem sc_fraction : FnScope ["top", "bottom"] ["top", "bottom"] (defScope (top 6)) := ⟨rfl, rfl, rfl, by decide +kernel, rfl, by decide +kernel, by decide +kernel⟩
theorem ok_fraction (G : Gs mg) (E : Xs P w K mg base) (B : SysM base) (h_primitive : Fn P w K mg base 2 "primitive" ["values"] [] f_primitive) (F : FunD K "fraction" "fraction" (defArgs (top 6)) (defBody (top 6)) (defScope (top 6)) [] [] f fd) : FnG P w K mg base 3 f fd ["top", "bottom"] (spD K mg 2 f_fraction) :=
  fn_ok (k := 2) F sc_fraction fun cdv A outer s H Ex hg hr => by
  have c := cxe_of (P := P) (w := w) (K := K) (mg := mg) (base := base) (N := ["top", "bottom"]) (outer := outer) (H := H) (E := Ex) (k := 2) sc_fraction.nd hg hr B
  exact (xss_one (xs_ret (xe_fn h_primitive c (by decide) rfl (xa_cons (xe_tup (xa_cons (xe_var 0) (xa_cons (xe_var 1) xa_nil))) xa_nil) (alen_cons alen_nil))))
theorem sc_most_of : FnScope ["numbers", "number"] ["numbers"] (defScope (top 8)) := ⟨rfl, rfl, rfl, by decide +kernel, rfl, by decide +kernel, by decide +kernel⟩
theorem ok_most_of (G : Gs mg) (E : Xs P w K mg base) (B : SysM base) (F : FunD K "most_of" "most_of" (defArgs (top 8)) (defBody (top 8)) (defScope (top 8)) [] [] f fd) : FnG P w K mg base 1 f fd ["numbers"] (spD K mg 1 f_most_of) :=
  fn_ok (k := 0) F sc_most_of fun cdv A outer s H Ex hg hr => by
  have c := cxe_of (P := P) (w := w) (K := K) (mg := mg) (base := base) (N := ["numbers", "number"]) (outer := outer) (H := H) (E := Ex) (k := 0) sc_most_of.nd hg hr B
  exact (xss_one (xs_ret (xe_callB (cx_max c.calm) rfl G.b_max (by decide +kernel) (xa_cons (xe_frz (xl_comp c.calm c.nd (xi_seq (xe_var 0)) (own := [("number", 1)]) (blkOk_by (by kernel_rfl)) (by decide) (fun s1 H1 C1 cl1 fp1 => (gd_name (c.blk s1 H1 _ _ fp1).nd rfl (by first | exact .inl rfl | exact .inr rfl))) (fun s1 H1 C1 cl1 fp1 => xts_nil) (fun s1 H1 C1 cl1 fp1 => (xe_callTy cx_int rfl G.b_int (by decide +kernel) (xa_cons (xe_var 1) xa_nil))))) xa_nil))))
theorem sc_least_of : FnScope ["numbers", "number"] ["numbers"] (defScope (top 9)) := ⟨rfl, rfl, rfl, by decide +kernel, rfl, by decide +kernel, by decide +kernel⟩
theorem ok_least_of (G : Gs mg) (E : Xs P w K mg base) (B : SysM base) (F : FunD K "least_of" "least_of" (defArgs (top 9)) (defBody (top 9)) (defScope (top 9)) [] [] f fd) : FnG P w K mg base 1 f fd ["numbers"] (spD K mg 1 f_least_of) :=
  fn_ok (k := 0) F sc_least_of fun cdv A outer s H Ex hg hr => by
  have c := cxe_of (P := P) (w := w) (K := K) (mg := mg) (base := base) (N := ["numbers", "number"]) (outer := outer) (H := H) (E := Ex) (k := 0) sc_least_of.nd hg hr B
  exact (xss_one (xs_ret (xe_callB (cx_min c.calm) rfl G.b_min (by decide +kernel) (xa_cons (xe_frz (xl_comp c.calm c.nd (xi_seq (xe_var 0)) (own := [("number", 1)]) (blkOk_by (by kernel_rfl)) (by decide) (fun s1 H1 C1 cl1 fp1 => (gd_name (c.blk s1 H1 _ _ fp1).nd rfl (by first | exact .inl rfl | exact .inr rfl))) (fun s1 H1 C1 cl1 fp1 => xts_nil) (fun s1 H1 C1 cl1 fp1 => (xe_callTy cx_int rfl G.b_int (by decide +kernel) (xa_cons (xe_var 1) xa_nil))))) xa_nil))))
theorem sc_tops_of : FnScope ["menu", "answer", "row"] ["menu"] (defScope (top 10)) := ⟨rfl, rfl, rfl, by decide +kernel, rfl, by decide +kernel, by decide +kernel⟩
theorem ok_tops_of (G : Gs mg) (E : Xs P w K mg base) (B : SysM base) (h_most_of : Fn P w K mg base 1 "most_of" ["numbers"] [] f_most_of) (F : FunD K "tops_of" "tops_of" (defArgs (top 10)) (defBody (top 10)) (defScope (top 10)) [] [] f fd) : FnG P w K mg base 2 f fd ["menu"] (spD K mg 1 f_tops_of) :=
  fn_ok (k := 1) F sc_tops_of fun cdv A outer s H Ex hg hr => by
  have c := cxe_of (P := P) (w := w) (K := K) (mg := mg) (base := base) (N := ["menu", "answer", "row"]) (outer := outer) (H := H) (E := Ex) (k := 1) sc_tops_of.nd hg hr B
  exact (xss_one (xs_ret (xe_callTy cx_tup rfl G.b_tuple (by decide +kernel) (xa_cons (xe_frz (xl_comp c.calm c.nd (xi_range1 rfl G.b_range (xa_cons (xe_callB cx_len rfl G.b_len (by decide +kernel) (xa_cons (xe_ix (xe_var 0) xe_int fun _ _ => rfl) xa_nil)) xa_nil)) (own := [("answer", 1)]) (blkOk_by (by kernel_rfl)) (by decide) (fun s1 H1 C1 cl1 fp1 => (gd_name (c.blk s1 H1 _ _ fp1).nd rfl (by first | exact .inl rfl | exact .inr rfl))) (fun s1 H1 C1 cl1 fp1 => xts_nil) (fun s1 H1 C1 cl1 fp1 => (xe_fn h_most_of (c.blk s1 H1 _ _ fp1) (by decide) rfl (xa_cons (xe_frz (xl_comp (c.blk s1 H1 _ _ fp1).calm (c.blk s1 H1 _ _ fp1).nd (xi_seq (xe_var 0)) (own := [("row", 2)]) (blkOk_by (by kernel_rfl)) (by decide) (fun s2 H2 C2 cl2 fp2 => (gd_name ((c.blk s1 H1 _ _ fp1).blk s2 H2 _ _ fp2).nd rfl (by first | exact .inl rfl | exact .inr rfl))) (fun s2 H2 C2 cl2 fp2 => xts_nil) (fun s2 H2 C2 cl2 fp2 => (xe_ix (xe_var 2) (xe_var 1) fun _ _ => rfl)))) xa_nil) (alen_cons alen_nil))))) xa_nil))))
theorem sc_plain : FnScope ["menu", "least", "rows", "divisor", "answer", "row", "mark", "low"] ["menu"] (defScope (top 11)) := ⟨rfl, rfl, rfl, by decide +kernel, rfl, by decide +kernel, by decide +kernel⟩
theorem ok_plain (G : Gs mg) (E : Xs P w K mg base) (B : SysM base) (h_divisor_of : Fn P w K mg base 1 "divisor_of" ["values"] [] f_divisor_of) (h_least_of : Fn P w K mg base 1 "least_of" ["numbers"] [] f_least_of) (F : FunD K "plain" "plain" (defArgs (top 11)) (defBody (top 11)) (defScope (top 11)) [] [] f fd) : FnG P w K mg base 2 f fd ["menu"] (spD K mg 1 f_plain) :=
  fn_ok (k := 1) F sc_plain fun cdv A outer s H Ex hg hr => by
  have c := cxe_of (P := P) (w := w) (K := K) (mg := mg) (base := base) (N := ["menu", "least", "rows", "divisor", "answer", "row", "mark", "low"]) (outer := outer) (H := H) (E := Ex) (k := 1) sc_plain.nd hg hr B
  exact (xss_cons (xs_set c.nd rfl (by first | exact .inl rfl | exact .inr rfl) (xe_frz (xl_comp c.calm c.nd (xi_range1 rfl G.b_range (xa_cons (xe_callB cx_len rfl G.b_len (by decide +kernel) (xa_cons (xe_ix (xe_var 0) xe_int fun _ _ => rfl) xa_nil)) xa_nil)) (own := [("answer", 4)]) (blkOk_by (by kernel_rfl)) (by decide) (fun s1 H1 C1 cl1 fp1 => (gd_name (c.blk s1 H1 _ _ fp1).nd rfl (by first | exact .inl rfl | exact .inr rfl))) (fun s1 H1 C1 cl1 fp1 => xts_nil) (fun s1 H1 C1 cl1 fp1 => (xe_fn h_least_of (c.blk s1 H1 _ _ fp1) (by decide) rfl (xa_cons (xe_frz (xl_comp (c.blk s1 H1 _ _ fp1).calm (c.blk s1 H1 _ _ fp1).nd (xi_seq (xe_var 0)) (own := [("row", 5)]) (blkOk_by (by kernel_rfl)) (by decide) (fun s2 H2 C2 cl2 fp2 => (gd_name ((c.blk s1 H1 _ _ fp1).blk s2 H2 _ _ fp2).nd rfl (by first | exact .inl rfl | exact .inr rfl))) (fun s2 H2 C2 cl2 fp2 => xts_nil) (fun s2 H2 C2 cl2 fp2 => (xe_ix (xe_var 5) (xe_var 4) fun _ _ => rfl)))) xa_nil) (alen_cons alen_nil))))))
    (xss_cons (xs_setLF c.calm c.nd rfl rfl rfl (xi_seq (xe_var 0)) (own := [("row", 5)]) (blkOk_by (by kernel_rfl)) (by decide) (fun s1 H1 C1 cl1 fp1 => (gd_name (c.blk s1 H1 _ _ fp1).nd rfl (by first | exact .inl rfl | exact .inr rfl))) (fun s1 H1 C1 cl1 fp1 => xts_nil) (fun s1 H1 C1 cl1 fp1 => (xe_callTy cx_tup rfl G.b_tuple (by decide +kernel) (xa_cons (xe_frz (xl_comp (c.blk s1 H1 _ _ fp1).calm (c.blk s1 H1 _ _ fp1).nd (xi_zip rfl G.b_zip (xa_cons (xe_var 5) (xa_cons (xe_var 1) xa_nil))) (own := [("mark", 6), ("low", 7)]) (blkOk_by (by kernel_rfl)) (by decide) (fun s2 H2 C2 cl2 fp2 => (gd_tup ((c.blk s1 H1 _ _ fp1).blk s2 H2 _ _ fp2).calm (gds_cons (gd_name ((c.blk s1 H1 _ _ fp1).blk s2 H2 _ _ fp2).nd rfl (by first | exact .inl rfl | exact .inr rfl)) (gds_cons (gd_name ((c.blk s1 H1 _ _ fp1).blk s2 H2 _ _ fp2).nd rfl (by first | exact .inl rfl | exact .inr rfl)) gds_nil)))) (fun s2 H2 C2 cl2 fp2 => xts_nil) (fun s2 H2 C2 cl2 fp2 => (xe_bin ox_subA (xe_var 6) (xe_var 7))))) xa_nil))))
    (xss_cons (xs_set c.nd rfl (by first | exact .inl rfl | exact .inr rfl) (xe_callB (cx_max c.calm) rfl G.b_max (by decide +kernel) (xa_cons xe_int (xa_cons (xe_fn h_divisor_of c (by decide) rfl (xa_cons (xe_frz (xl_comp2 c.calm c.nd (xi_seq (xe_var 2)) (own := [("row", 5), ("mark", 6)]) (blkOk_by (by kernel_rfl)) (by decide) (fun _ h => h) (by decide) (fun s1 H1 C1 cl1 fp1 => (gd_name (c.blk s1 H1 _ _ fp1).nd rfl (by first | exact .inl rfl | exact .inr rfl))) (fun s1 H1 C1 cl1 fp1 => xts_nil) (fun s1 H1 C1 cl1 fp1 => (xi_seq (xe_var 5))) (fun s1 H1 C1 cl1 fp1 => (gd_name (c.blk s1 H1 _ _ fp1).nd rfl (by first | exact .inl rfl | exact .inr rfl))) (fun s1 H1 C1 cl1 fp1 => xts_nil) (fun s1 H1 C1 cl1 fp1 => (xe_var 6)))) xa_nil) (alen_cons alen_nil)) xa_nil))))
    (xss_one (xs_ret (xe_callTy cx_tup rfl G.b_tuple (by decide +kernel) (xa_cons (xe_frz (xl_comp c.calm c.nd (xi_seq (xe_var 2)) (own := [("row", 5)]) (blkOk_by (by kernel_rfl)) (by decide) (fun s1 H1 C1 cl1 fp1 => (gd_name (c.blk s1 H1 _ _ fp1).nd rfl (by first | exact .inl rfl | exact .inr rfl))) (fun s1 H1 C1 cl1 fp1 => xts_nil) (fun s1 H1 C1 cl1 fp1 => (xe_callTy cx_tup rfl G.b_tuple (by decide +kernel) (xa_cons (xe_frz (xl_comp (c.blk s1 H1 _ _ fp1).calm (c.blk s1 H1 _ _ fp1).nd (xi_seq (xe_var 5)) (own := [("mark", 6)]) (blkOk_by (by kernel_rfl)) (by decide) (fun s2 H2 C2 cl2 fp2 => (gd_name ((c.blk s1 H1 _ _ fp1).blk s2 H2 _ _ fp2).nd rfl (by first | exact .inl rfl | exact .inr rfl))) (fun s2 H2 C2 cl2 fp2 => xts_nil) (fun s2 H2 C2 cl2 fp2 => (xe_bin ox_div (xe_var 6) (xe_var 3))))) xa_nil))))) xa_nil)))))))
theorem sc_most_apart : FnScope ["menu", "gaps", "answer", "top", "row"] ["menu"] (defScope (top 12)) := ⟨rfl, rfl, rfl, by decide +kernel, rfl, by decide +kernel, by decide +kernel⟩
theorem ok_most_apart (G : Gs mg) (E : Xs P w K mg base) (B : SysM base) (h_least_of : Fn P w K mg base 1 "least_of" ["numbers"] [] f_least_of) (h_most_of : Fn P w K mg base 1 "most_of" ["numbers"] [] f_most_of) (h_tops_of : Fn P w K mg base 2 "tops_of" ["menu"] [] f_tops_of) (F : FunD K "most_apart" "most_apart" (defArgs (top 12)) (defBody (top 12)) (defScope (top 12)) [] [] f fd) : FnG P w K mg base 3 f fd ["menu"] (spD K mg 1 f_most_apart) :=
  fn_ok (k := 2) F sc_most_apart fun cdv A outer s H Ex hg hr => by
  have c := cxe_of (P := P) (w := w) (K := K) (mg := mg) (base := base) (N := ["menu", "gaps", "answer", "top", "row"]) (outer := outer) (H := H) (E := Ex) (k := 2) sc_most_apart.nd hg hr B
  exact (xss_cons (xs_set c.nd rfl (by first | exact .inl rfl | exact .inr rfl) (xe_cell (xl_disp xa_nil)))
    (xss_cons (xs_for own_of c.calm (xi_enum rfl G.b_enumerate (xa_cons (xe_fn h_tops_of c (by decide) rfl (xa_cons (xe_var 0) xa_nil) (alen_cons alen_nil)) xa_nil)) (gd_tup c.calm (gds_cons (gd_name c.nd rfl (by first | exact .inl rfl | exact .inr rfl)) (gds_cons (gd_name c.nd rfl (by first | exact .inl rfl | exact .inr rfl)) gds_nil)))
   (xss_one (xs_expr (xe_app (xe_var 1) (xe_bin ox_subA (xe_var 3) (xe_fn h_least_of c (by decide) rfl (xa_cons (xe_frz (xl_comp c.calm c.nd (xi_seq (xe_var 0)) (own := [("row", 4)]) (blkOk_by (by kernel_rfl)) (by decide) (fun s1 H1 C1 cl1 fp1 => (gd_name (c.blk s1 H1 _ _ fp1).nd rfl (by first | exact .inl rfl | exact .inr rfl))) (fun s1 H1 C1 cl1 fp1 => xts_nil) (fun s1 H1 C1 cl1 fp1 => (xe_ix (xe_var 4) (xe_var 2) fun _ _ => rfl)))) xa_nil) (alen_cons alen_nil)))))))
    (xss_one (xs_ret (xe_fn h_most_of c (by decide) rfl (xa_cons (xe_var 1) xa_nil) (alen_cons alen_nil))))))
theorem sc_like : FnScope ["one", "other", "top", "bottom", "row", "own", "mark"] ["one", "other"] (defScope (top 13)) := ⟨rfl, rfl, rfl, by decide +kernel, rfl, by decide +kernel, by decide +kernel⟩
theorem ok_like (G : Gs mg) (E : Xs P w K mg base) (B : SysM base) (h_fraction : Fn P w K mg base 3 "fraction" ["top", "bottom"] [] f_fraction) (h_most_apart : Fn P w K mg base 3 "most_apart" ["menu"] [] f_most_apart) (h_plain : Fn P w K mg base 2 "plain" ["menu"] [] f_plain) (F : FunD K "like" "like" (defArgs (top 13)) (defBody (top 13)) (defScope (top 13)) [] [] f fd) : FnG P w K mg base 4 f fd ["one", "other"] (spD K mg 2 f_like) :=
  fn_ok (k := 3) F sc_like fun cdv A outer s H Ex hg hr => by
  have c := cxe_of (P := P) (w := w) (K := K) (mg := mg) (base := base) (N := ["one", "other", "top", "bottom", "row", "own", "mark"]) (outer := outer) (H := H) (E := Ex) (k := 3) sc_like.nd hg hr B
  exact (xss_cons (xs_if (xt_cmp (ox_neA c.u64) (xe_callB cx_len rfl G.b_len (by decide +kernel) (xa_cons (xe_ix (xe_var 0) xe_int fun _ _ => rfl) xa_nil)) (xe_callB cx_len rfl G.b_len (by decide +kernel) (xa_cons (xe_ix (xe_var 1) xe_int fun _ _ => rfl) xa_nil)) rfl) (xss_one (xs_raise0 c E.x_Unlike rfl)) xss_nil)
    (xss_cons (xs_if (xt_w (xw_or (xt_cmp (ox_neA c.u64) (xe_callB cx_len rfl G.b_len (by decide +kernel) (xa_cons (xe_var 0) xa_nil)) (xe_callB cx_len rfl G.b_len (by decide +kernel) (xa_cons (xe_var 1) xa_nil)) rfl) (xw_or1 (xt_cmp (ox_neA c.u64) (xe_fn h_plain c (by decide) rfl (xa_cons (xe_var 0) xa_nil) (alen_cons alen_nil)) (xe_fn h_plain c (by decide) rfl (xa_cons (xe_var 1) xa_nil) (alen_cons alen_nil)) rfl)))) (xss_one (xs_ret xe_non)) xss_nil)
    (xss_cons (xs_asgT (xe_tup (xa_cons xe_int (xa_cons xe_int xa_nil))) (gd_tup c.calm (gds_cons (gd_name c.nd rfl (by first | exact .inl rfl | exact .inr rfl)) (gds_cons (gd_name c.nd rfl (by first | exact .inl rfl | exact .inr rfl)) gds_nil))))
    (xss_cons (xs_if (xt_cmp ox_gt (xe_fn h_most_apart c (by decide) rfl (xa_cons (xe_var 0) xa_nil) (alen_cons alen_nil)) xe_int rfl) (xss_one (xs_asgT (xe_fn h_fraction c (by decide) rfl (xa_cons (xe_fn h_most_apart c (by decide) rfl (xa_cons (xe_var 1) xa_nil) (alen_cons alen_nil)) (xa_cons (xe_fn h_most_apart c (by decide) rfl (xa_cons (xe_var 0) xa_nil) (alen_cons alen_nil)) xa_nil)) (alen_cons (alen_cons alen_nil))) (gd_tup c.calm (gds_cons (gd_name c.nd rfl (by first | exact .inl rfl | exact .inr rfl)) (gds_cons (gd_name c.nd rfl (by first | exact .inl rfl | exact .inr rfl)) gds_nil))))) xss_nil)
    (xss_cons (xs_setLF c.calm c.nd rfl rfl rfl (xi_zip rfl G.b_zip (xa_cons (xe_ix (xe_var 0) xe_int fun _ _ => rfl) (xa_cons (xe_ix (xe_var 1) xe_int fun _ _ => rfl) xa_nil))) (own := [("own", 5), ("mark", 6)]) (blkOk_by (by kernel_rfl)) (by decide) (fun s1 H1 C1 cl1 fp1 => (gd_tup (c.blk s1 H1 _ _ fp1).calm (gds_cons (gd_name (c.blk s1 H1 _ _ fp1).nd rfl (by first | exact .inl rfl | exact .inr rfl)) (gds_cons (gd_name (c.blk s1 H1 _ _ fp1).nd rfl (by first | exact .inl rfl | exact .inr rfl)) gds_nil)))) (fun s1 H1 C1 cl1 fp1 => xts_nil) (fun s1 H1 C1 cl1 fp1 => (xe_fn h_fraction (c.blk s1 H1 _ _ fp1) (by decide) rfl (xa_cons (xe_bin ox_subA (xe_bin ox_mulA (xe_var 6) (xe_var 3)) (xe_bin ox_mulA (xe_var 5) (xe_var 2))) (xa_cons (xe_var 3) xa_nil)) (alen_cons (alen_cons alen_nil)))))
    (xss_one (xs_ret (xe_tup (xa_cons (xe_tup (xa_cons (xe_var 2) (xa_cons (xe_var 3) xa_nil))) (xa_cons (xe_callTy cx_tup rfl G.b_tuple (by decide +kernel) (xa_cons (xe_var 4) xa_nil)) xa_nil))))))))))
theorem sc__law_deck : FnScope ["_law_script", "_law_cell"] ["_law_script"] (defScope (top 15)) := ⟨rfl, rfl, rfl, by decide +kernel, rfl, by decide +kernel, by decide +kernel⟩
theorem ok__law_deck (G : Gs mg) (E : Xs P w K mg base) (B : SysM base) (F : FunD K "_law_deck" "_law_deck" (defArgs (top 15)) (defBody (top 15)) (defScope (top 15)) [] [] f fd) : FnG P w K mg base 1 f fd ["_law_script"] (spD K mg 1 f__law_deck_k28) :=
  fn_ok (k := 0) F sc__law_deck fun cdv A outer s H Ex hg hr => by
  have c := cxe_of (P := P) (w := w) (K := K) (mg := mg) (base := base) (N := ["_law_script", "_law_cell"]) (outer := outer) (H := H) (E := Ex) (k := 0) sc__law_deck.nd hg hr B
  exact (xss_one (xs_ret (xe_cell (xl_disp (xa_cons (xe_cell (xl_comp c.calm c.nd (xi_seq (xe_sl (xe_var 0) xo_none (xo_some xe_int))) (own := [("_law_cell", 1)]) (blkOk_by (by kernel_rfl)) (by decide) (fun s1 H1 C1 cl1 fp1 => (gd_name (c.blk s1 H1 _ _ fp1).nd rfl (by first | exact .inl rfl | exact .inr rfl))) (fun s1 H1 C1 cl1 fp1 => xts_nil) (fun s1 H1 C1 cl1 fp1 => (xe_callB cx_absA rfl G.b_abs (by decide +kernel) (xa_cons (xe_var 1) xa_nil))))) (xa_cons xe_int xa_nil))))))
theorem sc__law_draw : FnScope ["_law_deck_here", "_law_many", "_law_cell", "_law_at", "_law_mixed"] ["_law_deck_here", "_law_many"] (defScope (top 16)) := ⟨rfl, rfl, rfl, by decide +kernel, rfl, by decide +kernel, by decide +kernel⟩
theorem ok__law_draw (G : Gs mg) (E : Xs P w K mg base) (B : SysM base) (F : FunD K "_law_draw" "_law_draw" (defArgs (top 16)) (defBody (top 16)) (defScope (top 16)) [] [] f fd) : FnG P w K mg base 1 f fd ["_law_deck_here", "_law_many"] (spD K mg 2 f__law_draw_k28) :=
  fn_ok (k := 0) F sc__law_draw fun cdv A outer s H Ex hg hr => by
  have c := cxe_of (P := P) (w := w) (K := K) (mg := mg) (base := base) (N := ["_law_deck_here", "_law_many", "_law_cell", "_law_at", "_law_mixed"]) (outer := outer) (H := H) (E := Ex) (k := 0) sc__law_draw.nd hg hr B
  exact (xss_cons (xs_setI (xe_var 0) xe_int (xe_bin ox_addA (xe_ix (xe_var 0) xe_int fun _ _ => rfl) xe_int) (by intro _; rfl))
    (xss_cons (xs_asgT (xe_tup (xa_cons xe_int (xa_cons (xe_un ux_neg xe_int) xa_nil))) (gd_tup c.calm (gds_cons (gd_name c.nd rfl (by first | exact .inl rfl | exact .inr rfl)) (gds_cons (gd_name c.nd rfl (by first | exact .inl rfl | exact .inr rfl)) gds_nil))))
    (xss_cons (xs_if (xt_cmp ox_gt (xe_callB cx_len rfl G.b_len (by decide +kernel) (xa_cons (xe_ix (xe_var 0) xe_int fun _ _ => rfl) xa_nil)) xe_int rfl) (xss_cons (xs_set c.nd rfl (by first | exact .inl rfl | exact .inr rfl) (xe_bin ox_mod (xe_callTy cx_int rfl G.b_int (by decide +kernel) (xa_cons (xe_ix (xe_var 0) xe_int fun _ _ => rfl) xa_nil)) (xe_callB cx_len rfl G.b_len (by decide +kernel) (xa_cons (xe_ix (xe_var 0) xe_int fun _ _ => rfl) xa_nil))))
    (xss_one (xs_set c.nd rfl (by first | exact .inl rfl | exact .inr rfl) (xe_ix (xe_ix (xe_var 0) xe_int fun _ _ => rfl) (xe_var 3) fun _ _ => rfl)))) xss_nil)
    (xss_cons (xs_if (xt_cmp ox_ge (xe_var 2) (xe_bin ox_pow xe_int xe_int) rfl) (xss_cons (xs_setI (xe_ix (xe_var 0) xe_int fun _ _ => rfl) (xe_var 3) (xe_bin ox_div (xe_callTy cx_int rfl G.b_int (by decide +kernel) (xa_cons (xe_var 2) xa_nil)) (xe_var 1)) (by intro _; rfl))
    (xss_one (xs_ret (xe_bin ox_mod (xe_callTy cx_int rfl G.b_int (by decide +kernel) (xa_cons (xe_var 2) xa_nil)) (xe_var 1))))) xss_nil)
    (xss_cons (xs_set c.nd rfl (by first | exact .inl rfl | exact .inr rfl) (xe_bin ox_addA (xe_bin ox_addA (xe_bin ox_mod (xe_callTy cx_int rfl G.b_int (by decide +kernel) (xa_cons (xe_var 2) xa_nil)) xe_int) (xe_bin ox_mulA xe_int (xe_ix (xe_var 0) xe_int fun _ _ => rfl))) xe_int))
    (xss_one (xs_ret (xe_bin ox_mod (xe_callTy cx_int rfl G.b_int (by decide +kernel) (xa_cons (xe_bin ox_mod (xe_callTy cx_int rfl G.b_int (by decide +kernel) (xa_cons (xe_bin ox_pow (xe_var 4) xe_int) xa_nil)) xe_int) xa_nil)) (xe_var 1)))))))))
theorem sc__law_one : FnScope ["_law_deck_here", "_law_items"] ["_law_deck_here", "_law_items"] (defScope (top 17)) := ⟨rfl, rfl, rfl, by decide +kernel, rfl, by decide +kernel, by decide +kernel⟩
theorem ok__law_one (G : Gs mg) (E : Xs P w K mg base) (B : SysM base) (h__law_draw : Fn P w K mg base 1 "_law_draw" ["_law_deck_here", "_law_many"] [] f__law_draw_k28) (F : FunD K "_law_one" "_law_one" (defArgs (top 17)) (defBody (top 17)) (defScope (top 17)) [] [] f fd) : FnG P w K mg base 2 f fd ["_law_deck_here", "_law_items"] (spD K mg 2 f__law_one_k28) :=
  fn_ok (k := 1) F sc__law_one fun cdv A outer s H Ex hg hr => by
  have c := cxe_of (P := P) (w := w) (K := K) (mg := mg) (base := base) (N := ["_law_deck_here", "_law_items"]) (outer := outer) (H := H) (E := Ex) (k := 1) sc__law_one.nd hg hr B
  exact (xss_one (xs_ret (xe_ix (xe_var 1) (xe_fn h__law_draw c (by decide) rfl (xa_cons (xe_var 0) (xa_cons (xe_callB cx_len rfl G.b_len (by decide +kernel) (xa_cons (xe_var 1) xa_nil)) xa_nil)) (alen_cons (alen_cons alen_nil))) fun _ _ => rfl)))
theorem sc__law_most : FnScope ["_law_numbers", "_law_number"] ["_law_numbers"] (defScope (top 18)) := ⟨rfl, rfl, rfl, by decide +kernel, rfl, by decide +kernel, by decide +kernel⟩
theorem ok__law_most (G : Gs mg) (E : Xs P w K mg base) (B : SysM base) (F : FunD K "_law_most" "_law_most" (defArgs (top 18)) (defBody (top 18)) (defScope (top 18)) [] [] f fd) : FnG P w K mg base 1 f fd ["_law_numbers"] (spD K mg 1 f__law_most) :=
  fn_ok (k := 0) F sc__law_most fun cdv A outer s H Ex hg hr => by
  have c := cxe_of (P := P) (w := w) (K := K) (mg := mg) (base := base) (N := ["_law_numbers", "_law_number"]) (outer := outer) (H := H) (E := Ex) (k := 0) sc__law_most.nd hg hr B
  exact (xss_one (xs_ret (xe_callB (cx_max c.calm) rfl G.b_max (by decide +kernel) (xa_cons (xe_frz (xl_comp c.calm c.nd (xi_seq (xe_var 0)) (own := [("_law_number", 1)]) (blkOk_by (by kernel_rfl)) (by decide) (fun s1 H1 C1 cl1 fp1 => (gd_name (c.blk s1 H1 _ _ fp1).nd rfl (by first | exact .inl rfl | exact .inr rfl))) (fun s1 H1 C1 cl1 fp1 => xts_nil) (fun s1 H1 C1 cl1 fp1 => (xe_callTy cx_int rfl G.b_int (by decide +kernel) (xa_cons (xe_var 1) xa_nil))))) xa_nil))))
theorem sc__law_least : FnScope ["_law_numbers", "_law_number"] ["_law_numbers"] (defScope (top 19)) := ⟨rfl, rfl, rfl, by decide +kernel, rfl, by decide +kernel, by decide +kernel⟩
theorem ok__law_least (G : Gs mg) (E : Xs P w K mg base) (B : SysM base) (F : FunD K "_law_least" "_law_least" (defArgs (top 19)) (defBody (top 19)) (defScope (top 19)) [] [] f fd) : FnG P w K mg base 1 f fd ["_law_numbers"] (spD K mg 1 f__law_least_k30) :=
  fn_ok (k := 0) F sc__law_least fun cdv A outer s H Ex hg hr => by
  have c := cxe_of (P := P) (w := w) (K := K) (mg := mg) (base := base) (N := ["_law_numbers", "_law_number"]) (outer := outer) (H := H) (E := Ex) (k := 0) sc__law_least.nd hg hr B
  exact (xss_one (xs_ret (xe_callB (cx_min c.calm) rfl G.b_min (by decide +kernel) (xa_cons (xe_frz (xl_comp c.calm c.nd (xi_seq (xe_var 0)) (own := [("_law_number", 1)]) (blkOk_by (by kernel_rfl)) (by decide) (fun s1 H1 C1 cl1 fp1 => (gd_name (c.blk s1 H1 _ _ fp1).nd rfl (by first | exact .inl rfl | exact .inr rfl))) (fun s1 H1 C1 cl1 fp1 => xts_nil) (fun s1 H1 C1 cl1 fp1 => (xe_callTy cx_int rfl G.b_int (by decide +kernel) (xa_cons (xe_var 1) xa_nil))))) xa_nil))))
theorem sc__law_divisor : FnScope ["_law_numbers", "_law_found", "_law_number", "_law_rest"] ["_law_numbers"] (defScope (top 20)) := ⟨rfl, rfl, rfl, by decide +kernel, rfl, by decide +kernel, by decide +kernel⟩
theorem ok__law_divisor (G : Gs mg) (E : Xs P w K mg base) (B : SysM base) (F : FunD K "_law_divisor" "_law_divisor" (defArgs (top 20)) (defBody (top 20)) (defScope (top 20)) [] [] f fd) : FnG P w K mg base 1 f fd ["_law_numbers"] (spD K mg 1 f__law_divisor) :=
  fn_ok (k := 0) F sc__law_divisor fun cdv A outer s H Ex hg hr => by
  have c := cxe_of (P := P) (w := w) (K := K) (mg := mg) (base := base) (N := ["_law_numbers", "_law_found", "_law_number", "_law_rest"]) (outer := outer) (H := H) (E := Ex) (k := 0) sc__law_divisor.nd hg hr B
  exact (xss_cons (xs_set c.nd rfl (by first | exact .inl rfl | exact .inr rfl) xe_int)
    (xss_cons (xs_for own_of c.calm (xi_seq (xe_var 0)) (gd_name c.nd rfl (by first | exact .inl rfl | exact .inr rfl))
   (xss_cons (xs_set c.nd rfl (by first | exact .inl rfl | exact .inr rfl) (xe_callB cx_absA rfl G.b_abs (by decide +kernel) (xa_cons (xe_var 2) xa_nil)))
    (xss_one (xs_while own_of (xt_cmp (ox_neA c.u64) (xe_var 3) xe_int rfl)
   (xss_one (xs_par c.calm c.nd rfl rfl (by decide) rfl rfl (xa_cons (xe_var 3) (xa_cons (xe_bin ox_mod (xe_callTy cx_int rfl G.b_int (by decide +kernel) (xa_cons (xe_var 1) xa_nil)) (xe_var 3)) xa_nil)) rfl))))))
    (xss_one (xs_ret (xe_var 1)))))
theorem sc__law_primitive : FnScope ["_law_numbers", "_law_divisor_here", "_law_number"] ["_law_numbers"] (defScope (top 21)) := ⟨rfl, rfl, rfl, by decide +kernel, rfl, by decide +kernel, by decide +kernel⟩
theorem ok__law_primitive (G : Gs mg) (E : Xs P w K mg base) (B : SysM base) (h__law_divisor : Fn P w K mg base 1 "_law_divisor" ["_law_numbers"] [] f__law_divisor) (F : FunD K "_law_primitive" "_law_primitive" (defArgs (top 21)) (defBody (top 21)) (defScope (top 21)) [] [] f fd) : FnG P w K mg base 2 f fd ["_law_numbers"] (spD K mg 1 f__law_primitive_k28) :=
  fn_ok (k := 1) F sc__law_primitive fun cdv A outer s H Ex hg hr => by
  have c := cxe_of (P := P) (w := w) (K := K) (mg := mg) (base := base) (N := ["_law_numbers", "_law_divisor_here", "_law_number"]) (outer := outer) (H := H) (E := Ex) (k := 1) sc__law_primitive.nd hg hr B
  exact (xss_cons (xs_set c.nd rfl (by first | exact .inl rfl | exact .inr rfl) (xe_fn h__law_divisor c (by decide) rfl (xa_cons (xe_var 0) xa_nil) (alen_cons alen_nil)))
    (xss_one (xs_ret (xe_callTy cx_tup rfl G.b_tuple (by decide +kernel) (xa_cons (xe_frz (xl_comp c.calm c.nd (xi_seq (xe_var 0)) (own := [("_law_number", 2)]) (blkOk_by (by kernel_rfl)) (by decide) (fun s1 H1 C1 cl1 fp1 => (gd_name (c.blk s1 H1 _ _ fp1).nd rfl (by first | exact .inl rfl | exact .inr rfl))) (fun s1 H1 C1 cl1 fp1 => xts_nil) (fun s1 H1 C1 cl1 fp1 => (xe_bin ox_div (xe_var 2) (xe_var 1))))) xa_nil)))))
theorem sc__law_mark : FnScope ["_law_deck_here", "_law_far"] ["_law_deck_here", "_law_far"] (defScope (top 22)) := ⟨rfl, rfl, rfl, by decide +kernel, rfl, by decide +kernel, by decide +kernel⟩
theorem ok__law_mark (G : Gs mg) (E : Xs P w K mg base) (B : SysM base) (h__law_draw : Fn P w K mg base 1 "_law_draw" ["_law_deck_here", "_law_many"] [] f__law_draw_k28) (h__law_one : Fn P w K mg base 2 "_law_one" ["_law_deck_here", "_law_items"] [] f__law_one_k28) (F : FunD K "_law_mark" "_law_mark" (defArgs (top 22)) (defBody (top 22)) (defScope (top 22)) [] [] f fd) : FnG P w K mg base 3 f fd ["_law_deck_here", "_law_far"] (spD K mg 2 f__law_mark_k28) :=
  fn_ok (k := 2) F sc__law_mark fun cdv A outer s H Ex hg hr => by
  have c := cxe_of (P := P) (w := w) (K := K) (mg := mg) (base := base) (N := ["_law_deck_here", "_law_far"]) (outer := outer) (H := H) (E := Ex) (k := 2) sc__law_mark.nd hg hr B
  exact (xss_cons (xs_if (xt_cmp (ox_eqA c.u64) (xe_fn h__law_draw c (by decide) rfl (xa_cons (xe_var 0) (xa_cons xe_int xa_nil)) (alen_cons (alen_cons alen_nil))) xe_int rfl) (xss_one (xs_ret (xe_fn h__law_one c (by decide) rfl (xa_cons (xe_var 0) (xa_cons (xe_frz (xl_disp (xa_cons (xe_var 1) (xa_cons (xe_bin ox_subA xe_int (xe_var 1)) (xa_cons (xe_bin ox_subA (xe_var 1) xe_int) (xa_cons (xe_bin ox_subA (xe_fn h__law_draw c (by decide) rfl (xa_cons (xe_var 0) (xa_cons (xe_bin ox_addA (xe_bin ox_mulA xe_int (xe_var 1)) xe_int) xa_nil)) (alen_cons (alen_cons alen_nil))) (xe_var 1)) xa_nil)))))) xa_nil)) (alen_cons (alen_cons alen_nil))))) xss_nil)
    (xss_one (xs_ret (xe_bin ox_subA (xe_fn h__law_draw c (by decide) rfl (xa_cons (xe_var 0) (xa_cons xe_int xa_nil)) (alen_cons (alen_cons alen_nil))) xe_int))))
theorem sc__law_mixed_row : FnScope ["_law_deck_here", "_law_rows", "_law_one_here", "_law_other", "_law_less", "_law_mark_here", "_law_more"] ["_law_deck_here", "_law_rows"] (defScope (top 23)) := ⟨rfl, rfl, rfl, by decide +kernel, rfl, by decide +kernel, by decide +kernel⟩
theorem ok__law_mixed_row (G : Gs mg) (E : Xs P w K mg base) (B : SysM base) (h__law_draw : Fn P w K mg base 1 "_law_draw" ["_law_deck_here", "_law_many"] [] f__law_draw_k28) (h__law_one : Fn P w K mg base 2 "_law_one" ["_law_deck_here", "_law_items"] [] f__law_one_k28) (F : FunD K "_law_mixed_row" "_law_mixed_row" (defArgs (top 23)) (defBody (top 23)) (defScope (top 23)) [] [] f fd) : FnG P w K mg base 3 f fd ["_law_deck_here", "_law_rows"] (spD K mg 2 f__law_mixed_row) :=
  fn_ok (k := 2) F sc__law_mixed_row fun cdv A outer s H Ex hg hr => by
  have c := cxe_of (P := P) (w := w) (K := K) (mg := mg) (base := base) (N := ["_law_deck_here", "_law_rows", "_law_one_here", "_law_other", "_law_less", "_law_mark_here", "_law_more"]) (outer := outer) (H := H) (E := Ex) (k := 2) sc__law_mixed_row.nd hg hr B
  exact (xss_cons (xs_par c.calm c.nd rfl rfl (by decide) rfl rfl (xa_cons (xe_fn h__law_one c (by decide) rfl (xa_cons (xe_var 0) (xa_cons (xe_var 1) xa_nil)) (alen_cons (alen_cons alen_nil))) (xa_cons (xe_fn h__law_one c (by decide) rfl (xa_cons (xe_var 0) (xa_cons (xe_var 1) xa_nil)) (alen_cons (alen_cons alen_nil))) xa_nil)) rfl)
    (xss_cons (xs_set c.nd rfl (by first | exact .inl rfl | exact .inr rfl) (xe_fn h__law_draw c (by decide) rfl (xa_cons (xe_var 0) (xa_cons xe_int xa_nil)) (alen_cons (alen_cons alen_nil))))
    (xss_cons (xs_if (xt_cmp (ox_eqA c.u64) (xe_fn h__law_draw c (by decide) rfl (xa_cons (xe_var 0) (xa_cons xe_int xa_nil)) (alen_cons (alen_cons alen_nil))) xe_int rfl) (xss_one (xs_ret (xe_callTy cx_tup rfl G.b_tuple (by decide +kernel) (xa_cons (xe_frz (xl_comp c.calm c.nd (xi_seq (xe_var 2)) (own := [("_law_mark_here", 5)]) (blkOk_by (by kernel_rfl)) (by decide) (fun s1 H1 C1 cl1 fp1 => (gd_name (c.blk s1 H1 _ _ fp1).nd rfl (by first | exact .inl rfl | exact .inr rfl))) (fun s1 H1 C1 cl1 fp1 => xts_nil) (fun s1 H1 C1 cl1 fp1 => (xe_var 5)))) xa_nil)))) xss_nil)
    (xss_one (xs_ret (xe_callTy cx_tup rfl G.b_tuple (by decide +kernel) (xa_cons (xe_frz (xl_comp c.calm c.nd (xi_zip rfl G.b_zip (xa_cons (xe_var 2) (xa_cons (xe_var 3) xa_nil))) (own := [("_law_mark_here", 5), ("_law_more", 6)]) (blkOk_by (by kernel_rfl)) (by decide) (fun s1 H1 C1 cl1 fp1 => (gd_tup (c.blk s1 H1 _ _ fp1).calm (gds_cons (gd_name (c.blk s1 H1 _ _ fp1).nd rfl (by first | exact .inl rfl | exact .inr rfl)) (gds_cons (gd_name (c.blk s1 H1 _ _ fp1).nd rfl (by first | exact .inl rfl | exact .inr rfl)) gds_nil)))) (fun s1 H1 C1 cl1 fp1 => xts_nil) (fun s1 H1 C1 cl1 fp1 => (xe_bin ox_subA (xe_bin ox_div (xe_bin ox_addA (xe_var 5) (xe_var 6)) xe_int) (xe_var 4))))) xa_nil)))))))
theorem sc__law_menu : FnScope ["_law_deck_here", "_law_most_here", "_law_answers", "_law_rows", "_law_far", "_law_turn", "_law_row", "_law_mark_here", "_law_answer"] ["_law_deck_here", "_law_most_here"] (defScope (top 24)) := ⟨rfl, rfl, rfl, by decide +kernel, rfl, by decide +kernel, by decide +kernel⟩
theorem ok__law_menu (G : Gs mg) (E : Xs P w K mg base) (B : SysM base) (h__law_draw : Fn P w K mg base 1 "_law_draw" ["_law_deck_here", "_law_many"] [] f__law_draw_k28) (h__law_mark : Fn P w K mg base 3 "_law_mark" ["_law_deck_here", "_law_far"] [] f__law_mark_k28) (h__law_mixed_row : Fn P w K mg base 3 "_law_mixed_row" ["_law_deck_here", "_law_rows"] [] f__law_mixed_row) (h__law_one : Fn P w K mg base 2 "_law_one" ["_law_deck_here", "_law_items"] [] f__law_one_k28) (F : FunD K "_law_menu" "_law_menu" (defArgs (top 24)) (defBody (top 24)) (defScope (top 24)) [] [] f fd) : FnG P w K mg base 4 f fd ["_law_deck_here", "_law_most_here"] (spD K mg 2 f__law_menu_k33) :=
  fn_ok (k := 3) F sc__law_menu fun cdv A outer s H Ex hg hr => by
  have c := cxe_of (P := P) (w := w) (K := K) (mg := mg) (base := base) (N := ["_law_deck_here", "_law_most_here", "_law_answers", "_law_rows", "_law_far", "_law_turn", "_law_row", "_law_mark_here", "_law_answer"]) (outer := outer) (H := H) (E := Ex) (k := 3) sc__law_menu.nd hg hr B
  exact (xss_cons (xs_par c.calm c.nd rfl rfl (by decide) rfl rfl (xa_cons (xe_bin ox_addA xe_int (xe_fn h__law_draw c (by decide) rfl (xa_cons (xe_var 0) (xa_cons xe_int xa_nil)) (alen_cons (alen_cons alen_nil)))) (xa_cons (xe_cell (xl_disp xa_nil)) xa_nil)) rfl)
    (xss_cons (xs_set c.nd rfl (by first | exact .inl rfl | exact .inr rfl) (xe_fn h__law_one c (by decide) rfl (xa_cons (xe_var 0) (xa_cons (xe_frz (xl_disp (xa_cons xe_int (xa_cons xe_int (xa_cons (xe_bin ox_pow xe_int xe_int) xa_nil))))) xa_nil)) (alen_cons (alen_cons alen_nil))))
    (xss_cons (xs_for own_of c.calm (xi_range1 rfl G.b_range (xa_cons (xe_bin ox_addA xe_int (xe_fn h__law_draw c (by decide) rfl (xa_cons (xe_var 0) (xa_cons (xe_var 1) xa_nil)) (alen_cons (alen_cons alen_nil)))) xa_nil)) (gd_name c.nd rfl (by first | exact .inl rfl | exact .inr rfl))
   (xss_one (xs_if (xt_w (xw_and (xt_cmp (ox_neA c.u64) (xe_var 3) (xe_frz (xl_disp xa_nil)) rfl) (xw_and1 (xt_cmp (ox_eqA c.u64) (xe_fn h__law_draw c (by decide) rfl (xa_cons (xe_var 0) (xa_cons xe_int xa_nil)) (alen_cons (alen_cons alen_nil))) xe_int rfl)))) (xss_cons (xs_set c.nd rfl (by first | exact .inl rfl | exact .inr rfl) (xe_fn h__law_mixed_row c (by decide) rfl (xa_cons (xe_var 0) (xa_cons (xe_var 3) xa_nil)) (alen_cons (alen_cons alen_nil))))
    (xss_one (xs_expr (xe_app (xe_var 3) (xe_callTy cx_tup rfl G.b_tuple (by decide +kernel) (xa_cons (xe_frz (xl_comp c.calm c.nd (xi_seq (xe_var 6)) (own := [("_law_mark_here", 7)]) (blkOk_by (by kernel_rfl)) (by decide) (fun s1 H1 C1 cl1 fp1 => (gd_name (c.blk s1 H1 _ _ fp1).nd rfl (by first | exact .inl rfl | exact .inr rfl))) (fun s1 H1 C1 cl1 fp1 => xts_nil) (fun s1 H1 C1 cl1 fp1 => (xe_callB (cx_max (c.blk s1 H1 _ _ fp1).calm) rfl G.b_max (by decide +kernel) (xa_cons (xe_callTy cx_int rfl G.b_int (by decide +kernel) (xa_cons (xe_bin ox_subA xe_int (xe_var 4)) xa_nil)) (xa_cons (xe_callTy cx_int rfl G.b_int (by decide +kernel) (xa_cons (xe_var 7) xa_nil)) xa_nil)))))) xa_nil)))))) (xss_one (xs_expr (xe_app (xe_var 3) (xe_callTy cx_tup rfl G.b_tuple (by decide +kernel) (xa_cons (xe_frz (xl_comp c.calm c.nd (xi_range1 rfl G.b_range (xa_cons (xe_var 2) xa_nil)) (own := [("_law_answer", 8)]) (blkOk_by (by kernel_rfl)) (by decide) (fun s1 H1 C1 cl1 fp1 => (gd_name (c.blk s1 H1 _ _ fp1).nd rfl (by first | exact .inl rfl | exact .inr rfl))) (fun s1 H1 C1 cl1 fp1 => xts_nil) (fun s1 H1 C1 cl1 fp1 => (xe_fn h__law_mark (c.blk s1 H1 _ _ fp1) (by decide) rfl (xa_cons (xe_var 0) (xa_cons (xe_var 4) xa_nil)) (alen_cons (alen_cons alen_nil)))))) xa_nil))))))))
    (xss_one (xs_ret (xe_callTy cx_tupK rfl G.b_tuple (by decide +kernel) (xa_cons (xe_var 3) xa_nil)))))))
theorem sc__law_plain : FnScope ["_law_menu_here", "_law_rows", "_law_row", "_law_flat", "_law_divisor_here", "_law_answer", "_law_mark_here", "_law_other"] ["_law_menu_here"] (defScope (top 25)) := ⟨rfl, rfl, rfl, by decide +kernel, rfl, by decide +kernel, by decide +kernel⟩
theorem ok__law_plain (G : Gs mg) (E : Xs P w K mg base) (B : SysM base) (h__law_divisor : Fn P w K mg base 1 "_law_divisor" ["_law_numbers"] [] f__law_divisor) (h__law_least : Fn P w K mg base 1 "_law_least" ["_law_numbers"] [] f__law_least_k30) (F : FunD K "_law_plain" "_law_plain" (defArgs (top 25)) (defBody (top 25)) (defScope (top 25)) [] [] f fd) : FnG P w K mg base 2 f fd ["_law_menu_here"] (spD K mg 1 f__law_plain) :=
  fn_ok (k := 1) F sc__law_plain fun cdv A outer s H Ex hg hr => by
  have c := cxe_of (P := P) (w := w) (K := K) (mg := mg) (base := base) (N := ["_law_menu_here", "_law_rows", "_law_row", "_law_flat", "_law_divisor_here", "_law_answer", "_law_mark_here", "_law_other"]) (outer := outer) (H := H) (E := Ex) (k := 1) sc__law_plain.nd hg hr B
  exact (xss_cons (xs_set c.nd rfl (by first | exact .inl rfl | exact .inr rfl) (xe_cell (xl_disp xa_nil)))
    (xss_cons (xs_for own_of c.calm (xi_seq (xe_var 0)) (gd_name c.nd rfl (by first | exact .inl rfl | exact .inr rfl))
   (xss_one (xs_expr (xe_app (xe_var 1) (xe_frz (xl_comp c.calm c.nd (xi_enum rfl G.b_enumerate (xa_cons (xe_var 2) xa_nil)) (own := [("_law_answer", 5), ("_law_mark_here", 6)]) (blkOk_by (by kernel_rfl)) (by decide) (fun s1 H1 C1 cl1 fp1 => (gd_tup (c.blk s1 H1 _ _ fp1).calm (gds_cons (gd_name (c.blk s1 H1 _ _ fp1).nd rfl (by first | exact .inl rfl | exact .inr rfl)) (gds_cons (gd_name (c.blk s1 H1 _ _ fp1).nd rfl (by first | exact .inl rfl | exact .inr rfl)) gds_nil)))) (fun s1 H1 C1 cl1 fp1 => xts_nil) (fun s1 H1 C1 cl1 fp1 => (xe_bin ox_subA (xe_var 6) (xe_fn h__law_least (c.blk s1 H1 _ _ fp1) (by decide) rfl (xa_cons (xe_frz (xl_comp (c.blk s1 H1 _ _ fp1).calm (c.blk s1 H1 _ _ fp1).nd (xi_seq (xe_var 0)) (own := [("_law_other", 7)]) (blkOk_by (by kernel_rfl)) (by decide) (fun s2 H2 C2 cl2 fp2 => (gd_name ((c.blk s1 H1 _ _ fp1).blk s2 H2 _ _ fp2).nd rfl (by first | exact .inl rfl | exact .inr rfl))) (fun s2 H2 C2 cl2 fp2 => xts_nil) (fun s2 H2 C2 cl2 fp2 => (xe_ix (xe_var 7) (xe_var 5) fun _ _ => rfl)))) xa_nil) (alen_cons alen_nil))))))))))
    (xss_cons (xs_set c.nd rfl (by first | exact .inl rfl | exact .inr rfl) (xe_cell (xl_disp xa_nil)))
    (xss_cons (xs_for own_of c.calm (xi_seq (xe_var 1)) (gd_name c.nd rfl (by first | exact .inl rfl | exact .inr rfl))
   (xss_one (xs_expr (xe_ext (xe_var 3) (xe_var 2)))))
    (xss_cons (xs_set c.nd rfl (by first | exact .inl rfl | exact .inr rfl) (xe_callB (cx_max c.calm) rfl G.b_max (by decide +kernel) (xa_cons xe_int (xa_cons (xe_fn h__law_divisor c (by decide) rfl (xa_cons (xe_var 3) xa_nil) (alen_cons alen_nil)) xa_nil))))
    (xss_one (xs_ret (xe_callTy cx_tup rfl G.b_tuple (by decide +kernel) (xa_cons (xe_frz (xl_comp c.calm c.nd (xi_seq (xe_var 1)) (own := [("_law_row", 2)]) (blkOk_by (by kernel_rfl)) (by decide) (fun s1 H1 C1 cl1 fp1 => (gd_name (c.blk s1 H1 _ _ fp1).nd rfl (by first | exact .inl rfl | exact .inr rfl))) (fun s1 H1 C1 cl1 fp1 => xts_nil) (fun s1 H1 C1 cl1 fp1 => (xe_callTy cx_tup rfl G.b_tuple (by decide +kernel) (xa_cons (xe_frz (xl_comp (c.blk s1 H1 _ _ fp1).calm (c.blk s1 H1 _ _ fp1).nd (xi_seq (xe_var 2)) (own := [("_law_mark_here", 6)]) (blkOk_by (by kernel_rfl)) (by decide) (fun s2 H2 C2 cl2 fp2 => (gd_name ((c.blk s1 H1 _ _ fp1).blk s2 H2 _ _ fp2).nd rfl (by first | exact .inl rfl | exact .inr rfl))) (fun s2 H2 C2 cl2 fp2 => xts_nil) (fun s2 H2 C2 cl2 fp2 => (xe_bin ox_div (xe_var 6) (xe_var 4))))) xa_nil))))) xa_nil)))))))))
theorem sc__law_told : FnScope ["_law_one_here", "_law_other", "_law_found"] ["_law_one_here", "_law_other"] (defScope (top 26)) := ⟨rfl, rfl, rfl, by decide +kernel, rfl, by decide +kernel, by decide +kernel⟩
theorem ok__law_told (G : Gs mg) (E : Xs P w K mg base) (B : SysM base) (h_like : Fn P w K mg base 4 "like" ["one", "other"] [] f_like) (F : FunD K "_law_told" "_law_told" (defArgs (top 26)) (defBody (top 26)) (defScope (top 26)) [] [] f fd) : FnG P w K mg base 5 f fd ["_law_one_here", "_law_other"] (spD K mg 2 f__law_told_k33) :=
  fn_ok (k := 4) F sc__law_told fun cdv A outer s H Ex hg hr => by
  have c := cxe_of (P := P) (w := w) (K := K) (mg := mg) (base := base) (N := ["_law_one_here", "_law_other", "_law_found"]) (outer := outer) (H := H) (E := Ex) (k := 4) sc__law_told.nd hg hr B
  exact (xss_cons (xs_try c rfl rfl rfl E.tbl (fun W' pn xe c' own => (xss_one (xs_set c'.nd rfl (by first | exact .inl rfl | exact .inr rfl) (xe_frz (xl_disp (xa_cons xe_str (xa_cons (xe_fn h_like c' (by decide) rfl (xa_cons (xe_var 0) (xa_cons (xe_var 1) xa_nil)) (alen_cons (alen_cons alen_nil))) xa_nil)))))))
   (hd_cons E.h_Unlike rfl (by decide) (fun a pn => (xss_one (xs_set c.nd rfl (by first | exact .inl rfl | exact .inr rfl) (xe_frz (xl_disp (xa_cons xe_str xa_nil))))))
   hd_nil))
    (xss_one (xs_ret (xe_var 2))))
theorem sc__law_due : FnScope ["_law_one_here", "_law_other", "_law_factor", "_law_first", "_law_second", "_law_answer", "_law_mark_here", "_law_at", "_law_gap", "_law_more", "_law_row", "_law_own"] ["_law_one_here", "_law_other"] (defScope (top 27)) := ⟨rfl, rfl, rfl, by decide +kernel, rfl, by decide +kernel, by decide +kernel⟩
theorem ok__law_due (G : Gs mg) (E : Xs P w K mg base) (B : SysM base) (h__law_plain : Fn P w K mg base 2 "_law_plain" ["_law_menu_here"] [] f__law_plain) (h__law_primitive : Fn P w K mg base 2 "_law_primitive" ["_law_numbers"] [] f__law_primitive_k28) (F : FunD K "_law_due" "_law_due" (defArgs (top 27)) (defBody (top 27)) (defScope (top 27)) [] [] f fd) : FnG P w K mg base 3 f fd ["_law_one_here", "_law_other"] (spD K mg 2 f__law_due_k33x) :=
  fn_ok (k := 2) F sc__law_due fun cdv A outer s H Ex hg hr => by
  have c := cxe_of (P := P) (w := w) (K := K) (mg := mg) (base := base) (N := ["_law_one_here", "_law_other", "_law_factor", "_law_first", "_law_second", "_law_answer", "_law_mark_here", "_law_at", "_law_gap", "_law_more", "_law_row", "_law_own"]) (outer := outer) (H := H) (E := Ex) (k := 2) sc__law_due.nd hg hr B
  exact (xss_cons (xs_if (xt_cmp (ox_neA c.u64) (xe_callB cx_len rfl G.b_len (by decide +kernel) (xa_cons (xe_ix (xe_wk (xe_var 0)) xe_int fun _ _ => rfl) xa_nil)) (xe_callB cx_len rfl G.b_len (by decide +kernel) (xa_cons (xe_ix (xe_wk (xe_var 1)) xe_int fun _ _ => rfl) xa_nil)) rfl) (xss_one (xs_ret (xe_frz (xl_disp (xa_cons xe_str xa_nil))))) xss_nil)
    (xss_cons (xs_if (xt_w (xw_or (xt_cmp (ox_neA c.u64) (xe_callB cx_len rfl G.b_len (by decide +kernel) (xa_cons (xe_wk (xe_var 0)) xa_nil)) (xe_callB cx_len rfl G.b_len (by decide +kernel) (xa_cons (xe_wk (xe_var 1)) xa_nil)) rfl) (xw_or1 (xt_cmp (ox_neA c.u64) (xe_fn h__law_plain c (by decide) rfl (xa_cons (xe_wk (xe_var 0)) xa_nil) (alen_cons alen_nil)) (xe_fn h__law_plain c (by decide) rfl (xa_cons (xe_wk (xe_var 1)) xa_nil) (alen_cons alen_nil)) rfl)))) (xss_one (xs_ret (xe_frz (xl_disp (xa_cons xe_str (xa_cons xe_non xa_nil)))))) xss_nil)
    (xss_cons (xs_set c.nd rfl (by first | exact .inl rfl | exact .inr rfl) (xe_tup (xa_cons xe_int (xa_cons xe_int xa_nil))))
    (xss_cons (xs_for own_of c.calm (xi_zip rfl G.b_zip (xa_cons (xe_wk (xe_var 0)) (xa_cons (xe_sl (xe_wk (xe_var 0)) (xo_some xe_int) xo_none) xa_nil))) (gd_tup c.calm (gds_cons (gd_name c.nd rfl (by first | exact .inl rfl | exact .inr rfl)) (gds_cons (gd_name c.nd rfl (by first | exact .inl rfl | exact .inr rfl)) gds_nil)))
   (xss_one (xs_for own_of c.calm (xi_enum rfl G.b_enumerate (xa_cons (xe_var 3) xa_nil)) (gd_tup c.calm (gds_cons (gd_name c.nd rfl (by first | exact .inl rfl | exact .inr rfl)) (gds_cons (gd_name c.nd rfl (by first | exact .inl rfl | exact .inr rfl)) gds_nil)))
   (xss_one (xs_if (xt_cmp (ox_neA c.u64) (xe_var 6) (xe_ix (xe_var 4) (xe_var 5) fun _ _ => rfl) rfl) (xss_cons (xs_set c.nd rfl (by first | exact .inl rfl | exact .inr rfl) (xe_tix c.u64 (xe_var 0) (xe_var 3)))
    (xss_cons (xs_par c.calm c.nd rfl rfl (by decide) rfl rfl (xa_cons (xe_bin ox_subA (xe_var 6) (xe_ix (xe_var 4) (xe_var 5) fun _ _ => rfl)) (xa_cons (xe_bin ox_subA (xe_ix (xe_ix (xe_wk (xe_var 1)) (xe_var 7) fun _ _ => rfl) (xe_var 5) fun _ _ => rfl) (xe_ix (xe_ix (xe_wk (xe_var 1)) (xe_tix c.u64 (xe_var 0) (xe_var 4)) fun _ _ => rfl) (xe_var 5) fun _ _ => rfl)) xa_nil)) rfl)
    (xss_one (xs_set c.nd rfl (by first | exact .inl rfl | exact .inr rfl) (xe_fn h__law_primitive c (by decide) rfl (xa_cons (xe_tup (xa_cons (xe_callB cx_absA rfl G.b_abs (by decide +kernel) (xa_cons (xe_var 9) xa_nil)) (xa_cons (xe_callB cx_absA rfl G.b_abs (by decide +kernel) (xa_cons (xe_var 8) xa_nil)) xa_nil))) xa_nil) (alen_cons alen_nil)))))) xss_nil)))))
    (xss_cons (xs_set c.nd rfl (by first | exact .inl rfl | exact .inr rfl) (xe_cell (xl_disp xa_nil)))
    (xss_cons (xs_for own_of c.calm (xi_zip rfl G.b_zip (xa_cons (xe_ix (xe_wk (xe_var 0)) xe_int fun _ _ => rfl) (xa_cons (xe_ix (xe_wk (xe_var 1)) xe_int fun _ _ => rfl) xa_nil))) (gd_tup c.calm (gds_cons (gd_name c.nd rfl (by first | exact .inl rfl | exact .inr rfl)) (gds_cons (gd_name c.nd rfl (by first | exact .inl rfl | exact .inr rfl)) gds_nil)))
   (xss_one (xs_expr (xe_app (xe_var 10) (xe_fn h__law_primitive c (by decide) rfl (xa_cons (xe_tup (xa_cons (xe_bin ox_subA (xe_bin ox_mulA (xe_var 6) (xe_ix (xe_var 2) xe_int fun _ _ => rfl)) (xe_bin ox_mulA (xe_var 11) (xe_ix (xe_var 2) xe_int fun _ _ => rfl))) (xa_cons (xe_ix (xe_var 2) xe_int fun _ _ => rfl) xa_nil))) xa_nil) (alen_cons alen_nil))))))
    (xss_one (xs_ret (xe_frz (xl_disp (xa_cons xe_str (xa_cons (xe_tup (xa_cons (xe_var 2) (xa_cons (xe_callTy cx_tup rfl G.b_tuple (by decide +kernel) (xa_cons (xe_var 10) xa_nil)) xa_nil))) xa_nil))))))))))))
theorem sc__law_made : FnScope ["_law_deck_here", "_law_menu_here", "_law_often", "_law_more", "_law_found", "_law_answer", "_law_row", "_law_mark_here", "_law_own"] ["_law_deck_here", "_law_menu_here"] (defScope (top 28)) := ⟨rfl, rfl, rfl, by decide +kernel, rfl, by decide +kernel, by decide +kernel⟩
theorem ok__law_made (G : Gs mg) (E : Xs P w K mg base) (B : SysM base) (h__law_draw : Fn P w K mg base 1 "_law_draw" ["_law_deck_here", "_law_many"] [] f__law_draw_k28) (h__law_least : Fn P w K mg base 1 "_law_least" ["_law_numbers"] [] f__law_least_k30) (h__law_most : Fn P w K mg base 1 "_law_most" ["_law_numbers"] [] f__law_most) (F : FunD K "_law_made" "_law_made" (defArgs (top 28)) (defBody (top 28)) (defScope (top 28)) [] [] f fd) : FnG P w K mg base 2 f fd ["_law_deck_here", "_law_menu_here"] (spD K mg 2 f__law_made_k33x) :=
  fn_ok (k := 1) F sc__law_made fun cdv A outer s H Ex hg hr => by
  have c := cxe_of (P := P) (w := w) (K := K) (mg := mg) (base := base) (N := ["_law_deck_here", "_law_menu_here", "_law_often", "_law_more", "_law_found", "_law_answer", "_law_row", "_law_mark_here", "_law_own"]) (outer := outer) (H := H) (E := Ex) (k := 1) sc__law_made.nd hg hr B
  exact (xss_cons (xs_asgT (xe_tup (xa_cons (xe_bin ox_addA xe_int (xe_fn h__law_draw c (by decide) rfl (xa_cons (xe_var 0) (xa_cons xe_int xa_nil)) (alen_cons (alen_cons alen_nil)))) (xa_cons (xe_frz (xl_comp c.calm c.nd (xi_seq (xe_ix (xe_wk (xe_var 1)) xe_int fun _ _ => rfl)) (own := [("_law_answer", 5)]) (blkOk_by (by kernel_rfl)) (by decide) (fun s1 H1 C1 cl1 fp1 => (gd_name (c.blk s1 H1 _ _ fp1).nd rfl (by first | exact .inl rfl | exact .inr rfl))) (fun s1 H1 C1 cl1 fp1 => xts_nil) (fun s1 H1 C1 cl1 fp1 => (xe_bin ox_subA (xe_fn h__law_draw (c.blk s1 H1 _ _ fp1) (by decide) rfl (xa_cons (xe_var 0) (xa_cons xe_int xa_nil)) (alen_cons (alen_cons alen_nil))) xe_int)))) xa_nil))) (gd_tup c.calm (gds_cons (gd_name c.nd rfl (by first | exact .inl rfl | exact .inr rfl)) (gds_cons (gd_name c.nd rfl (by first | exact .inl rfl | exact .inr rfl)) gds_nil))))
    (xss_cons (xs_setLF c.calm c.nd rfl rfl rfl (xi_seq (xe_wk (xe_var 1))) (own := [("_law_row", 6)]) (blkOk_by (by kernel_rfl)) (by decide) (fun s1 H1 C1 cl1 fp1 => (gd_name (c.blk s1 H1 _ _ fp1).nd rfl (by first | exact .inl rfl | exact .inr rfl))) (fun s1 H1 C1 cl1 fp1 => xts_nil) (fun s1 H1 C1 cl1 fp1 => (xe_callTy cx_tup rfl G.b_tuple (by decide +kernel) (xa_cons (xe_frz (xl_comp (c.blk s1 H1 _ _ fp1).calm (c.blk s1 H1 _ _ fp1).nd (xi_zip rfl G.b_zip (xa_cons (xe_var 6) (xa_cons (xe_var 3) xa_nil))) (own := [("_law_mark_here", 7), ("_law_own", 8)]) (blkOk_by (by kernel_rfl)) (by decide) (fun s2 H2 C2 cl2 fp2 => (gd_tup ((c.blk s1 H1 _ _ fp1).blk s2 H2 _ _ fp2).calm (gds_cons (gd_name ((c.blk s1 H1 _ _ fp1).blk s2 H2 _ _ fp2).nd rfl (by first | exact .inl rfl | exact .inr rfl)) (gds_cons (gd_name ((c.blk s1 H1 _ _ fp1).blk s2 H2 _ _ fp2).nd rfl (by first | exact .inl rfl | exact .inr rfl)) gds_nil)))) (fun s2 H2 C2 cl2 fp2 => xts_nil) (fun s2 H2 C2 cl2 fp2 => (xe_bin ox_addA (xe_bin ox_mulA (xe_var 2) (xe_var 7)) (xe_var 8))))) xa_nil))))
    (xss_cons (xs_if (xt_cmp (ox_neA c.u64) (xe_frz (xl_comp c.calm c.nd (xi_seq (xe_var 4)) (own := [("_law_row", 6)]) (blkOk_by (by kernel_rfl)) (by decide) (fun s1 H1 C1 cl1 fp1 => (gd_name (c.blk s1 H1 _ _ fp1).nd rfl (by first | exact .inl rfl | exact .inr rfl))) (fun s1 H1 C1 cl1 fp1 => (xts_one (xt_w (xw_or (xt_cmp ox_gt (xe_fn h__law_most (c.blk s1 H1 _ _ fp1) (by decide) rfl (xa_cons (xe_var 6) xa_nil) (alen_cons alen_nil)) (xe_bin ox_pow xe_int xe_int) rfl) (xw_or1 (xt_cmp ox_lt (xe_fn h__law_least (c.blk s1 H1 _ _ fp1) (by decide) rfl (xa_cons (xe_var 6) xa_nil) (alen_cons alen_nil)) (xe_un ux_neg (xe_bin ox_pow xe_int xe_int)) rfl)))))) (fun s1 H1 C1 cl1 fp1 => (xe_var 6)))) (xe_frz (xl_disp xa_nil)) rfl) (xss_one (xs_ret (xe_var 1))) xss_nil)
    (xss_one (xs_ret (xe_callTy cx_tupK rfl G.b_tuple (by decide +kernel) (xa_cons (xe_var 4) xa_nil)))))))
theorem sc__law_bent : FnScope ["_law_deck_here", "_law_menu_here", "_law_at", "_law_answer", "_law_row"] ["_law_deck_here", "_law_menu_here"] (defScope (top 29)) := ⟨rfl, rfl, rfl, by decide +kernel, rfl, by decide +kernel, by decide +kernel⟩
theorem ok__law_bent (G : Gs mg) (E : Xs P w K mg base) (B : SysM base) (h__law_draw : Fn P w K mg base 1 "_law_draw" ["_law_deck_here", "_law_many"] [] f__law_draw_k28) (F : FunD K "_law_bent" "_law_bent" (defArgs (top 29)) (defBody (top 29)) (defScope (top 29)) [] [] f fd) : FnG P w K mg base 2 f fd ["_law_deck_here", "_law_menu_here"] (spD K mg 2 f__law_bent_k33) :=
  fn_ok (k := 1) F sc__law_bent fun cdv A outer s H Ex hg hr => by
  have c := cxe_of (P := P) (w := w) (K := K) (mg := mg) (base := base) (N := ["_law_deck_here", "_law_menu_here", "_law_at", "_law_answer", "_law_row"]) (outer := outer) (H := H) (E := Ex) (k := 1) sc__law_bent.nd hg hr B
  exact (xss_cons (xs_par c.calm c.nd rfl rfl (by decide) rfl rfl (xa_cons (xe_fn h__law_draw c (by decide) rfl (xa_cons (xe_var 0) (xa_cons (xe_callB cx_len rfl G.b_len (by decide +kernel) (xa_cons (xe_var 1) xa_nil)) xa_nil)) (alen_cons (alen_cons alen_nil))) (xa_cons (xe_fn h__law_draw c (by decide) rfl (xa_cons (xe_var 0) (xa_cons (xe_callB cx_len rfl G.b_len (by decide +kernel) (xa_cons (xe_ix (xe_var 1) xe_int fun _ _ => rfl) xa_nil)) xa_nil)) (alen_cons (alen_cons alen_nil))) xa_nil)) rfl)
    (xss_cons (xs_set c.nd rfl (by first | exact .inl rfl | exact .inr rfl) (xe_cell (xl_callTy cxl_list rfl G.b_list (by decide +kernel) (xa_cons (xe_ix (xe_var 1) (xe_var 2) fun _ _ => rfl) xa_nil))))
    (xss_cons (xs_setI (xe_var 4) (xe_var 3) (xe_bin ox_addA (xe_ix (xe_var 4) (xe_var 3) fun _ _ => rfl) (xe_if (xt_cmp ox_lt (xe_ix (xe_var 4) (xe_var 3) fun _ _ => rfl) (xe_bin ox_pow xe_int xe_int) rfl) xe_int (xe_un ux_neg xe_int))) (by intro _; rfl))
    (xss_one (xs_ret (xe_bin ox_addA (xe_bin ox_addA (xe_sl (xe_var 1) xo_none (xo_some (xe_var 2))) (xe_tup (xa_cons (xe_callTy cx_tup rfl G.b_tuple (by decide +kernel) (xa_cons (xe_var 4) xa_nil)) xa_nil))) (xe_sl (xe_var 1) (xo_some (xe_bin ox_addA (xe_var 2) xe_int)) xo_none)))))))
theorem sc_law : FnScope ["_law_script", "_law_deck_here", "_law_turn", "_law_menu_here", "_law_more", "_law_made_here", "_law_one_here", "_law_pairs", "_law_other"] ["_law_script"] (defScope (top 30)) := ⟨rfl, rfl, rfl, by decide +kernel, rfl, by decide +kernel, by decide +kernel⟩
theorem ok_law (G : Gs mg) (E : Xs P w K mg base) (B : SysM base) (h__law_bent : Fn P w K mg base 2 "_law_bent" ["_law_deck_here", "_law_menu_here"] [] f__law_bent_k33) (h__law_deck : Fn P w K mg base 1 "_law_deck" ["_law_script"] [] f__law_deck_k28) (h__law_due : Fn P w K mg base 3 "_law_due" ["_law_one_here", "_law_other"] [] f__law_due_k33x) (h__law_made : Fn P w K mg base 2 "_law_made" ["_law_deck_here", "_law_menu_here"] [] f__law_made_k33x) (h__law_menu : Fn P w K mg base 4 "_law_menu" ["_law_deck_here", "_law_most_here"] [] f__law_menu_k33) (h__law_plain : Fn P w K mg base 2 "_law_plain" ["_law_menu_here"] [] f__law_plain) (h__law_told : Fn P w K mg base 5 "_law_told" ["_law_one_here", "_law_other"] [] f__law_told_k33) (h_plain : Fn P w K mg base 2 "plain" ["menu"] [] f_plain) (F : FunD K "law" "law" (defArgs (top 30)) (defBody (top 30)) (defScope (top 30)) [] [] f fd) : FnG P w K mg base 6 f fd ["_law_script"] (spD K mg 1 f_law_k33x) :=
  fn_ok (k := 5) F sc_law fun cdv A outer s H Ex hg hr => by
  have c := cxe_of (P := P) (w := w) (K := K) (mg := mg) (base := base) (N := ["_law_script", "_law_deck_here", "_law_turn", "_law_menu_here", "_law_more", "_law_made_here", "_law_one_here", "_law_pairs", "_law_other"]) (outer := outer) (H := H) (E := Ex) (k := 5) sc_law.nd hg hr B
  exact (xss_cons (xs_set c.nd rfl (by first | exact .inl rfl | exact .inr rfl) (xe_fn h__law_deck c (by decide) rfl (xa_cons (xe_var 0) xa_nil) (alen_cons alen_nil)))
    (xss_cons (xs_for own_of c.calm (xi_range1 rfl G.b_range (xa_cons xe_int xa_nil)) (gd_name c.nd rfl (by first | exact .inl rfl | exact .inr rfl))
   (xss_cons (xs_par c.calm c.nd rfl rfl (by decide) rfl rfl (xa_cons (xe_fn h__law_menu c (by decide) rfl (xa_cons (xe_var 1) (xa_cons xe_int xa_nil)) (alen_cons (alen_cons alen_nil))) (xa_cons (xe_fn h__law_menu c (by decide) rfl (xa_cons (xe_var 1) (xa_cons xe_int xa_nil)) (alen_cons (alen_cons alen_nil))) xa_nil)) rfl)
    (xss_cons (xs_set c.nd rfl (by first | exact .inl rfl | exact .inr rfl) (xe_fn h__law_made c (by decide) rfl (xa_cons (xe_var 1) (xa_cons (xe_var 3) xa_nil)) (alen_cons (alen_cons alen_nil))))
    (xss_cons (xs_for own_of c.calm (xi_seq (xe_frz (xl_disp (xa_cons (xe_wk (xe_var 3)) (xa_cons (xe_wk (xe_var 5)) (xa_cons (xe_wk (xe_var 4)) (xa_cons (xe_bin ox_mulA (xe_sl (xe_wk (xe_var 3)) xo_none (xo_some xe_int)) xe_int) xa_nil))))))) (gd_name c.nd rfl (by first | exact .inl rfl | exact .inr rfl))
   (xss_one (xs_if (xt_cmp (ox_neA c.u64) (xe_callB (cx_repr c.g c.u64 c.sm) rfl G.b_repr (by decide +kernel) (xa_cons (xe_frz (xl_disp (xa_cons (xe_fn h_plain c (by decide) rfl (xa_cons (xe_wk (xe_var 6)) xa_nil) (alen_cons alen_nil)) (xa_cons (xe_fn h_plain c (by decide) rfl (xa_cons (xe_fn h_plain c (by decide) rfl (xa_cons (xe_wk (xe_var 6)) xa_nil) (alen_cons alen_nil)) xa_nil) (alen_cons alen_nil)) xa_nil)))) xa_nil)) (xe_callB (cx_repr c.g c.u64 c.sm) rfl G.b_repr (by decide +kernel) (xa_cons (xe_bin ox_mulA (xe_frz (xl_disp (xa_cons (xe_fn h__law_plain c (by decide) rfl (xa_cons (xe_wk (xe_var 6)) xa_nil) (alen_cons alen_nil)) xa_nil))) xe_int) xa_nil)) rfl) (xss_one (xs_ret xe_bl)) xss_nil)))
    (xss_cons (xs_set c.nd rfl (by first | exact .inl rfl | exact .inr rfl) (xe_cell (xl_disp (xa_cons (xe_tup (xa_cons (xe_var 3) (xa_cons (xe_var 5) xa_nil))) (xa_cons (xe_tup (xa_cons (xe_var 5) (xa_cons (xe_var 3) xa_nil))) (xa_cons (xe_tup (xa_cons (xe_var 3) (xa_cons (xe_var 3) xa_nil))) (xa_cons (xe_tup (xa_cons (xe_var 3) (xa_cons (xe_fn h__law_bent c (by decide) rfl (xa_cons (xe_var 1) (xa_cons (xe_wk (xe_var 5)) xa_nil)) (alen_cons (alen_cons alen_nil))) xa_nil))) (xa_cons (xe_tup (xa_cons (xe_var 3) (xa_cons (xe_rev (xe_wk (xe_var 5))) xa_nil))) xa_nil))))))))
    (xss_cons (xs_set c.nd rfl (by first | exact .inl rfl | exact .inr rfl) (xe_cell (xl_bin oxl_cat (xe_var 7) (xe_frz (xl_disp (xa_cons (xe_tup (xa_cons (xe_var 5) (xa_cons (xe_fn h__law_made c (by decide) rfl (xa_cons (xe_var 1) (xa_cons (xe_var 3) xa_nil)) (alen_cons (alen_cons alen_nil))) xa_nil))) (xa_cons (xe_tup (xa_cons (xe_var 3) (xa_cons (xe_bin ox_addA (xe_sl (xe_wk (xe_var 5)) xo_none (xo_some (xe_un ux_neg xe_int))) (xe_sl (xe_wk (xe_var 3)) xo_none (xo_some xe_int))) xa_nil))) (xa_cons (xe_tup (xa_cons (xe_var 3) (xa_cons (xe_var 4) xa_nil))) xa_nil))))))))
    (xss_cons (xs_expr (xe_app (xe_var 7) (xe_tup (xa_cons (xe_var 4) (xa_cons (xe_var 5) xa_nil)))))
    (xss_cons (xs_set c.nd rfl (by first | exact .inl rfl | exact .inr rfl) (xe_cell (xl_bin oxl_cat (xe_var 7) (xe_frz (xl_disp (xa_cons (xe_tup (xa_cons (xe_bin ox_mulK (xe_sl (xe_wk (xe_var 3)) xo_none (xo_some xe_int)) xe_int) (xa_cons (xe_bin ox_mulK (xe_sl (xe_wk (xe_var 5)) xo_none (xo_some xe_int)) xe_int) xa_nil))) (xa_cons (xe_tup (xa_cons (xe_bin ox_mulK (xe_sl (xe_wk (xe_var 3)) xo_none (xo_some xe_int)) xe_int) (xa_cons (xe_bin ox_mulK (xe_sl (xe_wk (xe_var 3)) xo_none (xo_some xe_int)) xe_int) xa_nil))) (xa_cons (xe_tup (xa_cons (xe_bin ox_mulK (xe_sl (xe_wk (xe_var 3)) xo_none (xo_some xe_int)) xe_int) (xa_cons (xe_sl (xe_wk (xe_var 5)) xo_none (xo_some xe_int)) xa_nil))) xa_nil))))))))
    (xss_one (xs_for own_of c.calm (xi_seq (xe_var 7)) (gd_tup c.calm (gds_cons (gd_name c.nd rfl (by first | exact .inl rfl | exact .inr rfl)) (gds_cons (gd_name c.nd rfl (by first | exact .inl rfl | exact .inr rfl)) gds_nil)))
   (xss_one (xs_if (xt_w (xw_and (xt_cmp (ox_neA c.u64) (xe_wk (xe_var 8)) (xe_tup xa_nil) rfl) (xw_and1 (xt_cmp (ox_neA c.u64) (xe_callB (cx_repr c.g c.u64 c.sm) rfl G.b_repr (by decide +kernel) (xa_cons (xe_fn h__law_told c (by decide) rfl (xa_cons (xe_wk (xe_var 6)) (xa_cons (xe_wk (xe_var 8)) xa_nil)) (alen_cons (alen_cons alen_nil))) xa_nil)) (xe_callB (cx_repr c.g c.u64 c.sm) rfl G.b_repr (by decide +kernel) (xa_cons (xe_fn h__law_due c (by decide) rfl (xa_cons (xe_var 6) (xa_cons (xe_var 8) xa_nil)) (alen_cons (alen_cons alen_nil))) xa_nil)) rfl)))) (xss_one (xs_ret xe_bl)) xss_nil))))))))))))
    (xss_one (xs_ret xe_bl))))
end
end K33
end
set_option maxHeartbeats 0
noncomputable section
namespace K33
open PySem PySem.Spec PyProof.Rows L2 Fk Sm
def d_divisor_of : He.DefD := ⟨("divisor_of", none), "divisor_of", "divisor_of", defArgs (top 4), defBody (top 4), defScope (top 4), [], []⟩
def d_primitive : He.DefD := ⟨("primitive", none), "primitive", "primitive", defArgs (top 5), defBody (top 5), defScope (top 5), [], []⟩
def d_fraction : He.DefD := ⟨("fraction", none), "fraction", "fraction", defArgs (top 6), defBody (top 6), defScope (top 6), [], []⟩
def d_most_of : He.DefD := ⟨("most_of", none), "most_of", "most_of", defArgs (top 8), defBody (top 8), defScope (top 8), [], []⟩
def d_least_of : He.DefD := ⟨("least_of", none), "least_of", "least_of", defArgs (top 9), defBody (top 9), defScope (top 9), [], []⟩
def d_tops_of : He.DefD := ⟨("tops_of", none), "tops_of", "tops_of", defArgs (top 10), defBody (top 10), defScope (top 10), [], []⟩
def d_plain : He.DefD := ⟨("plain", none), "plain", "plain", defArgs (top 11), defBody (top 11), defScope (top 11), [], []⟩
def d_most_apart : He.DefD := ⟨("most_apart", none), "most_apart", "most_apart", defArgs (top 12), defBody (top 12), defScope (top 12), [], []⟩
def d_like : He.DefD := ⟨("like", none), "like", "like", defArgs (top 13), defBody (top 13), defScope (top 13), [], []⟩
def d__law_deck : He.DefD := ⟨("_law_deck", none), "_law_deck", "_law_deck", defArgs (top 15), defBody (top 15), defScope (top 15), [], []⟩
def d__law_draw : He.DefD := ⟨("_law_draw", none), "_law_draw", "_law_draw", defArgs (top 16), defBody (top 16), defScope (top 16), [], []⟩
def d__law_one : He.DefD := ⟨("_law_one", none), "_law_one", "_law_one", defArgs (top 17), defBody (top 17), defScope (top 17), [], []⟩
def d__law_most : He.DefD := ⟨("_law_most", none), "_law_most", "_law_most", defArgs (top 18), defBody (top 18), defScope (top 18), [], []⟩
def d__law_least : He.DefD := ⟨("_law_least", none), "_law_least", "_law_least", defArgs (top 19), defBody (top 19), defScope (top 19), [], []⟩
def d__law_divisor : He.DefD := ⟨("_law_divisor", none), "_law_divisor", "_law_divisor", defArgs (top 20), defBody (top 20), defScope (top 20), [], []⟩
def d__law_primitive : He.DefD := ⟨("_law_primitive", none), "_law_primitive", "_law_primitive", defArgs (top 21), defBody (top 21), defScope (top 21), [], []⟩
def d__law_mark : He.DefD := ⟨("_law_mark", none), "_law_mark", "_law_mark", defArgs (top 22), defBody (top 22), defScope (top 22), [], []⟩
def d__law_mixed_row : He.DefD := ⟨("_law_mixed_row", none), "_law_mixed_row", "_law_mixed_row", defArgs (top 23), defBody (top 23), defScope (top 23), [], []⟩
def d__law_menu : He.DefD := ⟨("_law_menu", none), "_law_menu", "_law_menu", defArgs (top 24), defBody (top 24), defScope (top 24), [], []⟩
def d__law_plain : He.DefD := ⟨("_law_plain", none), "_law_plain", "_law_plain", defArgs (top 25), defBody (top 25), defScope (top 25), [], []⟩
def d__law_told : He.DefD := ⟨("_law_told", none), "_law_told", "_law_told", defArgs (top 26), defBody (top 26), defScope (top 26), [], []⟩
def d__law_due : He.DefD := ⟨("_law_due", none), "_law_due", "_law_due", defArgs (top 27), defBody (top 27), defScope (top 27), [], []⟩
def d__law_made : He.DefD := ⟨("_law_made", none), "_law_made", "_law_made", defArgs (top 28), defBody (top 28), defScope (top 28), [], []⟩
def d__law_bent : He.DefD := ⟨("_law_bent", none), "_law_bent", "_law_bent", defArgs (top 29), defBody (top 29), defScope (top 29), [], []⟩
def d_law : He.DefD := ⟨("law", none), "law", "law", defArgs (top 30), defBody (top 30), defScope (top 30), [], []⟩
def fn : List He.DefD := [d_divisor_of, d_primitive, d_fraction, d_most_of, d_least_of, d_tops_of, d_plain, d_most_apart, d_like, d__law_deck, d__law_draw, d__law_one, d__law_most, d__law_least, d__law_divisor, d__law_primitive, d__law_mark, d__law_mixed_row, d__law_menu, d__law_plain, d__law_told, d__law_due, d__law_made, d__law_bent, d_law]
def fa : List He.Fa := [.glo "divisor_of", .glo "primitive", .glo "fraction", .glo "most_of", .glo "least_of", .glo "tops_of", .glo "plain", .glo "most_apart", .glo "like", .glo "_law_deck", .glo "_law_draw", .glo "_law_one", .glo "_law_most", .glo "_law_least", .glo "_law_divisor", .glo "_law_primitive", .glo "_law_mark", .glo "_law_mixed_row", .glo "_law_menu", .glo "_law_plain", .glo "_law_told", .glo "_law_due", .glo "_law_made", .glo "_law_bent", .glo "law", .free "abs", .free "enumerate", .free "int", .free "len", .free "list", .free "max", .free "min", .free "range", .free "repr", .free "tuple", .free "zip", .glo "FrankError", .free "BadAnswers", .free "BadBatch", .free "BadBelief", .free "BadMark", .free "BadMenu", .free "BadNumber", .free "BadRow", .free "BadText", .free "Busy", .free "LastWord", .free "NoAnswer", .free "NoCell", .free "NotFrank", .free "NothingToUndo", .free "NoVersion", .free "NoWord", .free "Rejected", .free "TooFew", .free "TooGreat", .free "TooMany", .free "TooManyEdits", .glo "Unlike", .exc "Unlike"]
def xl : List Xc := [.exm "FrankError" "Unlike" false, .exm "Unlike" "Unlike" true]
abbrev R : PySem.W.OpenRow := PySem.W.OpenLaw.row PySem.Challenge.rw_frankmarks_k33_plain_and_like
def tn : List Str := ["law"]
abbrev hk : PySem.W.Hook := hookS (xct tn xl) 6 fa fn
def ob (s : PySem.W.SharedT) : AlS := obsS (xct tn xl) 6 fa fn (HandSHeadRun.getT s)
theorem ob_eq (s : PySem.W.SharedT) : ob s = hk.obs s.abs := obsS_eq (HandSHeadRun.getT_eq s)
def loose : List Str := (["FrankError", "Unlike", "divisor_of", "primitive", "fraction", "most_of", "least_of", "tops_of", "plain", "most_apart", "like", "_law_deck", "_law_draw", "_law_one", "_law_most", "_law_least", "_law_divisor", "_law_primitive", "_law_mark", "_law_mixed_row", "_law_menu", "_law_plain", "_law_told", "_law_due", "_law_made", "_law_bent"] : List Str)
theorem run (w : World) : HandSHeadRun.RunEq R (PySem.W.view R.prog [30]) hk ob 20000 loose w := by
  intro os
  kernel_rfl
theorem facts {P : Program} {w : World} {K : PySem.W.Frag} {h : Heap} {mg : Str → Option Value} {f : Addr} (X : K.In h) (Gn : h.Ns mainGlobals mg) (hfa : mg ("law" : Str) = some (.ref f)) (c : He.SaysD fa fn K) (hs : (smB K && xct tn xl K) = true) :
    ∃ fd : FuncData, (∀ (s : Shared) (v : Value), BindsTo s fd ⟨[v], []⟩ [("_law_script", v)]) ∧ ∀ base : Heap, K.In base → base.Ns mainGlobals mg → (∀ p ∈ tabsK K, LamX.TabB base mg p.1 p.2.1) → FnG P w K mg base 6 f fd ["_law_script"] (spD K mg 1 f_law_k33x) := by
  obtain ⟨hs, hx⟩ := Bool.and_eq_true_iff.mp hs
  obtain ⟨_, hx⟩ := Bool.and_eq_true_iff.mp hx
  obtain ⟨fd_divisor_of, F_divisor_of⟩ := c.def_ 0 (d := d_divisor_of) rfl
  have m_divisor_of := He.glo_ok X Gn (c.fact 0 (f := .glo "divisor_of") rfl)
  obtain ⟨fd_primitive, F_primitive⟩ := c.def_ 1 (d := d_primitive) rfl
  have m_primitive := He.glo_ok X Gn (c.fact 1 (f := .glo "primitive") rfl)
  obtain ⟨fd_fraction, F_fraction⟩ := c.def_ 2 (d := d_fraction) rfl
  have m_fraction := He.glo_ok X Gn (c.fact 2 (f := .glo "fraction") rfl)
  obtain ⟨fd_most_of, F_most_of⟩ := c.def_ 3 (d := d_most_of) rfl
  have m_most_of := He.glo_ok X Gn (c.fact 3 (f := .glo "most_of") rfl)
  obtain ⟨fd_least_of, F_least_of⟩ := c.def_ 4 (d := d_least_of) rfl
  have m_least_of := He.glo_ok X Gn (c.fact 4 (f := .glo "least_of") rfl)
  obtain ⟨fd_tops_of, F_tops_of⟩ := c.def_ 5 (d := d_tops_of) rfl
  have m_tops_of := He.glo_ok X Gn (c.fact 5 (f := .glo "tops_of") rfl)
  obtain ⟨fd_plain, F_plain⟩ := c.def_ 6 (d := d_plain) rfl
  have m_plain := He.glo_ok X Gn (c.fact 6 (f := .glo "plain") rfl)
  obtain ⟨fd_most_apart, F_most_apart⟩ := c.def_ 7 (d := d_most_apart) rfl
  have m_most_apart := He.glo_ok X Gn (c.fact 7 (f := .glo "most_apart") rfl)
  obtain ⟨fd_like, F_like⟩ := c.def_ 8 (d := d_like) rfl
  have m_like := He.glo_ok X Gn (c.fact 8 (f := .glo "like") rfl)
  obtain ⟨fd__law_deck, F__law_deck⟩ := c.def_ 9 (d := d__law_deck) rfl
  have m__law_deck := He.glo_ok X Gn (c.fact 9 (f := .glo "_law_deck") rfl)
  obtain ⟨fd__law_draw, F__law_draw⟩ := c.def_ 10 (d := d__law_draw) rfl
  have m__law_draw := He.glo_ok X Gn (c.fact 10 (f := .glo "_law_draw") rfl)
  obtain ⟨fd__law_one, F__law_one⟩ := c.def_ 11 (d := d__law_one) rfl
  have m__law_one := He.glo_ok X Gn (c.fact 11 (f := .glo "_law_one") rfl)
  obtain ⟨fd__law_most, F__law_most⟩ := c.def_ 12 (d := d__law_most) rfl
  have m__law_most := He.glo_ok X Gn (c.fact 12 (f := .glo "_law_most") rfl)
  obtain ⟨fd__law_least, F__law_least⟩ := c.def_ 13 (d := d__law_least) rfl
  have m__law_least := He.glo_ok X Gn (c.fact 13 (f := .glo "_law_least") rfl)
  obtain ⟨fd__law_divisor, F__law_divisor⟩ := c.def_ 14 (d := d__law_divisor) rfl
  have m__law_divisor := He.glo_ok X Gn (c.fact 14 (f := .glo "_law_divisor") rfl)
  obtain ⟨fd__law_primitive, F__law_primitive⟩ := c.def_ 15 (d := d__law_primitive) rfl
  have m__law_primitive := He.glo_ok X Gn (c.fact 15 (f := .glo "_law_primitive") rfl)
  obtain ⟨fd__law_mark, F__law_mark⟩ := c.def_ 16 (d := d__law_mark) rfl
  have m__law_mark := He.glo_ok X Gn (c.fact 16 (f := .glo "_law_mark") rfl)
  obtain ⟨fd__law_mixed_row, F__law_mixed_row⟩ := c.def_ 17 (d := d__law_mixed_row) rfl
  have m__law_mixed_row := He.glo_ok X Gn (c.fact 17 (f := .glo "_law_mixed_row") rfl)
  obtain ⟨fd__law_menu, F__law_menu⟩ := c.def_ 18 (d := d__law_menu) rfl
  have m__law_menu := He.glo_ok X Gn (c.fact 18 (f := .glo "_law_menu") rfl)
  obtain ⟨fd__law_plain, F__law_plain⟩ := c.def_ 19 (d := d__law_plain) rfl
  have m__law_plain := He.glo_ok X Gn (c.fact 19 (f := .glo "_law_plain") rfl)
  obtain ⟨fd__law_told, F__law_told⟩ := c.def_ 20 (d := d__law_told) rfl
  have m__law_told := He.glo_ok X Gn (c.fact 20 (f := .glo "_law_told") rfl)
  obtain ⟨fd__law_due, F__law_due⟩ := c.def_ 21 (d := d__law_due) rfl
  have m__law_due := He.glo_ok X Gn (c.fact 21 (f := .glo "_law_due") rfl)
  obtain ⟨fd__law_made, F__law_made⟩ := c.def_ 22 (d := d__law_made) rfl
  have m__law_made := He.glo_ok X Gn (c.fact 22 (f := .glo "_law_made") rfl)
  obtain ⟨fd__law_bent, F__law_bent⟩ := c.def_ 23 (d := d__law_bent) rfl
  have m__law_bent := He.glo_ok X Gn (c.fact 23 (f := .glo "_law_bent") rfl)
  obtain ⟨fd_law, F_law⟩ := c.def_ 24 (d := d_law) rfl
  have m_law := He.glo_ok X Gn (c.fact 24 (f := .glo "law") rfl)
  have G : Gs mg := ⟨He.free_ok X Gn (c.fact 25 (f := .free "abs") rfl),
    He.free_ok X Gn (c.fact 26 (f := .free "enumerate") rfl),
    He.free_ok X Gn (c.fact 27 (f := .free "int") rfl),
    He.free_ok X Gn (c.fact 28 (f := .free "len") rfl),
    He.free_ok X Gn (c.fact 29 (f := .free "list") rfl),
    He.free_ok X Gn (c.fact 30 (f := .free "max") rfl),
    He.free_ok X Gn (c.fact 31 (f := .free "min") rfl),
    He.free_ok X Gn (c.fact 32 (f := .free "range") rfl),
    He.free_ok X Gn (c.fact 33 (f := .free "repr") rfl),
    He.free_ok X Gn (c.fact 34 (f := .free "tuple") rfl),
    He.free_ok X Gn (c.fact 35 (f := .free "zip") rfl)⟩
  have e_FrankError := c.fact 36 (f := .glo "FrankError") rfl
  have em_FrankError := He.glo_ok X Gn e_FrankError
  have en_FrankError := ga_ns e_FrankError
  have e_BadAnswers := c.fact 37 (f := .free "BadAnswers") rfl
  have em_BadAnswers := He.free_ok X Gn e_BadAnswers
  have en_BadAnswers := fr_ns e_BadAnswers
  have e_BadBatch := c.fact 38 (f := .free "BadBatch") rfl
  have em_BadBatch := He.free_ok X Gn e_BadBatch
  have en_BadBatch := fr_ns e_BadBatch
  have e_BadBelief := c.fact 39 (f := .free "BadBelief") rfl
  have em_BadBelief := He.free_ok X Gn e_BadBelief
  have en_BadBelief := fr_ns e_BadBelief
  have e_BadMark := c.fact 40 (f := .free "BadMark") rfl
  have em_BadMark := He.free_ok X Gn e_BadMark
  have en_BadMark := fr_ns e_BadMark
  have e_BadMenu := c.fact 41 (f := .free "BadMenu") rfl
  have em_BadMenu := He.free_ok X Gn e_BadMenu
  have en_BadMenu := fr_ns e_BadMenu
  have e_BadNumber := c.fact 42 (f := .free "BadNumber") rfl
  have em_BadNumber := He.free_ok X Gn e_BadNumber
  have en_BadNumber := fr_ns e_BadNumber
  have e_BadRow := c.fact 43 (f := .free "BadRow") rfl
  have em_BadRow := He.free_ok X Gn e_BadRow
  have en_BadRow := fr_ns e_BadRow
  have e_BadText := c.fact 44 (f := .free "BadText") rfl
  have em_BadText := He.free_ok X Gn e_BadText
  have en_BadText := fr_ns e_BadText
  have e_Busy := c.fact 45 (f := .free "Busy") rfl
  have em_Busy := He.free_ok X Gn e_Busy
  have en_Busy := fr_ns e_Busy
  have e_LastWord := c.fact 46 (f := .free "LastWord") rfl
  have em_LastWord := He.free_ok X Gn e_LastWord
  have en_LastWord := fr_ns e_LastWord
  have e_NoAnswer := c.fact 47 (f := .free "NoAnswer") rfl
  have em_NoAnswer := He.free_ok X Gn e_NoAnswer
  have en_NoAnswer := fr_ns e_NoAnswer
  have e_NoCell := c.fact 48 (f := .free "NoCell") rfl
  have em_NoCell := He.free_ok X Gn e_NoCell
  have en_NoCell := fr_ns e_NoCell
  have e_NotFrank := c.fact 49 (f := .free "NotFrank") rfl
  have em_NotFrank := He.free_ok X Gn e_NotFrank
  have en_NotFrank := fr_ns e_NotFrank
  have e_NothingToUndo := c.fact 50 (f := .free "NothingToUndo") rfl
  have em_NothingToUndo := He.free_ok X Gn e_NothingToUndo
  have en_NothingToUndo := fr_ns e_NothingToUndo
  have e_NoVersion := c.fact 51 (f := .free "NoVersion") rfl
  have em_NoVersion := He.free_ok X Gn e_NoVersion
  have en_NoVersion := fr_ns e_NoVersion
  have e_NoWord := c.fact 52 (f := .free "NoWord") rfl
  have em_NoWord := He.free_ok X Gn e_NoWord
  have en_NoWord := fr_ns e_NoWord
  have e_Rejected := c.fact 53 (f := .free "Rejected") rfl
  have em_Rejected := He.free_ok X Gn e_Rejected
  have en_Rejected := fr_ns e_Rejected
  have e_TooFew := c.fact 54 (f := .free "TooFew") rfl
  have em_TooFew := He.free_ok X Gn e_TooFew
  have en_TooFew := fr_ns e_TooFew
  have e_TooGreat := c.fact 55 (f := .free "TooGreat") rfl
  have em_TooGreat := He.free_ok X Gn e_TooGreat
  have en_TooGreat := fr_ns e_TooGreat
  have e_TooMany := c.fact 56 (f := .free "TooMany") rfl
  have em_TooMany := He.free_ok X Gn e_TooMany
  have en_TooMany := fr_ns e_TooMany
  have e_TooManyEdits := c.fact 57 (f := .free "TooManyEdits") rfl
  have em_TooManyEdits := He.free_ok X Gn e_TooManyEdits
  have en_TooManyEdits := fr_ns e_TooManyEdits
  have e_Unlike := c.fact 58 (f := .glo "Unlike") rfl
  have em_Unlike := He.glo_ok X Gn e_Unlike
  have en_Unlike := ga_ns e_Unlike
  have e := hfa.symm.trans m_law
  cases e
  refine ⟨fd_law, fun s v => FunD.bindsA (ps := ["_law_script"]) F_law (fun _ _ _ _ _ _ us hl => match us, hl with | [_], _ => rfl) s [v] rfl, fun base Kb _ TT => ?_⟩
  have B := smB_ok hs Kb
  have E : Xs P w K mg base := ⟨exc0_of em_Unlike (c.fact 59 (f := .exc "Unlike") rfl),
    ⟨AllT.all ⟨here_m em_FrankError en_FrankError, gone_m em_BadAnswers, gone_m em_BadBatch, gone_m em_BadBelief, gone_m em_BadMark, gone_m em_BadMenu, gone_m em_BadNumber, gone_m em_BadRow, gone_m em_BadText, gone_m em_Busy, gone_m em_LastWord, gone_m em_NoAnswer, gone_m em_NoCell, gone_m em_NotFrank, gone_m em_NothingToUndo, gone_m em_NoVersion, gone_m em_NoWord, gone_m em_Rejected, gone_m em_TooFew, gone_m em_TooGreat, gone_m em_TooMany, gone_m em_TooManyEdits, here_m em_Unlike en_Unlike, trivial⟩⟩,
    ⟨_, em_Unlike, AllT.all ⟨here_m em_FrankError (of_decide_eq_true (xcs_at hx 0 (x := .exm "FrankError" "Unlike" false) rfl)), gone_m em_BadAnswers, gone_m em_BadBatch, gone_m em_BadBelief, gone_m em_BadMark, gone_m em_BadMenu, gone_m em_BadNumber, gone_m em_BadRow, gone_m em_BadText, gone_m em_Busy, gone_m em_LastWord, gone_m em_NoAnswer, gone_m em_NoCell, gone_m em_NotFrank, gone_m em_NothingToUndo, gone_m em_NoVersion, gone_m em_NoWord, gone_m em_Rejected, gone_m em_TooFew, gone_m em_TooGreat, gone_m em_TooMany, gone_m em_TooManyEdits, here_m em_Unlike (of_decide_eq_true (xcs_at hx 1 (x := .exm "Unlike" "Unlike" true) rfl)), trivial⟩⟩⟩
  have h_divisor_of : Fn P w K mg base 1 "divisor_of" ["values"] [] f_divisor_of := Fn.allN F_divisor_of m_divisor_of (ok_divisor_of G E B F_divisor_of) (fun _ _ _ _ _ _ us hl => match us, hl with | [_], _ => rfl)
  have h_primitive : Fn P w K mg base 2 "primitive" ["values"] [] f_primitive := Fn.allN F_primitive m_primitive (ok_primitive G E B h_divisor_of F_primitive) (fun _ _ _ _ _ _ us hl => match us, hl with | [_], _ => rfl)
  have h_fraction : Fn P w K mg base 3 "fraction" ["top", "bottom"] [] f_fraction := Fn.allN F_fraction m_fraction (ok_fraction G E B h_primitive F_fraction) (fun _ _ _ _ _ _ us hl => match us, hl with | [_, _], _ => rfl)
  have h_most_of : Fn P w K mg base 1 "most_of" ["numbers"] [] f_most_of := Fn.allN F_most_of m_most_of (ok_most_of G E B F_most_of) (fun _ _ _ _ _ _ us hl => match us, hl with | [_], _ => rfl)
  have h_least_of : Fn P w K mg base 1 "least_of" ["numbers"] [] f_least_of := Fn.allN F_least_of m_least_of (ok_least_of G E B F_least_of) (fun _ _ _ _ _ _ us hl => match us, hl with | [_], _ => rfl)
  have h_tops_of : Fn P w K mg base 2 "tops_of" ["menu"] [] f_tops_of := Fn.allN F_tops_of m_tops_of (ok_tops_of G E B h_most_of F_tops_of) (fun _ _ _ _ _ _ us hl => match us, hl with | [_], _ => rfl)
  have h_plain : Fn P w K mg base 2 "plain" ["menu"] [] f_plain := Fn.allN F_plain m_plain (ok_plain G E B h_divisor_of h_least_of F_plain) (fun _ _ _ _ _ _ us hl => match us, hl with | [_], _ => rfl)
  have h_most_apart : Fn P w K mg base 3 "most_apart" ["menu"] [] f_most_apart := Fn.allN F_most_apart m_most_apart (ok_most_apart G E B h_least_of h_most_of h_tops_of F_most_apart) (fun _ _ _ _ _ _ us hl => match us, hl with | [_], _ => rfl)
  have h_like : Fn P w K mg base 4 "like" ["one", "other"] [] f_like := Fn.allN F_like m_like (ok_like G E B h_fraction h_most_apart h_plain F_like) (fun _ _ _ _ _ _ us hl => match us, hl with | [_, _], _ => rfl)
  have h__law_deck : Fn P w K mg base 1 "_law_deck" ["_law_script"] [] f__law_deck_k28 := Fn.allN F__law_deck m__law_deck (ok__law_deck G E B F__law_deck) (fun _ _ _ _ _ _ us hl => match us, hl with | [_], _ => rfl)
  have h__law_draw : Fn P w K mg base 1 "_law_draw" ["_law_deck_here", "_law_many"] [] f__law_draw_k28 := Fn.allN F__law_draw m__law_draw (ok__law_draw G E B F__law_draw) (fun _ _ _ _ _ _ us hl => match us, hl with | [_, _], _ => rfl)
  have h__law_one : Fn P w K mg base 2 "_law_one" ["_law_deck_here", "_law_items"] [] f__law_one_k28 := Fn.allN F__law_one m__law_one (ok__law_one G E B h__law_draw F__law_one) (fun _ _ _ _ _ _ us hl => match us, hl with | [_, _], _ => rfl)
  have h__law_most : Fn P w K mg base 1 "_law_most" ["_law_numbers"] [] f__law_most := Fn.allN F__law_most m__law_most (ok__law_most G E B F__law_most) (fun _ _ _ _ _ _ us hl => match us, hl with | [_], _ => rfl)
  have h__law_least : Fn P w K mg base 1 "_law_least" ["_law_numbers"] [] f__law_least_k30 := Fn.allN F__law_least m__law_least (ok__law_least G E B F__law_least) (fun _ _ _ _ _ _ us hl => match us, hl with | [_], _ => rfl)
  have h__law_divisor : Fn P w K mg base 1 "_law_divisor" ["_law_numbers"] [] f__law_divisor := Fn.allN F__law_divisor m__law_divisor (ok__law_divisor G E B F__law_divisor) (fun _ _ _ _ _ _ us hl => match us, hl with | [_], _ => rfl)
  have h__law_primitive : Fn P w K mg base 2 "_law_primitive" ["_law_numbers"] [] f__law_primitive_k28 := Fn.allN F__law_primitive m__law_primitive (ok__law_primitive G E B h__law_divisor F__law_primitive) (fun _ _ _ _ _ _ us hl => match us, hl with | [_], _ => rfl)
  have h__law_mark : Fn P w K mg base 3 "_law_mark" ["_law_deck_here", "_law_far"] [] f__law_mark_k28 := Fn.allN F__law_mark m__law_mark (ok__law_mark G E B h__law_draw h__law_one F__law_mark) (fun _ _ _ _ _ _ us hl => match us, hl with | [_, _], _ => rfl)
  have h__law_mixed_row : Fn P w K mg base 3 "_law_mixed_row" ["_law_deck_here", "_law_rows"] [] f__law_mixed_row := Fn.allN F__law_mixed_row m__law_mixed_row (ok__law_mixed_row G E B h__law_draw h__law_one F__law_mixed_row) (fun _ _ _ _ _ _ us hl => match us, hl with | [_, _], _ => rfl)
  have h__law_menu : Fn P w K mg base 4 "_law_menu" ["_law_deck_here", "_law_most_here"] [] f__law_menu_k33 := Fn.allN F__law_menu m__law_menu (ok__law_menu G E B h__law_draw h__law_mark h__law_mixed_row h__law_one F__law_menu) (fun _ _ _ _ _ _ us hl => match us, hl with | [_, _], _ => rfl)
  have h__law_plain : Fn P w K mg base 2 "_law_plain" ["_law_menu_here"] [] f__law_plain := Fn.allN F__law_plain m__law_plain (ok__law_plain G E B h__law_divisor h__law_least F__law_plain) (fun _ _ _ _ _ _ us hl => match us, hl with | [_], _ => rfl)
  have h__law_told : Fn P w K mg base 5 "_law_told" ["_law_one_here", "_law_other"] [] f__law_told_k33 := Fn.allN F__law_told m__law_told (ok__law_told G E B h_like F__law_told) (fun _ _ _ _ _ _ us hl => match us, hl with | [_, _], _ => rfl)
  have h__law_due : Fn P w K mg base 3 "_law_due" ["_law_one_here", "_law_other"] [] f__law_due_k33x := Fn.allN F__law_due m__law_due (ok__law_due G E B h__law_plain h__law_primitive F__law_due) (fun _ _ _ _ _ _ us hl => match us, hl with | [_, _], _ => rfl)
  have h__law_made : Fn P w K mg base 2 "_law_made" ["_law_deck_here", "_law_menu_here"] [] f__law_made_k33x := Fn.allN F__law_made m__law_made (ok__law_made G E B h__law_draw h__law_least h__law_most F__law_made) (fun _ _ _ _ _ _ us hl => match us, hl with | [_, _], _ => rfl)
  have h__law_bent : Fn P w K mg base 2 "_law_bent" ["_law_deck_here", "_law_menu_here"] [] f__law_bent_k33 := Fn.allN F__law_bent m__law_bent (ok__law_bent G E B h__law_draw F__law_bent) (fun _ _ _ _ _ _ us hl => match us, hl with | [_, _], _ => rfl)
  exact ok_law G E B h__law_bent h__law_deck h__law_due h__law_made h__law_menu h__law_plain h__law_told h_plain F_law
end K33
end
set_option maxHeartbeats 0
open PySem PySem.W PySem.Calls PyProof.Rows in
theorem PySem.Challenge.cw_frankmarks_k33_plain_and_like_holds : PySem.Challenge.rw_frankmarks_k33_plain_and_like.Holds := by
  w_on; o_law
  refine HandSHeadRun.head_any (r := OpenLaw.row PySem.Challenge.rw_frankmarks_k33_plain_and_like) (q := view (OpenLaw.row PySem.Challenge.rw_frankmarks_k33_plain_and_like).prog [30]) (H := K33.hk) (ob := K33.ob) (M := 20000) (loose := K33.loose) (d := HandSHeadRun.topDef (OpenLaw.row PySem.Challenge.rw_frankmarks_k33_plain_and_like).prog 30) (kwd := []) K33.ob_eq
    (by kernel_rfl) (fun s => by kernel_rfl) K33.run (by kernel_rfl) (by kernel_rfl) (by kernel_rfl) (by rfl) (by first | assumption | decide +kernel) (by decide +kernel) ⟨rfl, rfl, rfl, rfl, rfl, by decide +kernel⟩ ?hw ?hc
  case hw => w_witness2
  case hc =>
    refine Fk.walk_ofG (l := PySem.Challenge.rw_frankmarks_k33_plain_and_like) (n := 63) (k := 6) (x := "_law_script") (fs := Sm.f_law_k33x) (tn := K33.tn) rfl (by decide) (by kernel_rfl) ⟨rfl, by decide, by decide⟩ (by intro x hx; revert x; decide +kernel) ?F K33.plain
    intro w mg fa h Y G hmg0
    obtain ⟨K, KX, c, hs⟩ := Y
    have hmg : mg ("law" : PySem.Str) = some (.ref fa) := by
      have e : (HandSHeadRun.topDef (OpenLaw.row PySem.Challenge.rw_frankmarks_k33_plain_and_like).prog 30).name = ("law" : PySem.Str) := by kernel_rfl
      rw [← e]
      exact hmg0
    obtain ⟨fd, hb, hF⟩ := K33.facts (P := PySem.Challenge.rw_frankmarks_k33_plain_and_like.prog) (w := w) KX G hmg c hs
    exact ⟨K, fd, KX, (Bool.and_eq_true_iff.mp (Bool.and_eq_true_iff.mp hs).2).1, hb, hF⟩
