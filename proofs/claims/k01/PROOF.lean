import PyProof.Rows.All
import Wide.All
import OpenK.AllK
import Wide.FinOn
import HandS.ForMost
import HandS.ForExc
import HandS.Flow
import HandS.Wide
import HandS.IsInst
import HandS.Deep
import HandS.Conv
import HandS.TupAny
import HandS.TupMul
import HandS.Walk
import HandS.Zip
import HandS.CallSlots
import HandS.TryMany
import HandS.Defaults
import HandS.Lambda
import KE.GoesMore
import HandS.ExcCtx
import HandS.EndBits
import HandS.HeadEnd
import HandS.HeadHook4
import HandS.Head2
import HandS.Style
import PyProof.P3In
import PyProof.Rows.IntBool
import PyProof.CallStr
import KE.GoesEnum
import HandS.ExcInit
import HandS.ExcField
import HandS.ExcIs
import HandS.Small
import KE.KExcIs
import KE.KTupSum
import PyProof.StrLawsRepr
import HandS.TupSets
import KE.KDictPairs
import HandS.NoneIn
import KE.SortData
import PyProof.EqKinds
import PyProof.NeData
import KE.KDictWalk
import KE.KDictDisplayH
import HandS.SortInts
import HandS.Strs
import HandS.TupLe
import HandS.Text
import HandS.ReplaceLit
import OpenK.KMeth
import OpenK.KOps
import KE.KOpsOwn
import KE.KCallOwn
import HandS.Property
import HandS.SlotsOwn
import HandS.HeadHook3
import HandS.FStr
import HandS.Star
import HandS.SuiteRaise
import HandS.ExcInitHot
import HandS.Finally
import HandS.ExcValue
import KE.DataFind
import PySem.Challenge.RW_frankmarks_k01_limits_and_errors
set_option Elab.async false
set_option linter.all false
set_option maxRecDepth 100000
namespace Fk
open PySem PySem.Spec PyProof.Rows L2
inductive D where
  | non | bl (b : Bool) | int (i : Int) | str (x : Str)
  | tup (xs : List D) | lst (xs : List D) | dct (kvs : List (Key × D)) | ref (n : Nat) | scr (xs : List D) | exn (c : Str) (ns : List Str) (ds : List D)
inductive Cell where
  | lst (live : Bool) (xs : List D)
  | dK (kvs : List (Key × D))
  | dT (kvs : List (List Key × D))
  | ins (c : Str) (fs : List (Str × D))
  | fT (kvs : List (List Key × D))
  | fK (kvs : List (Key × D))
abbrev Store := List Cell
abbrev Env := List (Option D)
inductive Out (α : Type) where
  | ok (a : α) (S : Store)
  | exc (c : Str) (fs : List (Str × D)) (S : Store)
  | stuck
namespace Out
def bind {α β : Type} : Out α → (α → Store → Out β) → Out β
  | .ok a S, f => f a S
  | .exc c fs S, _ => .exc c fs S
  | .stuck, _ => .stuck
@[simp] theorem ok_bind {α β : Type} (a : α) (S : Store) (f : α → Store → Out β) : (Out.ok a S).bind f = f a S := rfl
@[simp] theorem exc_bind {α β : Type} (c : Str) (fs : List (Str × D)) (S : Store) (f : α → Store → Out β) : (Out.exc c fs S : Out α).bind f = .exc c fs S := rfl
@[simp] theorem stuck_bind {α β : Type} (f : α → Store → Out β) : (Out.stuck : Out α).bind f = .stuck := rfl
end Out
abbrev SemE := Env → Store → Out D
abbrev SemT := Env → Store → Out Bool
abbrev SemA := Env → Store → Out (List D)
inductive OutS where
  | nx (ρ : Env) (S : Store)
  | rt (d : D) (S : Store)
  | bk (ρ : Env) (S : Store)
  | ct (ρ : Env) (S : Store)
  | exc (c : Str) (fs : List (Str × D)) (ρ : Env) (S : Store)
  | stuck
abbrev SemS := Env → Store → OutS
mutual
def closed (n : Nat) : D → Bool
  | .ref m => decide (m < n)
  | .tup xs => closedA n xs
  | .lst xs => closedA n xs
  | .scr xs => closedA n xs
  | .exn _ _ xs => closedA n xs
  | .dct kvs => closedK n kvs
  | _ => true
def closedA (n : Nat) : List D → Bool
  | [] => true
  | d :: ds => closed n d && closedA n ds
def closedK (n : Nat) : List (Key × D) → Bool
  | [] => true
  | (_, d) :: ds => closed n d && closedK n ds
end
def closedV {κ : Type} (n : Nat) (kvs : List (κ × D)) : Bool := closedA n (kvs.map (·.2))
def closedC (n : Nat) : Cell → Bool
  | .lst _ xs => closedA n xs
  | .dK kvs => closedV n kvs
  | .dT kvs => closedV n kvs
  | .ins _ fs => closedV n fs
  | .fT kvs => closedV n kvs
  | .fK kvs => closedV n kvs
theorem closedA_append (n : Nat) : ∀ xs ys : List D, closedA n (xs ++ ys) = (closedA n xs && closedA n ys)
  | [], ys => by simp [closedA]
  | x :: xs, ys => by rw [List.cons_append, closedA, closedA, closedA_append n xs ys, Bool.and_assoc]
theorem closedA_mem {n : Nat} : ∀ {xs : List D}, closedA n xs = true ↔ ∀ x ∈ xs, closed n x = true
  | [] => by simp [closedA]
  | x :: xs => by rw [closedA, Bool.and_eq_true, closedA_mem]; simp
mutual
theorem closed_mono {n m : Nat} (h : n ≤ m) : ∀ {d : D}, closed n d = true → closed m d = true
  | .ref k, c => by
    simp only [closed, decide_eq_true_eq] at c ⊢
    omega
  | .tup xs, c => by
    simp only [closed] at c ⊢
    exact closedA_mono h c
  | .lst xs, c => by
    simp only [closed] at c ⊢
    exact closedA_mono h c
  | .scr xs, c => by
    simp only [closed] at c ⊢
    exact closedA_mono h c
  | .exn _ _ xs, c => by
    simp only [closed] at c ⊢
    exact closedA_mono h c
  | .dct kvs, c => by
    simp only [closed] at c ⊢
    exact closedKm h c
  | .non, _ => by simp [closed]
  | .bl _, _ => by simp [closed]
  | .int _, _ => by simp [closed]
  | .str _, _ => by simp [closed]
theorem closedA_mono {n m : Nat} (h : n ≤ m) : ∀ {ds : List D}, closedA n ds = true → closedA m ds = true
  | [], _ => by simp [closedA]
  | d :: ds, c => by
    simp only [closedA, Bool.and_eq_true] at c ⊢
    exact ⟨closed_mono h c.1, closedA_mono h c.2⟩
theorem closedKm {n m : Nat} (h : n ≤ m) : ∀ {ds : List (Key × D)}, closedK n ds = true → closedK m ds = true
  | [], _ => by simp [closedK]
  | (k, d) :: ds, c => by
    simp only [closedK, Bool.and_eq_true] at c ⊢
    exact ⟨closed_mono h c.1, closedKm h c.2⟩
end
theorem closedK_eq (n : Nat) : ∀ kvs : List (Key × D), closedK n kvs = closedA n (kvs.map (·.2))
  | [] => by simp [closedK, closedA]
  | (k, d) :: r => by rw [closedK, List.map_cons, closedA, closedK_eq n r]
@[simp] theorem closed_int (n : Nat) (i : Int) : closed n (.int i) = true := by simp [closed]
@[simp] theorem closed_bl (n : Nat) (i : Bool) : closed n (.bl i) = true := by simp [closed]
@[simp] theorem closed_str (n : Nat) (i : Str) : closed n (.str i) = true := by simp [closed]
@[simp] theorem closed_non (n : Nat) : closed n .non = true := by simp [closed]
@[simp] theorem closed_tup (n : Nat) (xs : List D) : closed n (.tup xs) = closedA n xs := by simp [closed]
@[simp] theorem closed_lst (n : Nat) (xs : List D) : closed n (.lst xs) = closedA n xs := by simp [closed]
@[simp] theorem closedA_nil (n : Nat) : closedA n [] = true := by simp [closedA]
@[simp] theorem closedA_cons (n : Nat) (x : D) (xs : List D) : closedA n (x :: xs) = (closed n x && closedA n xs) := by simp [closedA]
@[simp] theorem closedA_ints (n : Nat) (ns : List Int) : closedA n (ns.map D.int) = true := closedA_mem.mpr fun x h => by
  obtain ⟨i, _, rfl⟩ := List.mem_map.mp h
  simp
/-- at a: a caught exception of the class at C, its dict -/
def xo (a C : Addr) (d : Option Addr) : HO := .ext fun h => ∃ oe : Obj, h.get? a = some oe ∧ oe.cls = .ref C ∧ oe.dict = d ∧ ∃ vs, oe.data = .fields vs
mutual
inductive Rel (K : PySem.W.Frag) (F : Hp) (ι : List Addr) : V → D → Prop
  | non : Rel K F ι .non .non
  | bl (b : Bool) : Rel K F ι (.bl b) (.bl b)
  | int (i : Int) : Rel K F ι (.int i) (.int i)
  | str (x : Str) : Rel K F ι (.str x) (.str x)
  | tup {a : Addr} {vs : List V} {ds : List D} : F a = some (.tup vs) → RelAll K F ι vs ds → Rel K F ι (.ref a) (.tup ds)
  | lst {a : Addr} {vs : List V} {ds : List D} : F a = some (.lst vs) → RelAll K F ι vs ds → Rel K F ι (.ref a) (.lst ds)
  | scr {a : Addr} {vs : List V} {ds : List D} : SqL K F a vs → RelAll K F ι vs ds → Rel K F ι (.ref a) (.scr ds)
  | dct {a : Addr} {kvs : List (Key × V)} {kds : List (Key × D)} : F a = some (.dK kvs) → kvs.map (·.1) = kds.map (·.1) → RelAll K F ι (kvs.map (·.2)) (kds.map (·.2)) → Rel K F ι (.ref a) (.dct kds)
  | ref {n : Nat} {a : Addr} : ι[n]? = some a → Rel K F ι (.ref a) (.ref n)
  | exn0 {a C : Addr} {c : Str} : F a = some (xo a C none) → PySem.W.nsIn K mainGlobals c = some (some (.ref C)) → Rel K F ι (.ref a) (.exn c [] [])
  | exn {a C dx : Addr} {c : Str} {fv : List (Str × V)} {ns : List Str} {ds : List D} : F a = some (xo a C (some dx)) → PySem.W.nsIn K mainGlobals c = some (some (.ref C)) → F dx = some (.xd fv) → fv.map (·.1) = ns → RelAll K F ι (fv.map (·.2)) ds → Rel K F ι (.ref a) (.exn c ns ds)
inductive RelAll (K : PySem.W.Frag) (F : Hp) (ι : List Addr) : List V → List D → Prop
  | nil : RelAll K F ι [] []
  | cons {v : V} {vs : List V} {d : D} {ds : List D} : Rel K F ι v d → RelAll K F ι vs ds → RelAll K F ι (v :: vs) (d :: ds)
end
structure RelKV {κ : Type} (K : PySem.W.Frag) (F : Hp) (ι : List Addr) (kvs : List (κ × V)) (kds : List (κ × D)) : Prop where
  ks : kvs.map (·.1) = kds.map (·.1)
  vs : RelAll K F ι (kvs.map (·.2)) (kds.map (·.2))
/-- the frozen part and the cells' places have grown -/
structure Ext (F : Hp) (ι : List Addr) (F' : Hp) (ι' : List Addr) : Prop where
  same : Same F F'
  pre : ι <+: ι'
theorem Ext.refl (F : Hp) (ι : List Addr) : Ext F ι F ι := ⟨Same.refl F, List.prefix_rfl⟩
theorem Ext.trans {F F1 F2 : Hp} {ι ι1 ι2 : List Addr} (a : Ext F ι F1 ι1) (b : Ext F1 ι1 F2 ι2) : Ext F ι F2 ι2 := ⟨a.same.trans b.same, a.pre.trans b.pre⟩
mutual
theorem Rel.mono0 {K : PySem.W.Frag} {F F' : Hp} {ι ι' : List Addr} (x : Ext F ι F' ι') : ∀ {v : V} {d : D}, Rel K F ι v d → Rel K F' ι' v d
  | _, _, .non => .non
  | _, _, .bl b => .bl b
  | _, _, .int i => .int i
  | _, _, .str y => .str y
  | _, _, .tup h r => .tup (x.same _ _ h) (RelAll.mono0 x r)
  | _, _, .lst h r => .lst (x.same _ _ h) (RelAll.mono0 x r)
  | _, _, .scr h r => .scr (x.same.seq h) (RelAll.mono0 x r)
  | _, _, .dct h k r => .dct (x.same _ _ h) k (RelAll.mono0 x r)
  | _, _, .exn0 h k => .exn0 (x.same _ _ h) k
  | _, _, .exn h k h2 e r => .exn (x.same _ _ h) k (x.same _ _ h2) e (RelAll.mono0 x r)
  | _, _, .ref h => .ref (by
      obtain ⟨t, rfl⟩ := x.pre
      rw [List.getElem?_append_left (List.getElem?_eq_some_iff.mp h).1]
      exact h)
theorem RelAll.mono0 {K : PySem.W.Frag} {F F' : Hp} {ι ι' : List Addr} (x : Ext F ι F' ι') : ∀ {vs : List V} {ds : List D}, RelAll K F ι vs ds → RelAll K F' ι' vs ds
  | _, _, .nil => .nil
  | _, _, .cons h r => .cons (Rel.mono0 x h) (RelAll.mono0 x r)
end
/-- what stands by itself: no tuple (such may be frozen at any time), no table of code objects (such grow) -/
def Kp : HO → Prop
  | .tup _ => False
  | .tbl _ => False
  | _ => True
/-- .. and nothing else of the heap has changed -/
structure Step (F : Hp) (ι : List Addr) (H : Hp) (F' : Hp) (ι' : List Addr) (H' : Hp) : Prop extends Ext F ι F' ι' where
  keep : ∀ b o, H b = some o → F b = none → b ∉ ι → Kp o → H' b = some o ∧ F' b = none ∧ b ∉ ι'
  dom : ∀ b, H' b = none → H b = none
theorem Step.refl (F : Hp) (ι : List Addr) (H : Hp) : Step F ι H F ι H := ⟨Ext.refl F ι, fun _ _ a b c _ => ⟨a, b, c⟩, fun _ h => h⟩
theorem Step.trans {F F1 F2 H H1 H2 : Hp} {ι ι1 ι2 : List Addr} (a : Step F ι H F1 ι1 H1) (b : Step F1 ι1 H1 F2 ι2 H2) : Step F ι H F2 ι2 H2 :=
  ⟨a.toExt.trans b.toExt, fun c o h1 h2 h3 h4 => let ⟨k1, k2, k3⟩ := a.keep c o h1 h2 h3 h4; b.keep c o k1 k2 k3 h4, fun c h => a.dom c (b.dom c h)⟩
theorem Rel.mono {K : PySem.W.Frag} {F F' H H' : Hp} {ι ι' : List Addr} (x : Step F ι H F' ι' H') {v : V} {d : D} (r : Rel K F ι v d) : Rel K F' ι' v d := r.mono0 x.toExt
theorem RelAll.mono {K : PySem.W.Frag} {F F' H H' : Hp} {ι ι' : List Addr} (x : Step F ι H F' ι' H') {v : List V} {d : List D} (r : RelAll K F ι v d) : RelAll K F' ι' v d := r.mono0 x.toExt
section
variable {K : PySem.W.Frag} {F : Hp} {ι : List Addr}
theorem RelAll.length : ∀ {vs : List V} {ds : List D}, RelAll K F ι vs ds → vs.length = ds.length
  | _, _, .nil => rfl
  | _, _, .cons _ r => by rw [List.length_cons, List.length_cons, r.length]
theorem RelAll.get : ∀ {vs : List V} {ds : List D} {i : Nat} {d : D}, RelAll K F ι vs ds → ds[i]? = some d → ∃ v, vs[i]? = some v ∧ Rel K F ι v d
  | _, _, _, _, .nil, h => by simp at h
  | _, _, 0, _, .cons r _, h => by
    simp at h
    subst h
    exact ⟨_, rfl, r⟩
  | _, _, i + 1, _, .cons _ t, h => by
    obtain ⟨v, a, b⟩ := RelAll.get (i := i) t (by simpa using h)
    exact ⟨v, by simpa using a, b⟩
theorem RelAll.getV : ∀ {vs : List V} {ds : List D} {i : Nat} {v : V}, RelAll K F ι vs ds → vs[i]? = some v → ∃ d, ds[i]? = some d ∧ Rel K F ι v d
  | _, _, _, _, .nil, h => by simp at h
  | _, _, 0, _, .cons r _, h => by
    simp at h
    subst h
    exact ⟨_, rfl, r⟩
  | _, _, i + 1, _, .cons _ t, h => by
    obtain ⟨v, a, b⟩ := RelAll.getV (i := i) t (by simpa using h)
    exact ⟨v, by simpa using a, b⟩
theorem RelAll.append : ∀ {vs ws : List V} {ds es : List D}, RelAll K F ι vs ds → RelAll K F ι ws es → RelAll K F ι (vs ++ ws) (ds ++ es)
  | _, _, _, _, .nil, s => s
  | _, _, _, _, .cons r t, s => .cons r (RelAll.append t s)
theorem RelAll.take : ∀ {vs : List V} {ds : List D} (n : Nat), RelAll K F ι vs ds → RelAll K F ι (vs.take n) (ds.take n)
  | _, _, 0, _ => .nil
  | _, _, _ + 1, .nil => .nil
  | _, _, n + 1, .cons r t => .cons r (RelAll.take n t)
theorem RelAll.drop : ∀ {vs : List V} {ds : List D} (n : Nat), RelAll K F ι vs ds → RelAll K F ι (vs.drop n) (ds.drop n)
  | _, _, 0, r => r
  | _, _, _ + 1, .nil => .nil
  | _, _, n + 1, .cons _ t => RelAll.drop n t
theorem RelAll.set {v : V} {d : D} (r : Rel K F ι v d) : ∀ {vs : List V} {ds : List D} (n : Nat), RelAll K F ι vs ds → RelAll K F ι (vs.set n v) (ds.set n d)
  | _, _, _, .nil => .nil
  | _, _, 0, .cons _ t => .cons r t
  | _, _, n + 1, .cons q t => .cons q (RelAll.set r n t)
theorem RelAll.dropLast : ∀ {vs : List V} {ds : List D}, RelAll K F ι vs ds → RelAll K F ι vs.dropLast ds.dropLast
  | _, _, .nil => .nil
  | _, _, .cons _ .nil => .nil
  | _, _, .cons r (.cons q t) => .cons r (RelAll.dropLast (.cons q t))
theorem RelAll.reverse : ∀ {vs : List V} {ds : List D}, RelAll K F ι vs ds → RelAll K F ι vs.reverse ds.reverse
  | _, _, .nil => .nil
  | _, _, .cons r t => by
    rw [List.reverse_cons, List.reverse_cons]
    exact RelAll.append (RelAll.reverse t) (.cons r .nil)
end
def codeOf (K : PySem.W.Frag) (f : Addr) : Option Value := match K.lookup f with
  | some ⟨_, _, .func fd, _⟩ => some fd.code
  | _ => none
def tabAt (K : PySem.W.Frag) (c : Addr) : Option Addr := match K.lookup c with
  | some ⟨_, _, .fields vs, _⟩ => (match (vs[11]? : Option Value) with
    | some (Value.ref P) => (match K.lookup P with
      | none => some P
      | some _ => none)
    | _ => none)
  | _ => none
def tabOf (K : PySem.W.Frag) (x : Str) : List (Addr × Addr × Str) := match PySem.W.nsIn K mainGlobals x with
  | some (some (.ref f)) => (match codeOf K f with
    | some (.ref c) => (match tabAt K c with
      | some P => [(c, P, x ++ ".<locals>." ++ "<lambda>")]
      | none => [])
    | _ => [])
  | _ => []
def tabN : List Str := ["law", "_law_among_right"]
def tabsK (K : PySem.W.Frag) : List (Addr × Addr × Str) := tabN.flatMap (tabOf K)
/-- the tables as they are used: what they tell bears the right names -/
def Tb (K : PySem.W.Frag) (H : Hp) : Prop := ∀ p ∈ tabsK K, LamX.TabS H p.2.1 p.2.2
theorem Tb.ext {K : PySem.W.Frag} {H H' : Hp} (t : Tb K H) (e : ∀ b o, H b = some o → H' b = some o) : Tb K H' := fun p hp => (t p hp).ext e
def Cp : HO → Prop
  | .tbl _ => False
  | .ext _ => False
  | _ => True
theorem Tb.upd {K : PySem.W.Frag} {H : Hp} (t : Tb K H) {a : Addr} {o o' : HO} (h : H a = some o') (c : Cp o') : Tb K (L2.upd H a o) := fun p hp => by
  obtain ⟨ps, h1, h2, h3⟩ := t p hp
  have ne : ∀ {b u}, H b = some u → ¬ Cp u → b ≠ a := fun {b u} e n z => by
    subst z
    rw [h] at e
    cases e
    exact n c
  refine ⟨ps, by rw [upd_ne (ne h1 id)]; exact h1, h2, fun pos cv hc => ?_⟩
  obtain ⟨q, e1, e2⟩ := h3 pos cv hc
  exact ⟨q, e1, by rw [upd_ne (ne e2 id)]; exact e2⟩
def CellOk (K : PySem.W.Frag) (mg : Str → Option Value) (F : Hp) (ι : List Addr) (H : Hp) (a : Addr) : Cell → Prop
  | .lst true ds => ∃ vs, H a = some (.lst vs) ∧ RelAll K F ι vs ds ∧ F a = none
  | .lst false ds => ∃ vs, F a = some (.lst vs) ∧ RelAll K F ι vs ds
  | .dK kds => ∃ kvs, H a = some (.dK kvs) ∧ RelKV K F ι kvs kds ∧ F a = none
  | .dT kds => ∃ kvs, H a = some (.dT kvs) ∧ RelKV K F ι kvs kds ∧ F a = none
  | .ins c fs => ∃ C dx fv, mg c = some (.ref C) ∧ H a = some (.ins C dx fv) ∧ RelKV K F ι fv fs ∧ F a = none
  | .fT kds => ∃ o kvs, F a = some (.frz o (.dT kvs)) ∧ RelKV K F ι kvs kds
  | .fK kds => ∃ o kvs, F a = some (.frz o (.dK kvs)) ∧ RelKV K F ι kvs kds
structure Sim (K : PySem.W.Frag) (mg : Str → Option Value) (F : Hp) (ι : List Addr) (S : Store) (H : Hp) : Prop where
  sub : Same F H
  len : ι.length = S.length
  nd : ι.Nodup
  cell : ∀ (n : Nat) (a : Addr) (c : Cell), ι[n]? = some a → S[n]? = some c → CellOk K mg F ι H a c
  cl : ∀ (n : Nat) (c : Cell), S[n]? = some c → closedC n c = true
  tab : Tb K H
  nt : ∀ b ps, F b ≠ some (.tbl ps)
  tt : ∀ b ps, H b = some (.tbl ps) → ∃ p ∈ tabsK K, p.2.1 = b
section
variable {K : PySem.W.Frag} {mg : Str → Option Value} {F F' : Hp} {ι ι' : List Addr} {S : Store} {H H' : Hp}
theorem CellOk.there {a : Addr} {c : Cell} (sub : Same F H) (h : CellOk K mg F ι H a c) : ∃ o, H a = some o := by
  cases c with
  | lst b ds =>
    cases b with
    | true => obtain ⟨vs, h, _⟩ := h; exact ⟨_, h⟩
    | false => obtain ⟨vs, h, _⟩ := h; exact ⟨_, sub _ _ h⟩
  | dK kds => obtain ⟨vs, h, _⟩ := h; exact ⟨_, h⟩
  | dT kds => obtain ⟨vs, h, _⟩ := h; exact ⟨_, h⟩
  | ins c fs => obtain ⟨_, _, _, _, h, _⟩ := h; exact ⟨_, h⟩
  | fT kds => obtain ⟨_, _, h, _⟩ := h; exact ⟨_, sub _ _ h⟩
  | fK kds => obtain ⟨_, _, h, _⟩ := h; exact ⟨_, sub _ _ h⟩
theorem CellOk.cp {a : Addr} {c : Cell} (sub : Same F H) (h : CellOk K mg F ι H a c) : ∃ o, H a = some o ∧ Cp o := by
  cases c with
  | lst b ds =>
    cases b with
    | true => obtain ⟨vs, h, _⟩ := h; exact ⟨_, h, trivial⟩
    | false => obtain ⟨vs, h, _⟩ := h; exact ⟨_, sub _ _ h, trivial⟩
  | dK kds => obtain ⟨vs, h, _⟩ := h; exact ⟨_, h, trivial⟩
  | dT kds => obtain ⟨vs, h, _⟩ := h; exact ⟨_, h, trivial⟩
  | ins c fs => obtain ⟨_, _, _, _, h, _⟩ := h; exact ⟨_, h, trivial⟩
  | fT kds => obtain ⟨_, _, h, _⟩ := h; exact ⟨_, sub _ _ h, trivial⟩
  | fK kds => obtain ⟨_, _, h, _⟩ := h; exact ⟨_, sub _ _ h, trivial⟩
theorem nt_upd {p : Addr} {o : HO} (h : ∀ b ps, F b ≠ some (.tbl ps)) (ho : ∀ ps, o ≠ .tbl ps) : ∀ b ps, upd F p o b ≠ some (.tbl ps) := fun b ps z => by
  by_cases hb : b = p
  · subst hb
    rw [upd_same] at z
    exact ho ps (Option.some.inj z)
  · rw [upd_ne hb] at z
    exact h b ps z
theorem tt_upd {p : Addr} {o : HO} (h : ∀ b ps, H b = some (.tbl ps) → ∃ p ∈ tabsK K, p.2.1 = b) (ho : ∀ ps, o ≠ .tbl ps) : ∀ b ps, upd H p o b = some (.tbl ps) → ∃ p ∈ tabsK K, p.2.1 = b := fun b ps z => by
  by_cases hb : b = p
  · subst hb
    rw [upd_same] at z
    exact (ho ps (Option.some.inj z)).elim
  · rw [upd_ne hb] at z
    exact h b ps z
theorem ext_upd {p : Addr} {o : HO} (h : H p = none) : ∀ b u, H b = some u → upd H p o b = some u := fun b u e => by
  rw [upd_ne (ne_of_none e h)]
  exact e
theorem Sim.at (s : Sim K mg F ι S H) {n : Nat} {c : Cell} (h : S[n]? = some c) : ∃ a, ι[n]? = some a ∧ CellOk K mg F ι H a c := by
  have hn : n < ι.length := by rw [s.len]; exact (List.getElem?_eq_some_iff.mp h).1
  exact ⟨ι[n], by simp [hn], s.cell n _ c (by simp [hn]) h⟩
theorem Sim.there (s : Sim K mg F ι S H) {a : Addr} (h : a ∈ ι) : ∃ o, H a = some o := by
  obtain ⟨n, hn, rfl⟩ := List.getElem_of_mem h
  have hs : n < S.length := by rw [← s.len]; exact hn
  exact (s.cell n _ S[n] (by simp [hn]) (by simp [hs])).there s.sub
theorem Sim.fresh (s : Sim K mg F ι S H) {p : Addr} (h : H p = none) : F p = none ∧ p ∉ ι := ⟨s.sub.free h, fun hp => by
  obtain ⟨o, e⟩ := s.there hp
  rw [h] at e
  cases e⟩
theorem same_upd {p : Addr} {o : HO} (h : F p = none) : Same F (upd F p o) := fun b x e => by
  rw [upd_ne (ne_of_none e h)]
  exact e
theorem same_two {p : Addr} {o : HO} (h : Same F H) : Same (upd F p o) (upd H p o) := fun b x e => by
  by_cases hb : b = p
  · subst hb
    rw [upd_same] at e ⊢
    exact e
  · rw [upd_ne hb] at e ⊢
    exact h b x e
theorem RelKV.mono0 {κ : Type} (x : Ext F ι F' ι') {kvs : List (κ × V)} {kds : List (κ × D)} (h : RelKV K F ι kvs kds) : RelKV K F' ι' kvs kds := ⟨h.ks, RelAll.mono0 x h.vs⟩
theorem RelKV.mono {κ : Type} (x : Step F ι H F' ι' H') {kvs : List (κ × V)} {kds : List (κ × D)} (h : RelKV K F ι kvs kds) : RelKV K F' ι' kvs kds := h.mono0 x.toExt
/-- a cell under more frozen things, its own object as it was -/
theorem CellOk.mono {a : Addr} {c : Cell} (x : Ext F ι F' ι') (hF : F a = none → F' a = none) (hH : ∀ o, H a = some o → H' a = some o) (h : CellOk K mg F ι H a c) : CellOk K mg F' ι' H' a c := by
  cases c with
  | lst b ds =>
    cases b with
    | true => obtain ⟨vs, h, r, f⟩ := h; exact ⟨vs, hH _ h, RelAll.mono0 x r, hF f⟩
    | false => obtain ⟨vs, h, r⟩ := h; exact ⟨vs, x.same _ _ h, RelAll.mono0 x r⟩
  | dK kds => obtain ⟨vs, h, r, f⟩ := h; exact ⟨vs, hH _ h, r.mono0 x, hF f⟩
  | dT kds => obtain ⟨vs, h, r, f⟩ := h; exact ⟨vs, hH _ h, r.mono0 x, hF f⟩
  | ins c fs => obtain ⟨C, dx, fv, m, h, r, f⟩ := h; exact ⟨C, dx, fv, m, hH _ h, r.mono0 x, hF f⟩
  | fT kds => obtain ⟨o, kvs, h, r⟩ := h; exact ⟨o, kvs, x.same _ _ h, r.mono0 x⟩
  | fK kds => obtain ⟨o, kvs, h, r⟩ := h; exact ⟨o, kvs, x.same _ _ h, r.mono0 x⟩
theorem upd_dom {p b : Addr} {o : HO} (h : upd H p o b = none) : H b = none := by
  by_cases hb : b = p
  · subst hb
    rw [upd_same] at h
    cases h
  · rw [upd_ne hb] at h
    exact h
theorem step_new {p : Addr} {o : HO} (x : Ext F ι F' ι') (h : H p = none) (k : ∀ b, b ≠ p → F' b = F b ∧ (b ∉ ι → b ∉ ι')) : Step F ι H F' ι' (upd H p o) := by
  refine ⟨x, fun b o' e1 e2 e3 _ => ?_, fun b hb => upd_dom hb⟩
  have ne : b ≠ p := ne_of_none e1 h
  exact ⟨by rw [upd_ne ne]; exact e1, by rw [(k b ne).1]; exact e2, (k b ne).2 e3⟩
/-- a new thing that is never changed -/
theorem Sim.frozen (s : Sim K mg F ι S H) {p : Addr} {o : HO} (h : H p = none) (ho : ∀ ps, o ≠ .tbl ps := by intro _ z; cases z) : Step F ι H (upd F p o) ι (upd H p o) ∧ Sim K mg (upd F p o) ι S (upd H p o) := by
  obtain ⟨hf, hi⟩ := s.fresh h
  have x : Ext F ι (upd F p o) ι := ⟨same_upd hf, List.prefix_rfl⟩
  refine ⟨step_new x h (fun _ hb => ⟨upd_ne hb, id⟩), same_two s.sub, s.len, s.nd, fun n a c ha hc => ?_, s.cl, s.tab.ext (ext_upd h), nt_upd s.nt ho, tt_upd s.tt ho⟩
  have ne : a ≠ p := fun e => hi (e ▸ List.mem_of_getElem? ha)
  exact (s.cell n a c ha hc).mono x (fun e => by rw [upd_ne ne]; exact e) fun o' e => by rw [upd_ne ne]; exact e
/-- a new thing that stays outside both -/
theorem Sim.loose (s : Sim K mg F ι S H) {p : Addr} {o : HO} (h : H p = none) (ho : ∀ ps, o ≠ .tbl ps := by intro _ z; cases z) : Step F ι H F ι (upd H p o) ∧ Sim K mg F ι S (upd H p o) := by
  obtain ⟨hf, hi⟩ := s.fresh h
  refine ⟨step_new (Ext.refl F ι) h (fun _ _ => ⟨rfl, id⟩), fun b x e => ?_, s.len, s.nd, fun n a c ha hc => ?_, s.cl, s.tab.ext (ext_upd h), s.nt, tt_upd s.tt ho⟩
  · rw [upd_ne (ne_of_none e hf)]
    exact s.sub b x e
  · have ne : a ≠ p := fun e => hi (e ▸ List.mem_of_getElem? ha)
    exact (s.cell n a c ha hc).mono (Ext.refl F ι) (fun e => e) fun o' e => by rw [upd_ne ne]; exact e
/-- a new cell -/
theorem Sim.newCell {F0 H0 : Hp} {ι0 : List Addr} (s : Sim K mg F ι S H) (st : Step F0 ι0 H0 F ι H) {p : Addr} {c : Cell} (h0 : H0 p = none) (hp : p ∉ ι) (hc : CellOk K mg F (ι ++ [p]) H p c) (hcl : closedC S.length c = true) : Step F0 ι0 H0 F (ι ++ [p]) H ∧ Sim K mg F (ι ++ [p]) (S ++ [c]) H := by
  have x : Ext F ι F (ι ++ [p]) := ⟨Same.refl F, List.prefix_append _ _⟩
  refine ⟨⟨st.toExt.trans x, fun b o e1 e2 e3 e4 => ?_, st.dom⟩, s.sub, by simp [s.len], ?_, fun n a c' ha hc' => ?_, fun n c' hc' => ?_, s.tab, s.nt, s.tt⟩
  · obtain ⟨k1, k2, k3⟩ := st.keep b o e1 e2 e3 e4
    refine ⟨k1, k2, fun hm => ?_⟩
    rcases List.mem_append.mp hm with hm | hm
    · exact k3 hm
    · have : b = p := by simpa using hm
      subst this
      rw [h0] at e1
      cases e1
  · rw [List.nodup_append]
    refine ⟨s.nd, by simp, fun a h1 b h2 e => ?_⟩
    simp at h2
    subst e
    subst h2
    exact hp h1
  · by_cases hn : n < ι.length
    · rw [List.getElem?_append_left hn] at ha
      rw [List.getElem?_append_left (by rw [← s.len]; exact hn)] at hc'
      exact (s.cell n a c' ha hc').mono x (fun e => e) fun _ e => e
    · have hl : n = ι.length := by
        have := (List.getElem?_eq_some_iff.mp ha).1
        simp at this
        omega
      subst hl
      rw [List.getElem?_append_right (Nat.le_refl _), Nat.sub_self] at ha
      rw [s.len, List.getElem?_append_right (Nat.le_refl _), Nat.sub_self] at hc'
      simp at ha hc'
      subst ha
      subst hc'
      exact hc
  · by_cases hn : n < S.length
    · rw [List.getElem?_append_left hn] at hc'
      exact s.cl n c' hc'
    · have hl : n = S.length := by
        have := (List.getElem?_eq_some_iff.mp hc').1
        simp at this
        omega
      subst hl
      rw [List.getElem?_append_right (Nat.le_refl _), Nat.sub_self] at hc'
      simp at hc'
      subst hc'
      exact hcl
/-- a live cell is written -/
theorem Sim.write (s : Sim K mg F ι S H) {n : Nat} {a : Addr} {c : Cell} {o : HO} (ha : ι[n]? = some a) (hF : F a = none) (hc : CellOk K mg F ι (upd H a o) a c) (hcl : closedC n c = true) (ho : ∀ ps, o ≠ .tbl ps := by intro _ z; cases z) : Step F ι H F ι (upd H a o) ∧ Sim K mg F ι (S.set n c) (upd H a o) := by
  have hn : n < ι.length := (List.getElem?_eq_some_iff.mp ha).1
  have hcp : ∃ o', H a = some o' ∧ Cp o' := by
    have hs : n < S.length := by rw [← s.len]; exact hn
    exact (s.cell n a S[n] ha (by simp [hs])).cp s.sub
  obtain ⟨o', ho', hcp⟩ := hcp
  refine ⟨⟨Ext.refl F ι, fun b o' e1 e2 e3 _ => ⟨by rw [upd_ne (show b ≠ a from fun z => e3 (by rw [z]; exact List.mem_of_getElem? ha))]; exact e1, e2, e3⟩, fun b hb => upd_dom hb⟩, fun b x e => ?_, by simp [s.len], s.nd, fun m b c' hb hc' => ?_, fun m c' hc' => ?_, s.tab.upd ho' hcp, s.nt, tt_upd s.tt ho⟩
  · rw [upd_ne (ne_of_none e hF)]
    exact s.sub b x e
  · by_cases hm : m = n
    · subst hm
      rw [ha] at hb
      cases hb
      rw [List.getElem?_set_self (by rw [← s.len]; exact hn)] at hc'
      cases hc'
      exact hc
    · rw [List.getElem?_set_ne (Ne.symm hm)] at hc'
      have ne : b ≠ a := fun e => hm (by
        obtain ⟨h1, e1⟩ := List.getElem?_eq_some_iff.mp hb
        obtain ⟨h2, e2⟩ := List.getElem?_eq_some_iff.mp ha
        exact (List.getElem_inj s.nd).mp (by rw [e1, e2]; exact e))
      exact (s.cell m b c' hb hc').mono (Ext.refl F ι) (fun e => e) fun o' e => by rw [upd_ne ne]; exact e
  · by_cases hm : m = n
    · subst hm
      rw [List.getElem?_set_self (by rw [← s.len]; exact hn)] at hc'
      cases hc'
      exact hcl
    · rw [List.getElem?_set_ne (Ne.symm hm)] at hc'
      exact s.cl m c' hc'
/-- a live list is frozen -/
theorem Sim.freeze (s : Sim K mg F ι S H) {n : Nat} {a : Addr} {ds : List D} {vs : List V} (ha : ι[n]? = some a) (hF : F a = none) (hH : H a = some (.lst vs)) (r : RelAll K F ι vs ds) (hcl : closedA n ds = true) :
    Step F ι H (upd F a (.lst vs)) ι H ∧ Sim K mg (upd F a (.lst vs)) ι (S.set n (.lst false ds)) H := by
  have hn : n < ι.length := (List.getElem?_eq_some_iff.mp ha).1
  have x : Ext F ι (upd F a (.lst vs)) ι := ⟨same_upd hF, List.prefix_rfl⟩
  refine ⟨⟨x, fun b o e1 e2 e3 _ => ⟨e1, by rw [upd_ne (show b ≠ a from fun z => e3 (by rw [z]; exact List.mem_of_getElem? ha))]; exact e2, e3⟩, fun _ h => h⟩, fun b o e => ?_, by simp [s.len], s.nd, fun m b c' hb hc' => ?_, fun m c' hc' => ?_, s.tab, nt_upd s.nt (by intro _ z; cases z), s.tt⟩
  · by_cases hb : b = a
    · subst hb
      rw [upd_same] at e
      rw [hH]
      exact e
    · rw [upd_ne hb] at e
      exact s.sub b o e
  · by_cases hm : m = n
    · subst hm
      rw [ha] at hb
      cases hb
      rw [List.getElem?_set_self (by rw [← s.len]; exact hn)] at hc'
      cases hc'
      exact ⟨vs, upd_same, RelAll.mono0 x r⟩
    · rw [List.getElem?_set_ne (Ne.symm hm)] at hc'
      have ne : b ≠ a := fun e => hm (by
        obtain ⟨h1, e1⟩ := List.getElem?_eq_some_iff.mp hb
        obtain ⟨h2, e2⟩ := List.getElem?_eq_some_iff.mp ha
        exact (List.getElem_inj s.nd).mp (by rw [e1, e2]; exact e))
      exact (s.cell m b c' hb hc').mono x (fun e => by rw [upd_ne ne]; exact e) fun o' e => e
  · by_cases hm : m = n
    · subst hm
      rw [List.getElem?_set_self (by rw [← s.len]; exact hn)] at hc'
      cases hc'
      exact hcl
    · rw [List.getElem?_set_ne (Ne.symm hm)] at hc'
      exact s.cl m c' hc'
mutual
theorem Rel.back {n : Nat} (hn : n ≤ ι.length) : ∀ {v : V} {d : D}, Rel K F ι v d → closed n d = true → Rel K F (ι.take n) v d
  | _, _, .non, _ => .non
  | _, _, .bl b, _ => .bl b
  | _, _, .int i, _ => .int i
  | _, _, .str y, _ => .str y
  | _, _, .tup h r, c => .tup h (RelAll.back hn r (by simpa [closed] using c))
  | _, _, .lst h r, c => .lst h (RelAll.back hn r (by simpa [closed] using c))
  | _, _, .scr h r, c => .scr h (RelAll.back hn r (by simpa [closed] using c))
  | _, _, .exn0 h k, _ => .exn0 h k
  | _, _, .exn h k h2 e r, c => .exn h k h2 e (RelAll.back hn r (by simpa [closed] using c))
  | _, _, .dct h k r, c => .dct h k (RelAll.back hn r (by
      have c' := c
      simp only [closed] at c'
      exact closedK_eq _ _ ▸ c'))
  | _, _, .ref (n := m) h, c => .ref (by
      have c' : m < n := by simpa [closed] using c
      rw [List.getElem?_take_of_lt c']
      exact h)
theorem RelAll.back {n : Nat} (hn : n ≤ ι.length) : ∀ {vs : List V} {ds : List D}, RelAll K F ι vs ds → closedA n ds = true → RelAll K F (ι.take n) vs ds
  | _, _, .nil, _ => .nil
  | _, _, .cons h r, c => by
    rw [closedA_cons, Bool.and_eq_true] at c
    exact .cons (Rel.back hn h c.1) (RelAll.back hn r c.2)
end
end
structure REnv (K : PySem.W.Frag) (F : Hp) (ι : List Addr) (σ : L2.St) (ρ : Env) : Prop where
  len : σ.length = ρ.length
  at' : ∀ (i : Nat) (d : D), ρ[i]? = some (some d) → ∃ v, σ[i]? = some (some v) ∧ Rel K F ι v d
theorem REnv.mono {K : PySem.W.Frag} {F F' H H' : Hp} {ι ι' : List Addr} {σ : L2.St} {ρ : Env} (x : Step F ι H F' ι' H') (h : REnv K F ι σ ρ) : REnv K F' ι' σ ρ := ⟨h.len, fun i d e =>
  let ⟨v, a, b⟩ := h.at' i d e
  ⟨v, a, Rel.mono x b⟩⟩
theorem REnv.set {K : PySem.W.Frag} {F : Hp} {ι : List Addr} {σ : L2.St} {ρ : Env} (h : REnv K F ι σ ρ) (i : Nat) {v : V} {d : D} (r : Rel K F ι v d) : REnv K F ι (σ.set i (some v)) (ρ.set i (some d)) := by
  refine ⟨by simp [h.len], fun j e he => ?_⟩
  by_cases hj : j = i
  · subst hj
    have hl : j < ρ.length := by simpa using (List.getElem?_eq_some_iff.mp he).1
    rw [List.getElem?_set_self hl] at he
    cases he
    exact ⟨v, List.getElem?_set_self (by rw [h.len]; exact hl), r⟩
  · rw [List.getElem?_set_ne (Ne.symm hj)] at he
    rw [List.getElem?_set_ne (Ne.symm hj)]
    exact h.at' j e he
/-- the place where the layer stands -/
structure Pl where
  K : PySem.W.Frag
  mg : Str → Option Value
  W : WX
/-- an exception's own dict -/
def XD (K : PySem.W.Frag) (H0 : Hp) (F : Hp) (ι : List Addr) (H : Hp) (d : Option Addr) (fs : List (Str × D)) : Prop :=
  (fs = [] ∧ d = none) ∨ (fs ≠ [] ∧ ∃ dx fv, d = some dx ∧ H0 dx = none ∧ F dx = none ∧ dx ∉ ι ∧ H dx = some (.xd fv) ∧ RelKV K F ι fv fs)
theorem XD.ext {K : PySem.W.Frag} {F0 F1 H0 H1 F H : Hp} {ι0 ι1 ι : List Addr} {d : Option Addr} {fs : List (Str × D)} (x : Step F0 ι0 H0 F1 ι1 H1) (h : XD K H1 F ι H d fs) : XD K H0 F ι H d fs := by
  rcases h with h | ⟨h1, dx, fv, h2, h3, h4⟩
  · exact .inl h
  · exact .inr ⟨h1, dx, fv, h2, x.dom _ h3, h4⟩
section
variable (p : Pl)
def Post {α β : Type} (R : Hp → Hp → List Addr → Hp → β → α → Prop) (F : Hp) (ι : List Addr) (H : Hp) (σ : L2.St) (o : Out α) (Q : β → Hp → Prop) : Prop := match o with
  | .ok a S' => ∀ F' ι' v H', Step F ι H F' ι' H' → Sim p.K p.mg F' ι' S' H' → R H F' ι' H' v a → Q v H'
  | .exc c fs S' => ∀ F' ι' C d H', Step F ι H F' ι' H' → Sim p.K p.mg F' ι' S' H' → p.mg c = some (.ref C) → XD p.K H F' ι' H' d fs → p.W (.ref C) d σ H'
  | .stuck => False
def RV' (K : PySem.W.Frag) : Hp → Hp → List Addr → Hp → V → D → Prop := fun _ F ι _ v d => Rel K F ι v d
def RA' (K : PySem.W.Frag) : Hp → Hp → List Addr → Hp → List V → List D → Prop := fun _ F ι _ v d => RelAll K F ι v d
def RT' : Hp → Hp → List Addr → Hp → Bool → Bool → Prop := fun _ _ _ _ v d => v = d
/-- a new list -/
def RL' (K : PySem.W.Frag) : Hp → Hp → List Addr → Hp → V → List D → Prop := fun H0 F ι H v ds => ∃ q vs, v = .ref q ∧ H0 q = none ∧ H q = some (.lst vs) ∧ F q = none ∧ q ∉ ι ∧ RelAll K F ι vs ds
def tG {α β : Type} (R : Hp → Hp → List Addr → Hp → β → α → Prop) (f : Env → Store → Out α) (σ : L2.St) (H : Hp) (Q : β → Hp → Prop) : Prop :=
  ∃ F ι ρ S, Sim p.K p.mg F ι S H ∧ REnv p.K F ι σ ρ ∧ Post p R F ι H σ (f ρ S) Q
abbrev tE (f : SemE) : TE := tG p (RV' p.K) f
abbrev tL (f : SemA) : TE := tG p (RL' p.K) f
abbrev tA (f : SemA) : TA := tG p (RA' p.K) f
abbrev tT (f : SemT) : TT := tG p RT' f
def PostS (F : Hp) (ι : List Addr) (H : Hp) (o : OutS) (Dn : Ends) : Prop := match o with
  | .nx ρ' S' => ∀ F' ι' σ' H', Step F ι H F' ι' H' → Sim p.K p.mg F' ι' S' H' → REnv p.K F' ι' σ' ρ' → Dn.nx σ' H'
  | .rt d S' => ∀ F' ι' v H', Step F ι H F' ι' H' → Sim p.K p.mg F' ι' S' H' → Rel p.K F' ι' v d → Dn.rt v H'
  | .bk ρ' S' => ∀ F' ι' σ' H', Step F ι H F' ι' H' → Sim p.K p.mg F' ι' S' H' → REnv p.K F' ι' σ' ρ' → Dn.bk σ' H'
  | .ct ρ' S' => ∀ F' ι' σ' H', Step F ι H F' ι' H' → Sim p.K p.mg F' ι' S' H' → REnv p.K F' ι' σ' ρ' → Dn.ct σ' H'
  | .exc c fs ρ' S' => ∀ F' ι' C d σ' H', Step F ι H F' ι' H' → Sim p.K p.mg F' ι' S' H' → REnv p.K F' ι' σ' ρ' → p.mg c = some (.ref C) → XD p.K H F' ι' H' d fs → p.W (.ref C) d σ' H'
  | .stuck => False
def tS (g : SemS) : TS := fun Dn σ H => ∃ F ι ρ S, Sim p.K p.mg F ι S H ∧ REnv p.K F ι σ ρ ∧ PostS p F ι H (g ρ S) Dn
end
/-- what is told of a value does not lean on what was free ahead -/
def Stays {α β : Type} (R : Hp → Hp → List Addr → Hp → β → α → Prop) : Prop := ∀ {F F' H H' : Hp} {ι ι' : List Addr} {F2 H2 : Hp} {ι2 : List Addr} {v : β} {a : α}, Step F ι H F' ι' H' → R H' F2 ι2 H2 v a → R H F2 ι2 H2 v a
theorem Post.ext {α β : Type} {p : Pl} {R : Hp → Hp → List Addr → Hp → β → α → Prop} {F F' H H' : Hp} {ι ι' : List Addr} {σ : L2.St} {o : Out α} {Q : β → Hp → Prop} (x : Step F ι H F' ι' H') (h : Post p R F ι H σ o Q) (hR : Stays R) : Post p R F' ι' H' σ o Q := by
  cases o with
  | ok a S => exact fun F2 ι2 v H2 x2 s2 r2 => h F2 ι2 v H2 (x.trans x2) s2 (hR x r2)
  | exc c fs S => exact fun F2 ι2 C d H2 x2 s2 m xd => h F2 ι2 C d H2 (x.trans x2) s2 m (xd.ext x)
  | stuck => exact h
theorem PostS.ext {p : Pl} {F F' H H' : Hp} {ι ι' : List Addr} {o : OutS} {Dn : Ends} (x : Step F ι H F' ι' H') (h : PostS p F ι H o Dn) : PostS p F' ι' H' o Dn := by
  cases o with
  | nx ρ S => exact fun F2 ι2 v H2 x2 => h F2 ι2 v H2 (x.trans x2)
  | rt ρ S => exact fun F2 ι2 v H2 x2 => h F2 ι2 v H2 (x.trans x2)
  | bk ρ S => exact fun F2 ι2 v H2 x2 => h F2 ι2 v H2 (x.trans x2)
  | ct ρ S => exact fun F2 ι2 v H2 x2 => h F2 ι2 v H2 (x.trans x2)
  | exc c fs ρ S => exact fun F2 ι2 C d σ H2 x2 s2 r2 m xd => h F2 ι2 C d σ H2 (x.trans x2) s2 r2 m (xd.ext x)
  | stuck => exact h
def RO' : Hp → Hp → List Addr → Hp → Option Int → Option Int → Prop := fun _ _ _ _ v d => v = d
theorem stO : Stays RO' := fun _ r => r
theorem stV {K : PySem.W.Frag} : Stays (RV' K) := fun _ r => r
theorem stA {K : PySem.W.Frag} : Stays (RA' K) := fun _ r => r
theorem stT : Stays RT' := fun _ r => r
theorem stL {K : PySem.W.Frag} : Stays (RL' K) := fun x r => by
  obtain ⟨q, vs, a, b, c⟩ := r
  exact ⟨q, vs, a, x.dom _ b, c⟩
/-- the first of two: its end is met, or its exception goes on -/
theorem post_bind {α β γ δ : Type} {p : Pl} {R : Hp → Hp → List Addr → Hp → β → α → Prop} {R' : Hp → Hp → List Addr → Hp → δ → γ → Prop} {F H : Hp} {ι : List Addr} {σ : L2.St} {o : Out α} {f : α → Store → Out γ} {Q : β → Hp → Prop} {Q' : δ → Hp → Prop}
    (h : Post p R' F ι H σ (o.bind f) Q') (k : ∀ a S F' ι' v H', Step F ι H F' ι' H' → Sim p.K p.mg F' ι' S H' → R H F' ι' H' v a → Post p R' F' ι' H' σ (f a S) Q' → Q v H')
    (hR : Stays R' := by first | exact stV | exact stT | exact stA | exact stL | exact stO | assumption) : Post p R F ι H σ o Q := by
  cases o with
  | ok a S => exact fun F' ι' v H' x s r => k a S F' ι' v H' x s r (Post.ext x h hR)
  | exc c fs S => exact h
  | stuck => exact h.elim
abbrev XE (X : Cx) (W : WX) (e : Expr) (f : SemE) : Prop := PE X e (tE ⟨X.K, X.mg, W⟩ f)
abbrev XL (X : Cx) (W : WX) (e : Expr) (f : SemA) : Prop := PE X e (tL ⟨X.K, X.mg, W⟩ f)
abbrev XA (X : Cx) (W : WX) (es : List Expr) (f : SemA) : Prop := PA X es (tA ⟨X.K, X.mg, W⟩ f)
abbrev XT (X : Cx) (W : WX) (e : Expr) (f : SemT) : Prop := PT X e (tT ⟨X.K, X.mg, W⟩ f)
abbrev XW (X : Cx) (W : WX) (e : Expr) (f : SemT) : Prop := PW X e (tT ⟨X.K, X.mg, W⟩ f)
abbrev XS (X : Cx) (W : WX) (st : Stmt) (g : SemS) : Prop := PS X st (tS ⟨X.K, X.mg, W⟩ g)
abbrev XSs (X : Cx) (W : WX) (st : List Stmt) (g : SemS) : Prop := PSs X st (tS ⟨X.K, X.mg, W⟩ g)
section
variable {X : Cx} {e : Expr} {es : List Expr} {st : Stmt} {sts : List Stmt}
theorem peI {t t' : TE} (h : PE X e t) (i : ∀ σ H Q, t' σ H Q → t σ H Q) : PE X e t' := ⟨fun pins s σ H Q I q => h.run pins s σ H Q I (i _ _ _ q)⟩
theorem ptI {t t' : TT} (h : PT X e t) (i : ∀ σ H Q, t' σ H Q → t σ H Q) : PT X e t' := ⟨fun pins s σ H Q I q => h.run pins s σ H Q I (i _ _ _ q)⟩
theorem pwI {t t' : TT} (h : PW X e t) (i : ∀ σ H Q, t' σ H Q → t σ H Q) : PW X e t' := ⟨fun w pins s σ H Q I q => h.run w pins s σ H Q I (i _ _ _ q)⟩
theorem paI {t t' : TA} (h : PA X es t) (i : ∀ σ H Q, t' σ H Q → t σ H Q) : PA X es t' := ⟨fun pos pins s σ H Q I q => h.run pos pins s σ H Q I (i _ _ _ q)⟩
theorem psI {t t' : TS} (h : PS X st t) (i : ∀ Dn σ H, t' Dn σ H → t Dn σ H) : PS X st t' := ⟨fun pins s σ H Dn I q => h.run pins s σ H Dn I (i _ _ _ q)⟩
theorem pssI {t t' : TS} (h : PSs X sts t) (i : ∀ Dn σ H, t' Dn σ H → t Dn σ H) : PSs X sts t' := ⟨fun pins s σ H Dn I q => h.run pins s σ H Dn I (i _ _ _ q)⟩
end
end Fk
set_option Elab.async false
set_option linter.all false
set_option maxRecDepth 100000
namespace Fk
open PySem PySem.Spec PyProof.Rows L2
section
variable {X : Cx} {W : WX}
def eVar (i : Nat) : SemE := fun ρ S => match ρ[i]? with
  | some (some d) => .ok d S
  | _ => .stuck
def eC (d : D) : SemE := fun _ S => .ok d S
theorem tE_var {p : Pl} {i : Nat} {σ : L2.St} {H : Hp} {Q : VK} (h : tE p (eVar i) σ H Q) : tVar i σ H Q := by
  obtain ⟨F, ι, ρ, S, s, r, q⟩ := h
  unfold eVar at q
  cases e : ρ[i]? with
  | none => rw [e] at q; exact q.elim
  | some o =>
    cases o with
    | none => rw [e] at q; exact q.elim
    | some d =>
      rw [e] at q
      obtain ⟨v, hv, rv⟩ := r.at' i d e
      exact ⟨v, hv, q F ι v H (Step.refl _ _ _) s rv⟩
theorem xe_var (i : Nat) {x : Str} {pos : Pos} (hN : X.N[i]? = some x := by rfl) (hv : Vis X.env.scope x := by first | exact Or.inl rfl | exact Or.inr (Or.inl rfl) | exact Or.inr (Or.inr rfl)) (hd : (x == ("__debug__" : Str)) = false := by decide)
    (hcd : (x == ("__classdict__" : Str)) = false := by decide) : XE X W (.Name x pos) (eVar i) := peI (pe_var hN hv hd hcd) fun _ _ _ h => tE_var h
theorem xe_c {e : Expr} {v : V} {d : D} (h : PE X e (tC v)) (r : ∀ K F ι, Rel K F ι v d) : XE X W e (eC d) := peI h fun σ H Q ⟨F, ι, ρ, S, s, _, q⟩ => q F ι v H (Step.refl _ _ _) s (r _ F ι)
theorem xe_int {i j pos} : XE X W (.Constant (.int i) j pos) (eC (.int i)) := xe_c pe_int fun _ _ _ => .int i
theorem xe_bl {b j pos} : XE X W (.Constant (.bool b) j pos) (eC (.bl b)) := xe_c pe_bl fun _ _ _ => .bl b
theorem xe_non {j pos} : XE X W (.Constant .none j pos) (eC .non) := xe_c pe_non fun _ _ _ => .non
theorem xe_str {x j pos} : XE X W (.Constant (.str x) j pos) (eC (.str x)) := xe_c pe_str fun _ _ _ => .str x
/-- a constant of the module -/
theorem xe_gint {x : Str} {i : Int} {pos : Pos} (hg : Gl X x) (hm : ∃ t, X.mg x = some (.int i t)) (hd : (x == ("__debug__" : Str)) = false := by decide) : XE X W (.Name x pos) (eC (.int i)) := by
  obtain ⟨t, hm⟩ := hm
  exact xe_c (pe_glob (v := .int i) hg hm ⟨t, rfl⟩ hd) fun _ _ _ => .int i
end
/-- what an operation asks and leaves: the store is only read -/
def rO {α : Type} (K : PySem.W.Frag) (mg : Str → Option Value) (R : Hp → Hp → List Addr → Hp → V → α → Prop) (op : D → D → Store → Option α) : R2 := fun x y H Q =>
  ∃ F ι S d e a, Sim K mg F ι S H ∧ Rel K F ι x d ∧ Rel K F ι y e ∧ op d e S = some a ∧ ∀ F' ι' v H', Step F ι H F' ι' H' → Sim K mg F' ι' S H' → R H F' ι' H' v a → Q v H'
def rU1 {α : Type} (K : PySem.W.Frag) (mg : Str → Option Value) (R : Hp → Hp → List Addr → Hp → V → α → Prop) (op : D → Store → Option α) : V → Hp → VK → Prop := fun x H Q =>
  ∃ F ι S d a, Sim K mg F ι S H ∧ Rel K F ι x d ∧ op d S = some a ∧ ∀ F' ι' v H', Step F ι H F' ι' H' → Sim K mg F' ι' S H' → R H F' ι' H' v a → Q v H'
def rCall {α : Type} (K : PySem.W.Frag) (mg : Str → Option Value) (R : Hp → Hp → List Addr → Hp → V → α → Prop) (op : List D → Store → Option α) : List V → Hp → VK → Prop := fun xs H Q =>
  ∃ F ι S ds a, Sim K mg F ι S H ∧ RelAll K F ι xs ds ∧ op ds S = some a ∧ ∀ F' ι' v H', Step F ι H F' ι' H' → Sim K mg F' ι' S H' → R H F' ι' H' v a → Q v H'
def lift {α : Type} : Option α → Store → Out α
  | some a, S => .ok a S
  | none, _ => .stuck
@[simp] theorem lift_some {α : Type} (a : α) (S : Store) : lift (some a) S = .ok a S := rfl
@[simp] theorem lift_none {α : Type} (S : Store) : lift (none : Option α) S = .stuck := rfl
def eBin {α : Type} (op : D → D → Store → Option α) (f g : SemE) : Env → Store → Out α := fun ρ S => (f ρ S).bind fun x S1 => (g ρ S1).bind fun y S2 => lift (op x y S2) S2
def eUn {α : Type} (op : D → Store → Option α) (f : SemE) : Env → Store → Out α := fun ρ S => (f ρ S).bind fun x S1 => lift (op x S1) S1
def eOps {α : Type} (op : List D → Store → Option α) (f : SemA) : Env → Store → Out α := fun ρ S => (f ρ S).bind fun xs S1 => lift (op xs S1) S1
abbrev OpX (X : Cx) (f : Value → Value → Sem Value) (op : D → D → Store → Option D) : Prop := OpR X f (rO X.K X.mg (RV' X.K) op)
abbrev UnX (X : Cx) (f : Value → Sem Value) (op : D → Store → Option D) : Prop := UnR X f (rU1 X.K X.mg (RV' X.K) op)
abbrev CallX (X : Cx) (f : Value) (op : List D → Store → Option D) : Prop := CallR X f (rCall X.K X.mg (RV' X.K) op)
section
variable {X : Cx} {W : WX} {α : Type} {R : Hp → Hp → List Addr → Hp → V → α → Prop} {a b : Expr} {f g : SemE} {pos : Pos}
theorem post_lift {p : Pl} {F H : Hp} {ι : List Addr} {σ : L2.St} {o : Option α} {S : Store} {Q : VK} (h : Post p R F ι H σ (lift o S) Q) : ∃ a, o = some a ∧ ∀ F' ι' v H', Step F ι H F' ι' H' → Sim p.K p.mg F' ι' S H' → R H F' ι' H' v a → Q v H' := by
  cases o with
  | none => exact h.elim
  | some a => exact ⟨a, rfl, h⟩
theorem tG_bin {p : Pl} {op : D → D → Store → Option α} {σ : L2.St} {H : Hp} {Q : VK} (h : tG p R (eBin op f g) σ H Q) (hR : Stays R := by first | exact stV | exact stT | exact stA | exact stL | assumption) : tOp (rO p.K p.mg R op) (tE p f) (tE p g) σ H Q := by
  obtain ⟨F, ι, ρ, S, s, r, q⟩ := h
  refine ⟨F, ι, ρ, S, s, r, post_bind (R := RV' p.K) q fun x S1 F1 ι1 v H1 x1 s1 rv q1 => ?_⟩
  refine ⟨F1, ι1, ρ, S1, s1, r.mono x1, post_bind (R := RV' p.K) q1 fun y S2 F2 ι2 u H2 x2 s2 ru q2 => ?_⟩
  obtain ⟨z, hz, q3⟩ := post_lift q2
  exact ⟨F2, ι2, S2, x, y, z, s2, Rel.mono x2 rv, ru, hz, q3⟩
theorem tG_un {p : Pl} {op : D → Store → Option α} {σ : L2.St} {H : Hp} {Q : VK} (h : tG p R (eUn op f) σ H Q) (hR : Stays R := by first | exact stV | exact stT | exact stA | exact stL | assumption) : tUn (rU1 p.K p.mg R op) (tE p f) σ H Q := by
  obtain ⟨F, ι, ρ, S, s, r, q⟩ := h
  refine ⟨F, ι, ρ, S, s, r, post_bind (R := RV' p.K) q fun x S1 F1 ι1 v H1 x1 s1 rv q1 => ?_⟩
  obtain ⟨z, hz, q3⟩ := post_lift q1
  exact ⟨F1, ι1, S1, x, z, s1, rv, hz, q3⟩
theorem tG_ops {p : Pl} {op : List D → Store → Option α} {fa : SemA} {σ : L2.St} {H : Hp} {Q : VK} (h : tG p R (eOps op fa) σ H Q) (hR : Stays R := by first | exact stV | exact stT | exact stA | exact stL | assumption) : tCB (rCall p.K p.mg R op) (tA p fa) σ H Q := by
  obtain ⟨F, ι, ρ, S, s, r, q⟩ := h
  refine ⟨F, ι, ρ, S, s, r, post_bind (R := RA' p.K) q fun x S1 F1 ι1 v H1 x1 s1 rv q1 => ?_⟩
  obtain ⟨z, hz, q3⟩ := post_lift q1
  exact ⟨F1, ι1, S1, x, z, s1, rv, hz, q3⟩
theorem xe_bin {o : Operator} {op : D → D → Store → Option D} (ho : OpX X (binaryOp o) op) (ha : XE X W a f) (hb : XE X W b g) : XE X W (.BinOp a o b pos) (eBin op f g) := peI (pe_op ho ha hb) fun _ _ _ h => tG_bin h
theorem xe_un {o : UnaryOp} {op : D → Store → Option D} (ho : UnX X (unaryOp o) op) (ha : XE X W a f) : XE X W (.UnaryOp o a pos) (eUn op f) := peI (pe_un ho ha) fun _ _ _ h => tG_un h
theorem xe_cmp {o : CmpOp} {op : D → D → Store → Option D} (ho : OpX X (compareOp o) op) (ha : XE X W a f) (hb : XE X W b g) (hm : behindInMarks o b = false) : XE X W (.Compare a [o] [b] pos) (eBin op f g) := peI (pe_cmpR ho ha hb hm) fun _ _ _ h => tG_bin h
/-- a value as a test -/
def asB : D → Store → Out Bool
  | .bl b, S => .ok b S
  | _, _ => .stuck
def tOfE (f : SemE) : SemT := fun ρ S => (f ρ S).bind asB
theorem rel_bl {K : PySem.W.Frag} {F : Hp} {ι : List Addr} {v : V} {b : Bool} (h : Rel K F ι v (.bl b)) : v = .bl b := by cases h; rfl
theorem rel_int {K : PySem.W.Frag} {F : Hp} {ι : List Addr} {v : V} {i : Int} (h : Rel K F ι v (.int i)) : v = .int i := by cases h; rfl
theorem rel_str {K : PySem.W.Frag} {F : Hp} {ι : List Addr} {v : V} {i : Str} (h : Rel K F ι v (.str i)) : v = .str i := by cases h; rfl
theorem tT_of {p : Pl} {σ : L2.St} {H : Hp} {Q : Bool → Hp → Prop} (h : tT p (tOfE f) σ H Q) : tB (tE p f) σ H Q := by
  obtain ⟨F, ι, ρ, S, s, r, q⟩ := h
  refine ⟨F, ι, ρ, S, s, r, post_bind (R := RV' p.K) q fun x S1 F1 ι1 v H1 x1 s1 rv q1 => ?_⟩
  cases x with
  | bl b => exact ⟨b, rel_bl rv, q1 F1 ι1 b H1 (Step.refl _ _ _) s1 rfl⟩
  | _ => exact q1.elim
theorem xt_cmp {o : CmpOp} {op : D → D → Store → Option D} (ho : OpX X (compareOp o) op) (ha : XE X W a f) (hb : XE X W b g) (hm : behindInMarks o b = false) : XT X W (.Compare a [o] [b] pos) (tOfE (eBin op f g)) := by
  refine ptI (pt_cmpR ho ha hb hm) fun σ H Q h => ?_
  have h' := tT_of h
  exact tG_bin (Q := fun x H1 => ∃ c, x = .bl c ∧ Q c H1) h'
theorem xt_val (ha : XE X W a f) (he : ∀ whole, isTrue a X.env whole = (do let v ← whole; standAt a.pos; holding [v] (truthy v)) := by intro _; rfl) : XT X W a (tOfE f) := ptI (pt_val ha he) fun _ _ _ h => tT_of h
variable {t u : SemT} {c : Expr} {rest : List Expr}
def sAnd (t u : SemT) : SemT := fun ρ S => (t ρ S).bind fun b S1 => if b then u ρ S1 else .ok false S1
def sOr (t u : SemT) : SemT := fun ρ S => (t ρ S).bind fun b S1 => if b then .ok true S1 else u ρ S1
def sNot (t : SemT) : SemT := fun ρ S => (t ρ S).bind fun b S1 => .ok (!b) S1
theorem tT_or {p : Pl} {σ : L2.St} {H : Hp} {Q : Bool → Hp → Prop} (h : tT p (sOr t u) σ H Q) : tOr (tT p t) (tT p u) σ H Q := by
  obtain ⟨F, ι, ρ, S, s, r, q⟩ := h
  refine ⟨F, ι, ρ, S, s, r, post_bind (R := RT') q fun x S1 F1 ι1 v H1 x1 s1 rv q1 => ?_⟩
  cases (show v = x from rv)
  cases x with
  | false => exact ⟨F1, ι1, ρ, S1, s1, r.mono x1, q1⟩
  | true => exact q1 F1 ι1 true H1 (Step.refl _ _ _) s1 rfl
theorem tT_not {p : Pl} {σ : L2.St} {H : Hp} {Q : Bool → Hp → Prop} (h : tT p (sNot t) σ H Q) : tNot (tT p t) σ H Q := by
  obtain ⟨F, ι, ρ, S, s, r, q⟩ := h
  refine ⟨F, ι, ρ, S, s, r, post_bind (R := RT') q fun x S1 F1 ι1 v H1 x1 s1 rv q1 => ?_⟩
  cases (show v = x from rv)
  exact q1 F1 ι1 _ H1 (Step.refl _ _ _) s1 rfl
theorem xw_or1 (ha : XT X W a t) : XW X W (.BoolOp .Or [a] pos) t := pw_or1 ha
theorem xw_or (ha : XT X W a t) (hb : XW X W (.BoolOp .Or (b :: rest) pos) u) : XW X W (.BoolOp .Or (a :: b :: rest) pos) (sOr t u) := pwI (pw_or ha hb) fun _ _ _ h => tT_or h
theorem xt_w (h : XW X W a t) : XT X W a t := h.pt
theorem xt_not (ha : XT X W a t) : XT X W (.UnaryOp .Not a pos) (sNot t) := ptI (pt_not ha) fun _ _ _ h => tT_not h
def vAnd (f g : SemE) : SemE := fun ρ S => (f ρ S).bind fun x S1 => (asB x S1).bind fun b S2 => if b then g ρ S2 else .ok (.bl false) S2
def vOr (f g : SemE) : SemE := fun ρ S => (f ρ S).bind fun x S1 => (asB x S1).bind fun b S2 => if b then .ok (.bl true) S2 else g ρ S2
def vNot (f : SemE) : SemE := fun ρ S => (f ρ S).bind fun x S1 => (asB x S1).bind fun b S2 => .ok (.bl (!b)) S2
def eIf {α : Type} (t : SemT) (f g : Env → Store → Out α) : Env → Store → Out α := fun ρ S => (t ρ S).bind fun b S1 => if b then f ρ S1 else g ρ S1
def eChain (op op' : D → D → Store → Option D) (f g h : SemE) : SemE := fun ρ S => (f ρ S).bind fun x S1 => (g ρ S1).bind fun y S2 => (lift (op x y S2) S2).bind fun z S3 => (asB z S3).bind fun k S4 =>
  if k then (h ρ S4).bind fun w S5 => lift (op' y w S5) S5 else .ok (.bl false) S4
def aNil : SemA := fun _ S => .ok [] S
def aCons (f : SemE) (g : SemA) : SemA := fun ρ S => (f ρ S).bind fun x S1 => (g ρ S1).bind fun xs S2 => .ok (x :: xs) S2
theorem xa_nil : XA X W [] aNil := paI pa_nil fun σ H Q ⟨F, ι, ρ, S, s, r, q⟩ => q F ι [] H (Step.refl _ _ _) s .nil
theorem xa_cons {es : List Expr} {fa : SemA} (ha : XE X W a f) (hr : XA X W es fa) (hs : starEach (a :: es) X.env = (false, eval a X.env) :: starEach es X.env := by rfl) : XA X W (a :: es) (aCons f fa) := by
  refine paI (pa_cons ha hr hs) fun σ H Q h => ?_
  obtain ⟨F, ι, ρ, S, s, r, q⟩ := h
  refine ⟨F, ι, ρ, S, s, r, post_bind (R := RV' X.K) q fun x S1 F1 ι1 v H1 x1 s1 rv q1 => ?_⟩
  refine ⟨F1, ι1, ρ, S1, s1, r.mono x1, post_bind (R := RA' X.K) q1 fun y S2 F2 ι2 u H2 x2 s2 ru q2 => ?_⟩
  exact q2 F2 ι2 (v :: u) H2 (Step.refl _ _ _) s2 (.cons (Rel.mono x2 rv) ru)
def sz (n : Nat) : Bool := decide (n ≤ 4000000)
theorem sz_le {n : Nat} (h : sz n = true) : n ≤ sizeLine := Nat.le_trans (of_decide_eq_true h) (by decide)
theorem sz_lt {n : Nat} (h : sz n = true) : n < sizeLine := Nat.lt_of_le_of_lt (of_decide_eq_true h) (by decide)
def eTup (fa : SemA) : SemE := fun ρ S => (fa ρ S).bind fun xs S1 => if sz xs.length then .ok (.tup xs) S1 else .stuck
def lDisp (fa : SemA) : SemA := fun ρ S => (fa ρ S).bind fun xs S1 => if sz xs.length then .ok xs S1 else .stuck
theorem ite_stuck {p : Pl} {β : Type} {R : Hp → Hp → List Addr → Hp → β → α → Prop} {F H : Hp} {ι : List Addr} {σ : L2.St} {Q : β → Hp → Prop} {c : Bool} {o : Out α} (h : Post p R F ι H σ (if c then o else .stuck) Q) : c = true ∧ Post p R F ι H σ o Q := by
  cases c with
  | true => exact ⟨rfl, h⟩
  | false => exact h.elim
theorem xe_tup {es : List Expr} {fa : SemA} {k} (h : XA X W es fa) : XE X W (.Tuple es k pos) (eTup fa) := by
  refine peI (pe_tup h) fun σ H Q h => ?_
  obtain ⟨F, ι, ρ, S, s, r, q⟩ := h
  refine ⟨F, ι, ρ, S, s, r, post_bind (R := RA' X.K) q fun x S1 F1 ι1 v H1 x1 s1 rv q1 => ?_⟩
  obtain ⟨hz, q1⟩ := ite_stuck q1
  refine ⟨by rw [RelAll.length rv]; exact sz_le hz, fun p hp => ?_⟩
  obtain ⟨x2, s2⟩ := s1.frozen (o := .tup v) hp
  exact q1 _ _ _ _ x2 s2 (.tup upd_same (RelAll.mono x2 rv))
theorem xl_disp {es : List Expr} {fa : SemA} (h : XA X W es fa) : XL X W (.List es pos) (lDisp fa) := by
  refine peI (pe_lst h) fun σ H Q h => ?_
  obtain ⟨F, ι, ρ, S, s, r, q⟩ := h
  refine ⟨F, ι, ρ, S, s, r, post_bind (R := RA' X.K) q fun x S1 F1 ι1 v H1 x1 s1 rv q1 => ?_⟩
  obtain ⟨hz, q1⟩ := ite_stuck q1
  refine ⟨by rw [RelAll.length rv]; exact sz_le hz, fun p hp => ?_⟩
  obtain ⟨hf, hi⟩ := s1.fresh hp
  obtain ⟨x2, s2⟩ := s1.loose (o := .lst v) hp
  exact q1 _ _ _ _ x2 s2 ⟨p, v, rfl, hp, upd_same, hf, hi, rv⟩
def frz (fa : SemA) : SemE := fun ρ S => (fa ρ S).bind fun xs S1 => .ok (.lst xs) S1
def cellL (fa : SemA) : SemE := fun ρ S => (fa ρ S).bind fun xs S1 => if closedA S1.length xs then .ok (.ref S1.length) (S1 ++ [.lst true xs]) else .stuck
theorem Sim.freezeNew {K : PySem.W.Frag} {mg : Str → Option Value} {F F0 H0 : Hp} {ι ι0 : List Addr} {S : Store} {H : Hp} (s : Sim K mg F ι S H) (st : Step F0 ι0 H0 F ι H) {q : Addr} {o : HO} (h0 : H0 q = none) (hq : H q = some o) (hf : F q = none) (hi : q ∉ ι) (ho : ∀ ps, o ≠ .tbl ps := by intro _ z; cases z) :
    Ext F ι (upd F q o) ι ∧ Step F0 ι0 H0 (upd F q o) ι H ∧ Sim K mg (upd F q o) ι S H := by
  have x : Ext F ι (upd F q o) ι := ⟨same_upd hf, List.prefix_rfl⟩
  refine ⟨x, ⟨st.toExt.trans x, fun b u e1 e2 e3 e4 => ?_, st.dom⟩, fun b u e => ?_, s.len, s.nd, fun n a c ha hc => ?_, s.cl, s.tab, nt_upd s.nt ho, s.tt⟩
  · obtain ⟨k1, k2, k3⟩ := st.keep b u e1 e2 e3 e4
    exact ⟨k1, by rw [upd_ne (ne_of_none e1 h0)]; exact k2, k3⟩
  · by_cases hb : b = q
    · subst hb
      rw [upd_same] at e
      rw [hq]
      exact e
    · rw [upd_ne hb] at e
      exact s.sub b u e
  · have ne : a ≠ q := fun e => hi (e ▸ List.mem_of_getElem? ha)
    exact (s.cell n a c ha hc).mono x (fun e => by rw [upd_ne ne]; exact e) fun o' e => e
theorem xe_frz {fa : SemA} (h : XL X W a fa) : XE X W a (frz fa) := by
  refine peI h fun σ H Q h => ?_
  obtain ⟨F, ι, ρ, S, s, r, q⟩ := h
  refine ⟨F, ι, ρ, S, s, r, ?_⟩
  unfold frz at q
  cases e : fa ρ S with
  | ok x S1 =>
    rw [e] at q
    intro F1 ι1 v H1 x1 s1 rv
    obtain ⟨q', vs, rfl, h0, hq, hf, hi, rr⟩ := rv
    obtain ⟨x0, x2, s2⟩ := s1.freezeNew x1 h0 hq hf hi
    exact q _ _ _ _ x2 s2 (.lst upd_same (RelAll.mono0 x0 rr))
  | exc c fs S1 => rw [e] at q; exact q
  | stuck => rw [e] at q; exact q.elim
theorem xe_cell {fa : SemA} (h : XL X W a fa) : XE X W a (cellL fa) := by
  refine peI h fun σ H Q h => ?_
  obtain ⟨F, ι, ρ, S, s, r, q⟩ := h
  refine ⟨F, ι, ρ, S, s, r, ?_⟩
  unfold cellL at q
  cases e : fa ρ S with
  | ok x S1 =>
    rw [e] at q
    simp only [Out.ok_bind] at q
    obtain ⟨hcl, q⟩ := ite_stuck q
    intro F1 ι1 v H1 x1 s1 rv
    obtain ⟨q', vs, rfl, h0, hq, hf, hi, rr⟩ := rv
    have xx : Ext F1 ι1 F1 (ι1 ++ [q']) := ⟨Same.refl _, List.prefix_append _ _⟩
    obtain ⟨x2, s2⟩ := s1.newCell x1 (c := .lst true x) h0 hi ⟨vs, hq, RelAll.mono0 xx rr, hf⟩ hcl
    exact q _ _ _ _ x2 s2 (.ref (by rw [← s1.len]; simp))
  | exc c fs S1 => rw [e] at q; exact q
  | stuck => rw [e] at q; exact q.elim
end
end Fk
set_option Elab.async false
set_option linter.all false
set_option maxRecDepth 100000
namespace Fk
open PySem PySem.Spec PyProof.Rows L2
def drc (n : Nat) : Option Cell → D
  | some (.lst _ xs) => .lst xs
  | some (.dK kvs) => .dct kvs
  | _ => .ref n
def dr (S : Store) : D → D
  | .ref n => drc n S[n]?
  | d => d
theorem dr_ref (S : Store) (n : Nat) : dr S (.ref n) = drc n S[n]? := rfl
theorem drc_no {n : Nat} {c : Option Cell} {d : D} (h : drc n c = d) : (∃ xs, d = .lst xs) ∨ (∃ xs, d = .dct xs) ∨ d = .ref n := by
  unfold drc at h
  split at h
  · exact .inl ⟨_, h.symm⟩
  · exact .inr (.inl ⟨_, h.symm⟩)
  · exact .inr (.inr h.symm)
section
variable {K : PySem.W.Frag} {mg : Str → Option Value} {F : Hp} {ι : List Addr} {S : Store} {H : Hp} {x : V} {d : D} {ds : List D}
theorem at_lst (s : Sim K mg F ι S H) (r : Rel K F ι x d) (h : dr S d = .lst ds) : ∃ a vs, x = .ref a ∧ H a = some (.lst vs) ∧ RelAll K F ι vs ds := by
  cases r with
  | lst e q =>
    cases (show D.lst _ = D.lst ds from h)
    exact ⟨_, _, rfl, s.sub _ _ e, q⟩
  | @ref n a e =>
    rw [dr_ref] at h
    cases hc : S[n]? with
    | none => rw [hc] at h; cases h
    | some c =>
      rw [hc] at h
      have ok := s.cell n a c e hc
      cases c with
      | lst b xs =>
        cases h
        cases b with
        | true => obtain ⟨vs, h1, h2, _⟩ := ok; exact ⟨_, vs, rfl, h1, h2⟩
        | false => obtain ⟨vs, h1, h2⟩ := ok; exact ⟨_, vs, rfl, s.sub _ _ h1, h2⟩
      | _ => cases h
  | _ => cases h
theorem at_tup (s : Sim K mg F ι S H) (r : Rel K F ι x d) (h : dr S d = .tup ds) : ∃ a vs, x = .ref a ∧ H a = some (.tup vs) ∧ F a = some (.tup vs) ∧ RelAll K F ι vs ds ∧ d = .tup ds := by
  cases r with
  | tup e q =>
    cases (show D.tup _ = D.tup ds from h)
    exact ⟨_, _, rfl, s.sub _ _ e, e, q, rfl⟩
  | @ref n a e =>
    rcases drc_no h with ⟨_, z⟩ | ⟨_, z⟩ | z <;> cases z
  | _ => cases h
theorem at_scr (s : Sim K mg F ι S H) (r : Rel K F ι x d) (h : dr S d = .scr ds) : ∃ a vs, x = .ref a ∧ SqL K H a vs ∧ RelAll K F ι vs ds := by
  cases r with
  | scr e q =>
    cases (show D.scr _ = D.scr ds from h)
    exact ⟨_, _, rfl, s.sub.seq e, q⟩
  | @ref n a e =>
    rcases drc_no h with ⟨_, z⟩ | ⟨_, z⟩ | z <;> cases z
  | _ => cases h
theorem at_dct (s : Sim K mg F ι S H) (r : Rel K F ι x d) {kds : List (Key × D)} (h : dr S d = .dct kds) : ∃ a kvs, x = .ref a ∧ H a = some (.dK kvs) ∧ RelKV K F ι kvs kds := by
  cases r with
  | dct e k q =>
    cases (show D.dct _ = D.dct kds from h)
    exact ⟨_, _, rfl, s.sub _ _ e, ⟨k, q⟩⟩
  | @ref n a e =>
    rw [dr_ref] at h
    cases hc : S[n]? with
    | none => rw [hc] at h; cases h
    | some c =>
      rw [hc] at h
      have ok := s.cell n a c e hc
      cases c with
      | dK kvs =>
        cases h
        obtain ⟨kvs, h1, h2, _⟩ := ok
        exact ⟨_, kvs, rfl, h1, h2⟩
      | _ => cases h
  | _ => cases h
theorem at_int (r : Rel K F ι x d) {i : Int} (h : dr S d = .int i) : x = .int i ∧ d = .int i := by
  cases r with
  | int j => cases h; exact ⟨rfl, rfl⟩
  | @ref n a e => rcases drc_no h with ⟨_, z⟩ | ⟨_, z⟩ | z <;> cases z
  | _ => cases h
theorem at_str (r : Rel K F ι x d) {i : Str} (h : dr S d = .str i) : x = .str i ∧ d = .str i := by
  cases r with
  | str j => cases h; exact ⟨rfl, rfl⟩
  | @ref n a e => rcases drc_no h with ⟨_, z⟩ | ⟨_, z⟩ | z <;> cases z
  | _ => cases h
def asInts : List D → Option (List Int)
  | [] => some []
  | .int i :: r => (asInts r).map (i :: ·)
  | _ :: _ => none
@[simp] theorem asInts_map : ∀ ns : List Int, asInts (ns.map D.int) = some ns
  | [] => rfl
  | n :: ns => by rw [List.map_cons, asInts, asInts_map ns]; rfl
def asBls : List D → Option (List Bool)
  | [] => some []
  | .bl i :: r => (asBls r).map (i :: ·)
  | _ :: _ => none
@[simp] theorem asBls_map : ∀ ns : List Bool, asBls (ns.map D.bl) = some ns
  | [] => rfl
  | n :: ns => by rw [List.map_cons, asBls, asBls_map ns]; rfl
theorem rel_at {vs : List V} {i : Int} {d : D} (r : RelAll K F ι vs ds) (h : atI ds i = some d) : ∃ v, atI vs i = some v ∧ Rel K F ι v d := by
  unfold atI at h ⊢
  rw [r.length]
  cases e : ixN ds.length i with
  | none => rw [e] at h; cases h
  | some j =>
    rw [e] at h
    exact r.get h
end
def cutD (xs : List D) (lo hi : Option Int) : List D := (xs.drop (HT.sIx xs.length 0 lo)).take (HT.sIx xs.length xs.length hi - HT.sIx xs.length 0 lo)
theorem rel_cut {K : PySem.W.Frag} {F : Hp} {ι : List Addr} {vs : List V} {ds : List D} (r : RelAll K F ι vs ds) (lo hi : Option Int) : RelAll K F ι (cutV vs lo hi) (cutD ds lo hi) := by
  unfold cutV cutD
  rw [r.length]
  exact (r.drop _).take _
def opAdd : D → D → Store → Option D := fun d e S => match dr S d, dr S e with
  | .int i, .int j => some (.int (i + j))
  | .str x, .str y => if sz (x.length + y.length) then some (.str (x ++ y)) else none
  | .tup xs, .tup ys => if sz (xs.length + ys.length) then some (.tup (xs ++ ys)) else none
  | .lst xs, .lst ys => if sz (xs.length + ys.length) then some (.lst (xs ++ ys)) else none
  | _, _ => none
def opSub : D → D → Store → Option D := fun d e _ => match d, e with
  | .int i, .int j => some (.int (i - j))
  | _, _ => none
def mulOk (i j : Int) : Bool := decide (i.natAbs.log2 + j.natAbs.log2 < 1000000)
def opMul : D → D → Store → Option D := fun d e _ => match d, e with
  | .int i, .int j => if mulOk i j then some (.int (i * j)) else none
  | .tup xs, .int k => if decide (xs ≠ [] ∧ 2 ≤ k ∧ k ≤ 1000 ∧ xs.length ≤ 1000) then some (.tup (List.replicate k.toNat xs).flatten) else none
  | .lst xs, .int k => if decide (0 ≤ k ∧ k ≤ 100 ∧ xs.length ≤ 1000) then some (.lst (List.replicate k.toNat xs).flatten) else none
  | _, _ => none
def divOk (j : Int) : Bool := decide (0 < j ∧ j.natAbs.log2 < 9000)
def opDiv : D → D → Store → Option D := fun d e _ => match d, e with
  | .int i, .int j => if divOk j then some (.int (i / j)) else none
  | _, _ => none
def opMod : D → D → Store → Option D := fun d e _ => match d, e with
  | .int i, .int j => if decide (0 < j) then some (.int (i % j)) else none
  | _, _ => none
def powOk (i j : Int) : Bool := decide (0 ≤ j ∧ j ≤ 1000 ∧ i.natAbs < 2 ^ 64)
def opPow : D → D → Store → Option D := fun d e _ => match d, e with
  | .int i, .int j => if powOk i j then some (.int (i ^ j.toNat)) else none
  | _, _ => none
def opLt : D → D → Store → Option D := fun d e _ => match d, e with
  | .int i, .int j => some (.bl (decide (i < j)))
  | _, _ => none
def opLe : D → D → Store → Option D := fun d e _ => match d, e with
  | .int i, .int j => some (.bl (decide (i ≤ j)))
  | _, _ => none
def opGt : D → D → Store → Option D := fun d e _ => match d, e with
  | .int i, .int j => some (.bl (decide (j < i)))
  | _, _ => none
def opGe : D → D → Store → Option D := fun d e _ => match d, e with
  | .int i, .int j => some (.bl (decide (j ≤ i)))
  | _, _ => none
def opNeg : D → Store → Option D := fun d _ => match d with
  | .int i => some (.int (-i))
  | _ => none
section
variable {X : Cx}
theorem ox_add : OpX X (binaryOp .Add) opAdd := by
  intro pins s σ H x y v u Q I rx ry h
  obtain ⟨F, ι, S, d, e, a, sm, rd, re, ho, q⟩ := h
  unfold opAdd at ho
  split at ho
  · next i j h1 h2 =>
    cases ho
    obtain ⟨rfl, rfl⟩ := at_int rd h1
    obtain ⟨rfl, rfl⟩ := at_int re h2
    exact op_add pins s σ H _ _ v u Q I rx ry ⟨i, j, rfl, rfl, q F ι _ H (Step.refl _ _ _) sm (.int _)⟩
  · next i j h1 h2 =>
    split at ho
    · next hz =>
      cases ho
      obtain ⟨rfl, rfl⟩ := at_str rd h1
      obtain ⟨rfl, rfl⟩ := at_str re h2
      exact op_add_str pins s σ H _ _ v u Q I rx ry ⟨i, j, rfl, rfl, sz_le hz, q F ι _ H (Step.refl _ _ _) sm (.str _)⟩
    · cases ho
  · next xs ys h1 h2 =>
    split at ho
    · next hz =>
      cases ho
      obtain ⟨p1, vs, rfl, e1, f1, r1, rfl⟩ := at_tup sm rd h1
      obtain ⟨p2, ws, rfl, e2, f2, r2, rfl⟩ := at_tup sm re h2
      refine op_catA pins s σ H _ _ v u Q I rx ry ⟨p1, p2, vs, ws, rfl, rfl, SqT.of e1, SqT.of e2, ?_, fun hv => ?_, fun hv hw => ?_, fun hv hw p hp => ?_⟩
      · rw [r1.length, r2.length]; exact sz_le hz
      · subst hv
        cases r1
        exact q F ι _ H (Step.refl _ _ _) sm (.tup f2 r2)
      · subst hw
        cases r2
        rw [List.append_nil] at q
        exact q F ι _ H (Step.refl _ _ _) sm (.tup f1 r1)
      · obtain ⟨x2, s2⟩ := sm.frozen (o := .tup (vs ++ ws)) hp
        exact q _ _ _ _ x2 s2 (.tup upd_same (RelAll.mono x2 (r1.append r2)))
    · cases ho
  · next xs ys h1 h2 =>
    split at ho
    · next hz =>
      cases ho
      obtain ⟨p1, vs, rfl, e1, r1⟩ := at_lst sm rd h1
      obtain ⟨p2, ws, rfl, e2, r2⟩ := at_lst sm re h2
      refine op_cat pins s σ H _ _ v u Q I rx ry ⟨p1, p2, vs, ws, rfl, rfl, e1, e2, ?_, fun p hp => ?_⟩
      · rw [r1.length, r2.length]; exact sz_le hz
      · obtain ⟨x2, s2⟩ := sm.frozen (o := .lst (vs ++ ws)) hp
        exact q _ _ _ _ x2 s2 (.lst upd_same (RelAll.mono x2 (r1.append r2)))
    · cases ho
  · cases ho
/-- an operation on two ints -/
theorem ox_int {f : Value → Value → Sem Value} {C : Int → Int → Prop} {g : Int → Int → V} {g' : Int → Int → D} {op : D → D → Store → Option D} (h : OpR X f (rI C g)) (hg : ∀ i j K F ι, Rel K F ι (g i j) (g' i j))
    (ho : ∀ d e S a, op d e S = some a → ∃ i j, d = .int i ∧ e = .int j ∧ C i j ∧ a = g' i j) : OpX X f op := by
  intro pins s σ H x y v u Q I rx ry hh
  obtain ⟨F, ι, S, d, e, a, sm, rd, re, hop, q⟩ := hh
  obtain ⟨i, j, rfl, rfl, hc, rfl⟩ := ho d e S a hop
  cases rel_int rd
  cases rel_int re
  exact h pins s σ H _ _ v u Q I rx ry ⟨i, j, rfl, rfl, hc, q F ι _ H (Step.refl _ _ _) sm (hg i j _ _ _)⟩
theorem rI_of {f : Value → Value → Sem Value} {g : Int → Int → V} (h : OpR X f (rI0 g)) : OpR X f (rI (fun _ _ => True) g) := fun pins s σ H x y v u Q I rx ry ⟨i, j, a, b, _, q⟩ => h pins s σ H x y v u Q I rx ry ⟨i, j, a, b, q⟩
theorem ox_div : OpX X (binaryOp .FloorDiv) opDiv := ox_int (g' := fun i j => .int (i / j)) op_fdivW (fun _ _ _ _ _ => .int _) fun d e S a h => by
  unfold opDiv at h
  split at h
  · next i j =>
    split at h
    · next hz =>
      cases h
      have z : 0 < j ∧ j.natAbs.log2 < 9000 := of_decide_eq_true hz
      exact ⟨_, _, rfl, rfl, z, rfl⟩
    · cases h
  · cases h
theorem ox_mod : OpX X (binaryOp .Mod) opMod := ox_int (g' := fun i j => .int (i % j)) op_mod (fun _ _ _ _ _ => .int _) fun d e S a h => by
  unfold opMod at h
  split at h
  · split at h
    · next hz => cases h; exact ⟨_, _, rfl, rfl, of_decide_eq_true hz, rfl⟩
    · cases h
  · cases h
theorem ox_pow : OpX X (binaryOp .Pow) opPow := ox_int (g' := fun i j => .int (i ^ j.toNat)) op_pow (fun _ _ _ _ _ => .int _) fun d e S a h => by
  unfold opPow at h
  split at h
  · split at h
    · next hz =>
      cases h
      obtain ⟨a, b, c⟩ := of_decide_eq_true hz
      exact ⟨_, _, rfl, rfl, ⟨a, by omega, c⟩, rfl⟩
    · cases h
  · cases h
theorem ox_lt : OpX X (compareOp .Lt) opLt := ox_int (g' := fun i j => .bl (decide (i < j))) (rI_of op_lt) (fun _ _ _ _ _ => .bl _) fun d e S a h => by
  unfold opLt at h
  split at h
  · cases h; exact ⟨_, _, rfl, rfl, trivial, rfl⟩
  · cases h
theorem ox_gt : OpX X (compareOp .Gt) opGt := ox_int (g' := fun i j => .bl (decide (j < i))) (rI_of op_gt) (fun _ _ _ _ _ => .bl _) fun d e S a h => by
  unfold opGt at h
  split at h
  · cases h; exact ⟨_, _, rfl, rfl, trivial, rfl⟩
  · cases h
theorem ox_ge : OpX X (compareOp .GtE) opGe := ox_int (g' := fun i j => .bl (decide (j ≤ i))) (rI_of op_ge) (fun _ _ _ _ _ => .bl _) fun d e S a h => by
  unfold opGe at h
  split at h
  · cases h; exact ⟨_, _, rfl, rfl, trivial, rfl⟩
  · cases h
theorem ux_neg : UnX X (unaryOp .USub) opNeg := by
  intro pins s σ H x v Q I rx hh
  obtain ⟨F, ι, S, d, a, sm, rd, ho, q⟩ := hh
  unfold opNeg at ho
  split at ho
  · next i =>
    cases ho
    cases rel_int rd
    exact un_neg pins s σ H _ v Q I rx ⟨i, rfl, q F ι _ H (Step.refl _ _ _) sm (.int _)⟩
  · cases ho
theorem rel_rep {K : PySem.W.Frag} {F : Hp} {ι : List Addr} {vs : List V} {ds : List D} (r : RelAll K F ι vs ds) : ∀ n : Nat, RelAll K F ι (List.replicate n vs).flatten (List.replicate n ds).flatten
  | 0 => .nil
  | n + 1 => by
    rw [List.replicate_succ, List.replicate_succ, List.flatten_cons, List.flatten_cons]
    exact r.append (rel_rep r n)
theorem ox_mul : OpX X (binaryOp .Mult) opMul := by
  intro pins s σ H x y v u Q I rx ry h
  obtain ⟨F, ι, S, d, e, a, sm, rd, re, ho, q⟩ := h
  unfold opMul at ho
  split at ho
  · next i j =>
    split at ho
    · next hz =>
      cases ho
      cases rel_int rd
      cases rel_int re
      have z : i.natAbs.log2 + j.natAbs.log2 < 1000000 := of_decide_eq_true hz
      exact op_mulW pins s σ H _ _ v u Q I rx ry ⟨i, j, rfl, rfl, z, q F ι _ H (Step.refl _ _ _) sm (.int _)⟩
    · cases ho
  · next xs k =>
    split at ho
    · next hz =>
      cases ho
      obtain ⟨h1, h2, h3, h4⟩ := of_decide_eq_true hz
      cases rel_int re
      obtain ⟨p1, vs, rfl, e1, f1, r1, _⟩ := at_tup sm rd (show dr S (.tup xs) = .tup xs from rfl)
      refine op_repT pins s σ H _ _ v u Q I rx ry ⟨p1, k, vs, rfl, rfl, SqT.of e1, fun z => ?_, h2, h3, by rw [r1.length]; exact h4, fun p hp => ?_⟩
      · subst z
        cases r1
        exact h1 rfl
      · obtain ⟨x2, s2⟩ := sm.frozen (o := .tup (List.replicate k.toNat vs).flatten) hp
        exact q _ _ _ _ x2 s2 (.tup upd_same (RelAll.mono x2 (rel_rep r1 _)))
    · cases ho
  · next xs k =>
    split at ho
    · next hz =>
      cases ho
      obtain ⟨h1, h2, h3⟩ := of_decide_eq_true hz
      cases rel_int re
      obtain ⟨p1, vs, rfl, e1, r1⟩ := at_lst sm rd (show dr S (.lst xs) = .lst xs from rfl)
      refine op_rep pins s σ H _ _ v u Q I rx ry ⟨p1, k, vs, rfl, rfl, e1, by omega, by omega, ?_, fun p hp => ?_⟩
      · have h4 : k.toNat ≤ 100 := by omega
        have h5 : xs.length * k.toNat ≤ 1000 * 100 := Nat.mul_le_mul h3 h4
        rw [r1.length]
        exact Nat.le_trans h5 (by decide)
      · obtain ⟨x2, s2⟩ := sm.frozen (o := .lst (List.replicate k.toNat vs).flatten) hp
        exact q _ _ _ _ x2 s2 (.lst upd_same (RelAll.mono x2 (rel_rep r1 _)))
    · cases ho
  · cases ho
def opIx : D → D → Store → Option D := fun d e S => match dr S d, e with
  | .lst xs, .int i => atI xs i
  | .tup xs, .int i => atI xs i
  | .str z, .int i => if sz z.length then (atI z.cps.toList i).map fun c => .str ⟨#[c]⟩ else none
  | _, _ => none
theorem ix_any : IxR X (rO X.K X.mg (RV' X.K) opIx) := by
  intro value slice pins s σ H x y v u Q I rx ry h hs
  obtain ⟨F, ι, S, d, e, a, sm, rd, re, ho, q⟩ := h
  unfold opIx at ho
  split at ho
  · next xs i h1 =>
    cases rel_int re
    obtain ⟨p1, vs, rfl, e1, r1⟩ := at_lst sm rd h1
    obtain ⟨z, hz, rz⟩ := rel_at r1 ho
    exact ix_list value slice pins s σ H _ _ v u Q I rx ry ⟨p1, vs, i, z, rfl, rfl, SqL.of e1, hz, q F ι _ H (Step.refl _ _ _) sm rz⟩ hs
  · next xs i h1 =>
    cases rel_int re
    obtain ⟨p1, vs, rfl, e1, f1, r1, _⟩ := at_tup sm rd h1
    obtain ⟨z, hz, rz⟩ := rel_at r1 ho
    exact ix_tup value slice pins s σ H _ _ v u Q I rx ry ⟨p1, vs, i, z, rfl, rfl, SqT.of e1, hz, q F ι _ H (Step.refl _ _ _) sm rz⟩ hs
  · next z i h1 =>
    split at ho
    · next hz =>
      cases rel_int re
      obtain ⟨rfl, rfl⟩ := at_str rd h1
      obtain ⟨c, hc, rfl⟩ := Option.map_eq_some_iff.mp ho
      exact ix_str value slice pins s σ H _ _ v u Q I rx ry ⟨z, i, c, rfl, rfl, sz_le hz, hc, q F ι _ H (Step.refl _ _ _) sm (.str _)⟩ hs
    · cases ho
  · cases ho
variable {W : WX} {a b e : Expr} {f g : SemE} {pos p2 : Pos}
theorem xe_ix (ha : XE X W a f) (hb : XE X W b g) (hs : PlainIx b) : XE X W (.Subscript a b pos) (eBin opIx f g) := peI (pe_ix ix_any ha hb hs) fun _ _ _ h => tG_bin h
/-- a part of a slice -/
abbrev SemO := Env → Store → Out (Option Int)
abbrev XO (X : Cx) (W : WX) (e : Option Expr) (f : SemO) : Prop := PO X e (tG ⟨X.K, X.mg, W⟩ RO' f)
def oNone : SemO := fun _ S => .ok none S
def asI : D → Store → Out (Option Int)
  | .int i, S => .ok (some i) S
  | _, _ => .stuck
def oSome (f : SemE) : SemO := fun ρ S => (f ρ S).bind asI
theorem poI {e : Option Expr} {t t' : TO} (h : PO X e t) (i : ∀ σ H Q, t' σ H Q → t σ H Q) : PO X e t' := ⟨fun pins s σ H Q I q => h.run pins s σ H Q I (i _ _ _ q)⟩
theorem xo_none : XO X W none oNone := poI po_none fun σ H Q ⟨F, ι, ρ, S, s, r, q⟩ => q F ι none H (Step.refl _ _ _) s rfl
theorem xo_some (ha : XE X W a f) : XO X W (some a) (oSome f) := poI (po_some ha) fun σ H Q ⟨F, ι, ρ, S, s, r, q⟩ => by
  refine ⟨F, ι, ρ, S, s, r, post_bind (R := RV' X.K) q fun x S1 F1 ι1 v H1 x1 s1 rv q1 => ?_⟩
  cases x with
  | int i => exact ⟨i, rel_int rv, q1 F1 ι1 (some i) H1 (Step.refl _ _ _) s1 rfl⟩
  | _ => exact q1.elim
def opSl : D → Option Int → Option Int → Store → Option D := fun d lo hi S => match dr S d with
  | .tup xs => some (.tup (cutD xs lo hi))
  | .str z => if sz z.length then some (.str (cutS z lo hi)) else none
  | .lst xs => some (.lst (cutD xs lo hi))
  | .scr xs => some (.lst (cutD xs lo hi))
  | _ => none
def rS {α : Type} (K : PySem.W.Frag) (mg : Str → Option Value) (R : Hp → Hp → List Addr → Hp → V → α → Prop) (op : D → Option Int → Option Int → Store → Option α) : V → Option Int → Option Int → Hp → VK → Prop := fun x lo hi H Q =>
  ∃ F ι S d a, Sim K mg F ι S H ∧ Rel K F ι x d ∧ op d lo hi S = some a ∧ ∀ F' ι' v H', Step F ι H F' ι' H' → Sim K mg F' ι' S H' → R H F' ι' H' v a → Q v H'
def eSl {α : Type} (op : D → Option Int → Option Int → Store → Option α) (f : SemE) (l h : SemO) : Env → Store → Out α := fun ρ S => (f ρ S).bind fun x S1 => (l ρ S1).bind fun lo S2 => (h ρ S2).bind fun hi S3 => lift (op x lo hi S3) S3
theorem tG_sl {α : Type} {R : Hp → Hp → List Addr → Hp → V → α → Prop} {p : Pl} {op : D → Option Int → Option Int → Store → Option α} {l h : SemO} {σ : L2.St} {H : Hp} {Q : VK} (hh : tG p R (eSl op f l h) σ H Q) (hR : Stays R := by first | exact stV | exact stT | exact stA | exact stL | assumption) :
    tSl (rS p.K p.mg R op) (tE p f) (tG p RO' l) (tG p RO' h) σ H Q := by
  obtain ⟨F, ι, ρ, S, s, r, q⟩ := hh
  refine ⟨F, ι, ρ, S, s, r, post_bind (R := RV' p.K) q fun x S1 F1 ι1 v H1 x1 s1 rv q1 => ?_⟩
  refine ⟨F1, ι1, ρ, S1, s1, r.mono x1, post_bind (R := RO') q1 fun y S2 F2 ι2 u H2 x2 s2 ru q2 => ?_⟩
  refine ⟨F2, ι2, ρ, S2, s2, r.mono (x1.trans x2), post_bind (R := RO') q2 fun z S3 F3 ι3 w H3 x3 s3 rw' q3 => ?_⟩
  obtain ⟨k, hk, q4⟩ := post_lift q3
  cases (show u = y from ru)
  cases (show w = z from rw')
  exact ⟨F3, ι3, S3, x, k, s3, Rel.mono (x2.trans x3) rv, hk, q4⟩
theorem cutD_whole {vs : List D} {lo hi : Option Int} (h : HT.sIx vs.length 0 lo = 0 ∧ HT.sIx vs.length vs.length hi = vs.length) : cutD vs lo hi = vs := by
  unfold cutD
  rw [h.1, h.2, List.drop_zero, Nat.sub_zero, List.take_length]
theorem slx : SlR X (rS X.K X.mg (RV' X.K) opSl) := by
  intro pins s σ H x v vl vu lo hi sl Q I rx hs pl pu h
  obtain ⟨F, ι, S, d, a, sm, rd, ho, q⟩ := h
  unfold opSl at ho
  split at ho
  · next xs h1 =>
    cases ho
    obtain ⟨p1, vs, rfl, e1, f1, r1, rfl⟩ := at_tup sm rd h1
    refine sl_tupA pins s σ H _ v vl vu lo hi sl Q I rx hs pl pu ⟨p1, vs, rfl, SqT.of e1, fun hw => ?_, fun hw p hp => ?_⟩
    · rw [r1.length] at hw
      rw [cutD_whole hw] at q
      exact q F ι _ H (Step.refl _ _ _) sm rd
    · obtain ⟨x2, s2⟩ := sm.frozen (o := .tup (cutV vs lo hi)) hp
      exact q _ _ _ _ x2 s2 (.tup upd_same (RelAll.mono x2 (rel_cut r1 lo hi)))
  · next z h1 =>
    split at ho
    · next hz =>
      cases ho
      obtain ⟨rfl, rfl⟩ := at_str rd h1
      exact sl_str pins s σ H _ v vl vu lo hi sl Q I rx hs pl pu ⟨z, rfl, sz_le hz, q F ι _ H (Step.refl _ _ _) sm (.str _)⟩
    · cases ho
  · next xs h1 =>
    cases ho
    obtain ⟨p1, vs, rfl, e1, r1⟩ := at_lst sm rd h1
    refine sl_list pins s σ H _ v vl vu lo hi sl Q I rx hs pl pu ⟨p1, vs, rfl, SqL.of e1, fun p hp => ?_⟩
    obtain ⟨x2, s2⟩ := sm.frozen (o := .lst (cutV vs lo hi)) hp
    exact q _ _ _ _ x2 s2 (.lst upd_same (RelAll.mono x2 (rel_cut r1 lo hi)))
  · next xs h1 =>
    cases ho
    obtain ⟨p1, vs, rfl, e1, r1⟩ := at_scr sm rd h1
    refine sl_list pins s σ H _ v vl vu lo hi sl Q I rx hs pl pu ⟨p1, vs, rfl, e1, fun p hp => ?_⟩
    obtain ⟨x2, s2⟩ := sm.frozen (o := .lst (cutV vs lo hi)) hp
    exact q _ _ _ _ x2 s2 (.lst upd_same (RelAll.mono x2 (rel_cut r1 lo hi)))
  · cases ho
theorem xe_sl {lo hi : Option Expr} {l h : SemO} (he : XE X W e f) (hl : XO X W lo l) (hu : XO X W hi h) : XE X W (.Subscript e (.Slice lo hi none p2) pos) (eSl opSl f l h) := peI (pe_slice slx he hl hu) fun _ _ _ h => tG_sl h
end
end Fk
set_option Elab.async false
set_option linter.all false
set_option maxRecDepth 100000
namespace Fk
open PySem PySem.Spec PyProof.Rows L2
def keyD : Key → PyData
  | .inl i => .int i
  | .inr x => .str x
mutual
def dat : D → Option PyData
  | .non => some .none
  | .bl b => some (.bool b)
  | .int i => some (.int i)
  | .str x => some (.str x)
  | .tup xs => (datAll xs).map .tuple
  | .lst xs => (datAll xs).map .list
  | .scr xs => (datAll xs).map .list
  | .dct kvs => (datKV kvs).map .dict
  | .ref _ => none
  | .exn _ _ _ => none
def datAll : List D → Option (List PyData)
  | [] => some []
  | d :: ds => (dat d).bind fun x => (datAll ds).map (x :: ·)
def datKV : List (Key × D) → Option (List (PyData × PyData))
  | [] => some []
  | (k, d) :: ds => (dat d).bind fun x => (datKV ds).map ((keyD k, x) :: ·)
end
/-- a list of the written part -/
def K0 (X : Cx) (b : Addr) : Prop := ∃ o, X.K.lookup b = some o ∧ o.cls = .type "list"
section
variable {X : Cx} {pins : List (Addr × Obj)} {σ : L2.St} {H : Hp} {s : Shared} {F : Hp} {ι : List Addr}
theorem reads_keys {P : Program} {w : World} {h : Heap} : ∀ {es : List DictEntry} {vs : List (Key × Value)}, Pairs (mixKind P w) es vs → ReadsAll h (es.map (·.key)) (vs.map fun q => keyD q.1) [] := by
  intro es vs hp
  induction hp with
  | nil => exact .nil
  | @cons e k es vs h1 _ h2 ih =>
    refine ReadsAll.cons (as := []) (bs := []) ?_ ih
    have h1' : keyIs k.1 e.key = true := h1
    rcases keyIs_shape h1' with ⟨i, t, hk, hv⟩ | ⟨x, t, hk, hv⟩
    · show Reads h e.key (keyD k.1) []
      rw [hv, hk]
      exact Reads.int i t
    · show Reads h e.key (keyD k.1) []
      rw [hv, hk]
      exact Reads.str x t
theorem pairs_vals {P : Program} {w : World} : ∀ {es : List DictEntry} {vs : List (Key × Value)}, Pairs (mixKind P w) es vs → es.map (·.val) = vs.map (·.2) := by
  intro es vs hp
  induction hp with
  | nil => rfl
  | @cons e k es vs _ h1 h2 ih => rw [List.map_cons, List.map_cons, h1, ih]
theorem kv_vals {kvs : List (Key × V)} {vs : List (Key × Value)} (h : KV kvs vs) : kvs.map (·.1) = vs.map (·.1) ∧ Vals (kvs.map (·.2)) (vs.map (·.2)) := by
  unfold KV at h
  induction h with
  | nil => exact ⟨rfl, .nil⟩
  | @cons p q l1 l2 h1 h2 ih => exact ⟨by rw [List.map_cons, List.map_cons, h1.1, ih.1], .cons h1.2 ih.2⟩
theorem datKV_split : ∀ {kds : List (Key × D)} {ps : List (PyData × PyData)}, datKV kds = some ps → ps.map (·.1) = kds.map (fun q => keyD q.1) ∧ datAll (kds.map (·.2)) = some (ps.map (·.2))
  | [], _, h => by
    simp only [datKV, Option.some.injEq] at h
    subst h
    exact ⟨rfl, by simp [datAll]⟩
  | (k, d) :: r, ps, h => by
    simp only [datKV, Option.bind_eq_some_iff, Option.map_eq_some_iff] at h
    obtain ⟨x, hx, qs, hq, rfl⟩ := h
    obtain ⟨h1, h2⟩ := datKV_split hq
    refine ⟨by rw [List.map_cons, List.map_cons, h1], ?_⟩
    rw [List.map_cons, List.map_cons, datAll, hx, h2]
    rfl
mutual
theorem reads_of (I : Inv X pins σ H s) (sub : Same F H) : ∀ {d : D} {v : V} {u : Value} {y : PyData}, Rel X.K F ι v d → RelV v u → dat d = some y → ∃ as, Reads s.heap u y as ∧ ∀ b ∈ as, ∃ o, H b = some o ∨ K0 X b
  | _, _, _, _, .non, r, h => by
    simp only [dat, Option.some.injEq] at h
    subst h
    cases r
    exact ⟨_, Reads.none, by simp⟩
  | _, _, _, _, .bl b, r, h => by
    simp only [dat, Option.some.injEq] at h
    subst h
    cases r
    exact ⟨_, Reads.bool b, by simp⟩
  | _, _, _, _, .int i, r, h => by
    simp only [dat, Option.some.injEq] at h
    subst h
    obtain ⟨t, rfl⟩ := r
    exact ⟨_, Reads.int i t, by simp⟩
  | _, _, _, _, .str x, r, h => by
    simp only [dat, Option.some.injEq] at h
    subst h
    obtain ⟨t, rfl⟩ := r
    exact ⟨_, Reads.str x t, by simp⟩
  | _, _, _, _, .exn0 _ _, r, h => by simp [dat] at h
  | _, _, _, _, .exn _ _ _ _ _, r, h => by simp [dat] at h
  | _, _, _, _, .tup hs ha, r, h => by
    simp only [dat, Option.map_eq_some_iff] at h
    obtain ⟨ys, h, rfl⟩ := h
    cases r
    obtain ⟨its, rv, ⟨o, ho, hc, n, hd⟩, _⟩ := I.tuple (SqT.of (sub _ _ hs))
    obtain ⟨as, hr, hb⟩ := reads_all I sub ha rv h
    exact ⟨_, Reads.tuple ho hc hd hr, hb⟩
  | _, _, _, _, .lst (a := a) hs ha, r, h => by
    simp only [dat, Option.map_eq_some_iff] at h
    obtain ⟨ys, h, rfl⟩ := h
    cases r
    obtain ⟨its, rv, ⟨o, n, ho, hc, _, hd⟩, _⟩ := I.list (SqL.of (sub _ _ hs))
    obtain ⟨as, hr, hb⟩ := reads_all I sub ha rv h
    refine ⟨_, Reads.list ho hc hd hr, fun b hm => ?_⟩
    rcases List.mem_cons.mp hm with rfl | hm
    · exact ⟨_, .inl (sub _ _ hs)⟩
    · exact hb b hm
  | _, _, _, _, .scr (a := a) hs ha, r, h => by
    simp only [dat, Option.map_eq_some_iff] at h
    obtain ⟨ys, h, rfl⟩ := h
    cases r
    obtain ⟨its, rv, ⟨o, n, ho, hc, _, hd⟩, _⟩ := I.list (sub.seq hs)
    obtain ⟨as, hr, hb⟩ := reads_all I sub ha rv h
    refine ⟨_, Reads.list ho hc hd hr, fun b hm => ?_⟩
    rcases List.mem_cons.mp hm with rfl | hm
    · rcases sub.seq hs with (z | ⟨o, z⟩) | ⟨o, its, n, z, zc, _⟩
      · exact ⟨_, .inl z⟩
      · exact ⟨_, .inl z⟩
      · exact ⟨.lst [], .inr ⟨o, z, zc⟩⟩
    · exact hb b hm
  | _, _, _, _, .dct (a := a) (kvs := kvs) (kds := kds) hs hk ha, r, h => by
    simp only [dat, Option.map_eq_some_iff] at h
    obtain ⟨ys, h, rfl⟩ := h
    cases r
    obtain ⟨_, hsm, vs, hkv, o, es, ep, ho, hx, hd, _, hp, _⟩ := (show ObjOk X.prog X.w H s.heap a (.dK kvs) from I.hok a _ (sub _ _ hs))
    obtain ⟨k1, k2⟩ := kv_vals hkv
    obtain ⟨d1, d2⟩ := datKV_split h
    obtain ⟨as, hr, hb⟩ := reads_all I sub ha k2 d2
    have rk := reads_keys (h := s.heap) hp
    have e1 : (vs.map fun q => keyD q.1) = ys.map (·.1) := by
      rw [d1]
      have e2 : vs.map (·.1) = kds.map (·.1) := k1.symm.trans hk
      have e3 := congrArg (List.map keyD) e2
      rw [List.map_map, List.map_map] at e3
      exact e3
    rw [e1] at rk
    rw [← pairs_vals hp] at hr
    refine ⟨_, Reads.dict ho hx.1 hd rk hr, fun b hm => ?_⟩
    rw [List.cons_append, List.nil_append] at hm
    rcases List.mem_cons.mp hm with rfl | hm
    · exact ⟨_, .inl (sub _ _ hs)⟩
    · exact hb b hm
  | _, _, _, _, .ref _, _, h => by simp [dat] at h
theorem reads_all (I : Inv X pins σ H s) (sub : Same F H) : ∀ {ds : List D} {vs : List V} {us : List Value} {ys : List PyData}, RelAll X.K F ι vs ds → Vals vs us → datAll ds = some ys → ∃ as, ReadsAll s.heap us ys as ∧ ∀ b ∈ as, ∃ o, H b = some o ∨ K0 X b
  | _, _, _, _, .nil, r, h => by
    simp only [datAll, Option.some.injEq] at h
    subst h
    cases r
    exact ⟨_, ReadsAll.nil, by simp⟩
  | _, _, _, _, .cons h1 h2, r, h => by
    simp only [datAll, Option.bind_eq_some_iff, Option.map_eq_some_iff] at h
    obtain ⟨x, hx, qs, hq, rfl⟩ := h
    cases r with
    | cons r1 r2 =>
      obtain ⟨as, q1, b1⟩ := reads_of I sub h1 r1 hx
      obtain ⟨bs, q2, b2⟩ := reads_all I sub h2 r2 hq
      refine ⟨_, ReadsAll.cons q1 q2, fun b hm => ?_⟩
      rcases List.mem_append.mp hm with hm | hm
      · exact b1 b hm
      · exact b2 b hm
end
end
theorem reads_dr {X : Cx} {pins : List (Addr × Obj)} {σ : L2.St} {H : Hp} {s : Shared} {F : Hp} {ι : List Addr} {S : Store} (I : Inv X pins σ H s) (sm : Sim X.K X.mg F ι S H) {d : D} {v : V} {u : Value} {y : PyData} (rd : Rel X.K F ι v d) (r : RelV v u) (h : dat (dr S d) = some y) :
    ∃ as, Reads s.heap u y as ∧ ∀ b ∈ as, ∃ o, H b = some o ∨ K0 X b := by
  by_cases hn : ∃ n, d = .ref n
  · obtain ⟨n, rfl⟩ := hn
    have hz : dr S (.ref n) = dr S (.ref n) := rfl
    cases e : dr S (.ref n) with
    | lst ds =>
      obtain ⟨a, vs, rfl, ha, ra⟩ := at_lst sm rd e
      rw [e] at h
      simp only [dat, Option.map_eq_some_iff] at h
      obtain ⟨ys, h, rfl⟩ := h
      cases r
      obtain ⟨its, rv, ⟨o, m, ho, hc, _, hd⟩, _⟩ := I.list (SqL.of ha)
      obtain ⟨as, hr, hb⟩ := reads_all I sm.sub ra rv h
      refine ⟨_, Reads.list ho hc hd hr, fun b hm => ?_⟩
      rcases List.mem_cons.mp hm with rfl | hm
      · exact ⟨_, .inl ha⟩
      · exact hb b hm
    | dct kds =>
      obtain ⟨a, kvs, rfl, ha, ra⟩ := at_dct sm rd e
      rw [e] at h
      simp only [dat, Option.map_eq_some_iff] at h
      obtain ⟨ys, h, rfl⟩ := h
      cases r
      obtain ⟨_, hsm, vs, hkv, o, es, ep, ho, hx, hd, _, hp, _⟩ := (show ObjOk X.prog X.w H s.heap a (.dK kvs) from I.hok a _ ha)
      obtain ⟨k1, k2⟩ := kv_vals hkv
      obtain ⟨d1, d2⟩ := datKV_split h
      obtain ⟨as, hr, hb⟩ := reads_all I sm.sub ra.vs k2 d2
      have rk := reads_keys (h := s.heap) hp
      have e1 : (vs.map fun q => keyD q.1) = ys.map (·.1) := by
        rw [d1]
        have e2 : vs.map (·.1) = kds.map (·.1) := k1.symm.trans ra.ks
        have e3 := congrArg (List.map keyD) e2
        rw [List.map_map, List.map_map] at e3
        exact e3
      rw [e1] at rk
      rw [← pairs_vals hp] at hr
      refine ⟨_, Reads.dict ho hx.1 hd rk hr, fun b hm => ?_⟩
      rw [List.cons_append, List.nil_append] at hm
      rcases List.mem_cons.mp hm with rfl | hm
      · exact ⟨_, .inl ha⟩
      · exact hb b hm
    | ref m => rw [e] at h; simp [dat] at h
    | _ => rcases drc_no e with ⟨_, z⟩ | ⟨_, z⟩ | z <;> cases z
  · have e : dr S d = d := by
      cases d with
      | ref n => exact absurd ⟨n, rfl⟩ hn
      | _ => rfl
    rw [e] at h
    exact reads_of I sm.sub rd r h
def eqD (d e : D) (S : Store) : Option Bool := match dr S d, dr S e with
  | .tup xs, .tup [] => some xs.isEmpty
  | x, y => (dat x).bind fun a => (dat y).bind fun b => if SeqAt.shaped a && SeqAt.shaped b then some (PyData.eqv a b) else none
def opEq : D → D → Store → Option D := fun d e S => (eqD d e S).map .bl
section
variable {X : Cx}
theorem ox_eq (hu : X.A.units + 64 < cLine) : OpX X (compareOp .Eq) opEq := by
  intro pins s σ H x y v u Q I rx ry h
  obtain ⟨F, ι, S, d, e, a, sm, rd, re, ho, q⟩ := h
  obtain ⟨b, hq, rfl⟩ := Option.map_eq_some_iff.mp ho
  clear ho
  unfold eqD at hq
  split at hq
  · next xs h1 h2 =>
    cases hq
    obtain ⟨p1, vs, rfl, e1, f1, r1, _⟩ := at_tup sm rd h1
    obtain ⟨p2, ws, rfl, e2, f2, r2, _⟩ := at_tup sm re h2
    cases r2
    cases rx
    cases ry
    obtain ⟨its, rv, t1, _⟩ := I.tuple (SqT.of e1)
    obtain ⟨its2, rv2, t2, _⟩ := I.tuple (SqT.of e2)
    cases rv2
    have hz := SeqAt.eq_tupleAt (prog := X.prog) (w := X.w) (A := X.A) (E := X.xe) (s := s) (Q := EP X pins σ Q) (l := p1) (b := p2) (items := its.toArray) (items2 := #[]) (e := fun _ => false)
    refine hz t1 t2 (by omega) (fun i h1 h2 => absurd h2 (by simp)) ?_
    have hl : xs.isEmpty = ((List.range (min its.toArray.size (#[] : Array Value).size)).all (fun _ => false) && its.toArray.size == (#[] : Array Value).size) := by
      cases r1 with
      | nil => cases rv; rfl
      | cons _ _ => cases rv; simp
    rw [← hl]
    exact ⟨.bl _, H, I, rfl, q F ι _ H (Step.refl _ _ _) sm (.bl _)⟩
  · simp only [Option.bind_eq_some_iff] at hq
    obtain ⟨da, h1, db, h2, hq⟩ := hq
    split at hq
    · next hz =>
      cases hq
      obtain ⟨z1, z2⟩ := Bool.and_eq_true_iff.mp hz
      obtain ⟨as, r1, _⟩ := reads_dr I sm rd rx h1
      obtain ⟨bs, r2, _⟩ := reads_dr I sm re ry h2
      exact SeqAt.compareEq_shaped r1 r2 z1 z2 hu ⟨.bl _, H, I, rfl, q F ι _ H (Step.refl _ _ _) sm (.bl _)⟩
    · cases hq
def neD (d e : D) (S : Store) : Option Bool := (dat (dr S d)).bind fun a => (dat (dr S e)).bind fun b => if SeqAt.shaped a && SeqAt.shaped b then some (PyData.eqv a b) else none
def opNe : D → D → Store → Option D := fun d e S => (neD d e S).map fun b => .bl (!b)
theorem ox_ne (hu : X.A.units + 64 < cLine) : OpX X (compareOp .NotEq) opNe := by
  intro pins s σ H x y v u Q I rx ry h
  obtain ⟨F, ι, S, d, e, a, sm, rd, re, ho, q⟩ := h
  obtain ⟨b, hq, rfl⟩ := Option.map_eq_some_iff.mp ho
  clear ho
  unfold neD at hq
  simp only [Option.bind_eq_some_iff] at hq
  obtain ⟨da, h1, db, h2, hq⟩ := hq
  split at hq
  · next hz =>
    cases hq
    obtain ⟨z1, z2⟩ := Bool.and_eq_true_iff.mp hz
    obtain ⟨as, r1, _⟩ := reads_dr I sm rd rx h1
    obtain ⟨bs, r2, _⟩ := reads_dr I sm re ry h2
    exact SeqAt.compareNe_shaped r1 r2 z1 z2 hu ⟨.bl _, H, I, rfl, q F ι _ H (Step.refl _ _ _) sm (.bl _)⟩
  · cases hq
def isNon : D → Bool
  | .non => true
  | _ => false
def opIsN : D → D → Store → Option D := fun d e _ => match e with
  | .non => some (.bl (isNon d))
  | _ => none
def opNotN : D → D → Store → Option D := fun d e _ => match e with
  | .non => some (.bl (!isNon d))
  | _ => none
def reprD : List D → Store → Option D
  | [d], S => (dat (dr S d)).bind fun y => if y.showable && decide (y.shown.length ≤ 16000000) && decide (y.depth ≤ 60) then some (.str y.shown) else none
  | _, _ => none
theorem long_le {n : Nat} (h : decide (n ≤ 16000000) = true) : n ≤ sizeLine := Nat.le_trans (of_decide_eq_true h) (by decide)
/-- what is known of sys.modules -/
def SM (X : Cx) : Prop := ∃ o, X.base.get? sysModules = some o ∧ o.cls ≠ .type "list"
theorem SM.out {pins : List (Addr × Obj)} {σ : L2.St} {H : Hp} {s : Shared} (h : SM X) (I : Inv X pins σ H s) {b : Addr} {o : HO} (hb : H b = some o ∨ K0 X b) : b ≠ sysModules := by
  obtain ⟨o', e, hc⟩ := h
  intro z
  subst z
  rcases hb with hb | ⟨o2, h2, c2⟩
  · rw [(I.bs _ _ e).2] at hb
    cases hb
  · have := I.ok.mod.kin _ _ h2
    rw [e] at this
    cases this
    exact hc c2
end
end Fk
set_option Elab.async false
set_option linter.all false
set_option maxRecDepth 100000
namespace Fk
open PySem PySem.Spec PyProof.Rows L2
def lenD : List D → Store → Option D
  | [d], S => match dr S d with
    | .lst xs => some (.int xs.length)
    | .tup xs => some (.int xs.length)
    | .scr xs => some (.int xs.length)
    | .str x => if sz x.length then some (.int x.length) else none
    | .dct kvs => some (.int kvs.length)
    | _ => none
  | _, _ => none
def absD : List D → Store → Option D
  | [.int i], _ => some (.int (if i < 0 then -i else i))
  | _, _ => none
def intD : List D → Store → Option D
  | [.int i], _ => some (.int i)
  | [.bl b], _ => some (.int (if b then 1 else 0))
  | _, _ => none
def maxL : List Int → Int
  | [] => 0
  | [x] => x
  | x :: y :: r => if maxL (y :: r) > x then maxL (y :: r) else x
def minL : List Int → Int
  | [] => 0
  | [x] => x
  | x :: y :: r => if minL (y :: r) < x then minL (y :: r) else x
def maxD : List D → Store → Option D
  | [d], S => match dr S d with
    | .lst xs => (asInts xs).bind fun ns => if ns.isEmpty then none else some (.int (maxL ns))
    | _ => none
  | [.int i, .int j], _ => some (.int (if j > i then j else i))
  | _, _ => none
def minD : List D → Store → Option D
  | [d], S => match dr S d with
    | .lst xs => (asInts xs).bind fun ns => if ns.isEmpty then none else some (.int (minL ns))
    | _ => none
  | [.int i, .int j], _ => some (.int (if j < i then j else i))
  | _, _ => none
def tupD : List D → Store → Option D
  | [d], S => match dr S d with
    | .lst xs => some (.tup xs)
    | .tup xs => some (.tup xs)
    | _ => none
  | _, _ => none
def lstD : List D → Store → Option (List D)
  | [d], S => match dr S d with
    | .lst xs => some xs
    | .tup xs => some xs
    | .scr xs => some xs
    | _ => none
  | _, _ => none
section
variable {X : Cx}
theorem rel1 {K : PySem.W.Frag} {F : Hp} {ι : List Addr} {xs : List V} {d : D} (r : RelAll K F ι xs [d]) : ∃ x, xs = [x] ∧ Rel K F ι x d := by
  cases r with
  | cons h t => cases t; exact ⟨_, rfl, h⟩
theorem cx_len : CallX X (.builtin "len") lenD := by
  intro pins s σ H xs us Q I r h
  obtain ⟨F, ι, S, ds, a, sm, rd, ho, q⟩ := h
  unfold lenD at ho
  split at ho
  · obtain ⟨x, rfl, rx⟩ := rel1 rd
    split at ho
    · next xs h1 =>
      cases ho
      obtain ⟨p, vs, rfl, e1, r1⟩ := at_lst sm rx h1
      refine call_len pins s σ H _ us Q I r ⟨_, vs.length, rfl, .inl ⟨vs, SqL.of e1, rfl⟩, ?_⟩
      rw [r1.length]
      exact q F ι _ H (Step.refl _ _ _) sm (.int _)
    · next xs h1 =>
      cases ho
      obtain ⟨p, vs, rfl, e1, _, r1, _⟩ := at_tup sm rx h1
      refine call_len pins s σ H _ us Q I r ⟨_, vs.length, rfl, .inr ⟨vs, SqT.of e1, rfl⟩, ?_⟩
      rw [r1.length]
      exact q F ι _ H (Step.refl _ _ _) sm (.int _)
    · next xs h1 =>
      cases ho
      obtain ⟨p, vs, rfl, e1, r1⟩ := at_scr sm rx h1
      refine call_len pins s σ H _ us Q I r ⟨_, vs.length, rfl, .inl ⟨vs, e1, rfl⟩, ?_⟩
      rw [r1.length]
      exact q F ι _ H (Step.refl _ _ _) sm (.int _)
    · next z h1 =>
      split at ho
      · next hz =>
        cases ho
        obtain ⟨rfl, _⟩ := at_str rx h1
        exact call_len pins s σ H _ us Q I r ⟨_, z.length, rfl, ⟨sz_le hz, rfl⟩, q F ι _ H (Step.refl _ _ _) sm (.int _)⟩
      · cases ho
    · next kvs h1 =>
      cases ho
      obtain ⟨p, vs, rfl, e1, r1⟩ := at_dct sm rx h1
      refine call_lenD pins s σ H _ us Q I r ⟨_, vs, rfl, e1, ?_⟩
      have hl : vs.length = kvs.length := by
        have := congrArg List.length r1.ks
        simpa using this
      rw [hl]
      exact q F ι _ H (Step.refl _ _ _) sm (.int _)
    · cases ho
  · cases ho
theorem cx_abs : CallX X (.builtin "abs") absD := by
  intro pins s σ H xs us Q I r h
  obtain ⟨F, ι, S, ds, a, sm, rd, ho, q⟩ := h
  unfold absD at ho
  split at ho
  · next i =>
    cases ho
    obtain ⟨x, rfl, rx⟩ := rel1 rd
    cases rel_int rx
    exact call_abs pins s σ H _ us Q I r ⟨i, rfl, q F ι _ H (Step.refl _ _ _) sm (.int _)⟩
  · cases ho
theorem cx_int : CallX X (.type "int") intD := by
  intro pins s σ H xs us Q I r h
  obtain ⟨F, ι, S, ds, a, sm, rd, ho, q⟩ := h
  unfold intD at ho
  split at ho
  · next i =>
    cases ho
    obtain ⟨x, rfl, rx⟩ := rel1 rd
    cases rel_int rx
    exact call_int1 pins s σ H _ us Q I r (.inl ⟨i, rfl, q F ι _ H (Step.refl _ _ _) sm (.int _)⟩)
  · next b =>
    cases ho
    obtain ⟨x, rfl, rx⟩ := rel1 rd
    cases rel_bl rx
    exact call_int1 pins s σ H _ us Q I r (.inr ⟨b, rfl, q F ι _ H (Step.refl _ _ _) sm (.int _)⟩)
  · cases ho
variable {W : WX} {x : Str} {p pos : Pos} {e : Expr} {es : List Expr} {fa : SemA} {id T : String}
theorem xe_callB {op : List D → Store → Option D} (hc : CallX X (.builtin id) op) (hg : Gl X x) (hm : X.mg x = none) (hv : bootBuiltins x = some (.builtin id)) (ha : XA X W (e :: es) fa) (hn : x ≠ "__name__" := by decide) (hdb : (x == ("__debug__" : Str)) = false := by decide)
    (he : starEach (e :: es) X.env = (false, eval e X.env) :: starEach es X.env := by rfl) (hpl : (backTo pos (starEach es X.env)).any (·.1) = false := by rfl) : XE X W (.Call (.Name x p) (e :: es) [] pos) (eOps op fa) := peI (pe_callB hc hg hm hv ha hn hdb he hpl) fun _ _ _ h => tG_ops h
theorem xe_callTy {op : List D → Store → Option D} (hc : CallX X (.type T) op) (hg : Gl X x) (hm : X.mg x = none) (hv : bootBuiltins x = some (.type T)) (ha : XA X W (e :: es) fa) (hn : x ≠ "__name__" := by decide) (hdb : (x == ("__debug__" : Str)) = false := by decide)
    (he : starEach (e :: es) X.env = (false, eval e X.env) :: starEach es X.env := by rfl) (hpl : (backTo pos (starEach es X.env)).any (·.1) = false := by rfl) : XE X W (.Call (.Name x p) (e :: es) [] pos) (eOps op fa) := peI (pe_callTy hc hg hm hv ha hn hdb he hpl) fun _ _ _ h => tG_ops h
def tyOf (S : Store) (d : D) : Option String := match dr S d with
  | .non => some "NoneType"
  | .bl _ => some "bool"
  | .int _ => some "int"
  | .str _ => some "str"
  | .tup _ => some "tuple"
  | .lst _ => some "list"
  | .dct _ => some "dict"
  | _ => none
def isiD (T : String) : D → Store → Option D := fun d S => (tyOf S d).bind fun t => (kitB t T).map .bl
end
end Fk
set_option Elab.async false
set_option linter.all false
set_option maxRecDepth 100000
namespace Fk
open PySem PySem.Spec PyProof.Rows L2
def toS {α : Type} (o : Out α) (ρ : Env) (k : α → Store → OutS) : OutS := match o with
  | .ok a S => k a S
  | .exc c fs S => .exc c fs ρ S
  | .stuck => .stuck
@[simp] theorem toS_ok {α : Type} (a : α) (S : Store) (ρ : Env) (k : α → Store → OutS) : toS (.ok a S) ρ k = k a S := rfl
@[simp] theorem toS_exc {α : Type} (c : Str) (fs : List (Str × D)) (S : Store) (ρ : Env) (k : α → Store → OutS) : toS (.exc c fs S : Out α) ρ k = .exc c fs ρ S := rfl
@[simp] theorem toS_stuck {α : Type} (ρ : Env) (k : α → Store → OutS) : toS (.stuck : Out α) ρ k = .stuck := rfl
def sNext : SemS := fun ρ S => .nx ρ S
def sAsg (i : Nat) (f : SemE) : SemS := fun ρ S => toS (f ρ S) ρ fun d S1 => .nx (ρ.set i (some d)) S1
def sExp (f : SemE) : SemS := fun ρ S => toS (f ρ S) ρ fun _ S1 => .nx ρ S1
def sRet (f : SemE) : SemS := fun ρ S => toS (f ρ S) ρ fun d S1 => .rt d S1
def sRetN : SemS := fun _ S => .rt .non S
def sSeq (g h : SemS) : SemS := fun ρ S => match g ρ S with
  | .nx ρ1 S1 => h ρ1 S1
  | o => o
def sIf (t : SemT) (g h : SemS) : SemS := fun ρ S => toS (t ρ S) ρ fun b S1 => if b then g ρ S1 else h ρ S1
section
variable {p : Pl} {α β : Type} {R : Hp → Hp → List Addr → Hp → β → α → Prop} {F H : Hp} {ι : List Addr} {σ : L2.St} {ρ : Env} {Dn : Ends}
theorem post_toS {o : Out α} {k : α → Store → OutS} {Q : β → Hp → Prop} (r : REnv p.K F ι σ ρ) (h : PostS p F ι H (toS o ρ k) Dn)
    (hk : ∀ a S F' ι' v H', Step F ι H F' ι' H' → Sim p.K p.mg F' ι' S H' → R H F' ι' H' v a → PostS p F' ι' H' (k a S) Dn → Q v H') : Post p R F ι H σ o Q := by
  cases o with
  | ok a S => exact fun F' ι' v H' x s rv => hk a S F' ι' v H' x s rv (PostS.ext x h)
  | exc c fs S => exact fun F' ι' C d H' x s m xd => h F' ι' C d σ H' x s (r.mono x) m xd
  | stuck => exact h.elim
end
section
variable {X : Cx} {W : WX} {st : Stmt} {rest : List Stmt} {g h : SemS} {e : Expr} {f : SemE} {pos : Pos}
theorem xss_nil : XSs X W [] sNext := pssI pss_nil fun Dn σ H ⟨F, ι, ρ, S, s, r, q⟩ => q F ι σ H (Step.refl _ _ _) s r
theorem tS_seq {p : Pl} {Dn : Ends} {σ : L2.St} {H : Hp} (hh : tS p (sSeq g h) Dn σ H) : tSeq (tS p g) (tS p h) Dn σ H := by
  obtain ⟨F, ι, ρ, S, s, r, q⟩ := hh
  refine ⟨F, ι, ρ, S, s, r, ?_⟩
  unfold sSeq at q
  cases e : g ρ S with
  | nx ρ1 S1 =>
    rw [e] at q
    exact fun F' ι' σ' H' x s' r' => ⟨F', ι', ρ1, S1, s', r', PostS.ext x q⟩
  | rt d S1 => rw [e] at q; exact q
  | bk ρ1 S1 => rw [e] at q; exact q
  | ct ρ1 S1 => rw [e] at q; exact q
  | exc c fs ρ1 S1 => rw [e] at q; exact q
  | stuck => rw [e] at q; exact q.elim
theorem xss_cons (h1 : XS X W st g) (h2 : XSs X W rest h) : XSs X W (st :: rest) (sSeq g h) := pssI (pss_cons h1 h2) fun _ _ _ hh => tS_seq hh
theorem xss_one (h1 : XS X W st g) : XSs X W [st] g := pss_one h1
theorem xs_expr (he : XE X W e f) (hs : swapsWith e none pos.line X.env = pure false := by rfl) : XS X W (.Expr e pos) (sExp f) := by
  refine psI (ps_expr he hs) fun Dn σ H hh => ?_
  obtain ⟨F, ι, ρ, S, s, r, q⟩ := hh
  exact ⟨F, ι, ρ, S, s, r, post_toS r q fun d S1 F1 ι1 v H1 x1 s1 rv q1 => q1 F1 ι1 σ H1 (Step.refl _ _ _) s1 (r.mono x1)⟩
theorem xs_ret (he : XE X W e f) : XS X W (.Return (some e) pos) (sRet f) := by
  refine psI (ps_ret he) fun Dn σ H hh => ?_
  obtain ⟨F, ι, ρ, S, s, r, q⟩ := hh
  exact ⟨F, ι, ρ, S, s, r, post_toS r q fun d S1 F1 ι1 v H1 x1 s1 rv q1 => q1 F1 ι1 v H1 (Step.refl _ _ _) s1 rv⟩
theorem tS_asg {p : Pl} {Dn : Ends} {σ : L2.St} {H : Hp} {i : Nat} (hh : tS p (sAsg i f) Dn σ H) : tAsg (tE p f) (gName i) Dn σ H := by
  obtain ⟨F, ι, ρ, S, s, r, q⟩ := hh
  exact ⟨F, ι, ρ, S, s, r, post_toS r q fun d S1 F1 ι1 v H1 x1 s1 rv q1 => q1 F1 ι1 _ H1 (Step.refl _ _ _) s1 ((r.mono x1).set i rv)⟩
theorem xs_set {i : Nat} {x : Str} {pos' : Pos} (hN : X.N.Nodup) (hi : X.N[i]? = some x) (hx : Loc X.env.scope x) (he : XE X W e f) (hs : swapsWith e (some (.Name x pos')) pos.line X.env = pure false := by rfl)
    (hf : X.fn x = true ∨ X.env.scope.names.lookup x = some .local := by first | exact .inl rfl | exact .inr rfl | assumption) : XS X W (.Assign [.Name x pos'] e pos) (sAsg i f) := psI (ps_set hN hi hx he hs hf) fun _ _ _ hh => tS_asg hh
theorem xs_if {c : Expr} {a b : List Stmt} {t : SemT} (hc : XT X W c t) (ha : XSs X W a g) (hb : XSs X W b h) : XS X W (.If c a b pos) (sIf t g h) := by
  refine psI (ps_if hc ha hb) fun Dn σ H hh => ?_
  obtain ⟨F, ι, ρ, S, s, r, q⟩ := hh
  refine ⟨F, ι, ρ, S, s, r, post_toS r q fun x S1 F1 ι1 v H1 x1 s1 rv q1 => ?_⟩
  cases (show v = x from rv)
  cases x with
  | true => exact ⟨F1, ι1, ρ, S1, s1, r.mono x1, q1⟩
  | false => exact ⟨F1, ι1, ρ, S1, s1, r.mono x1, q1⟩
abbrev SemG := D → Env → Store → Option Env
def gN (i : Nat) : SemG := fun d ρ _ => some (ρ.set i (some d))
def gT (gs : List SemG) : SemG := fun d ρ S => match d with
  | .tup ds => if ds.length = gs.length then (gs.zip ds).foldl (fun o q => o.bind fun ρ' => q.1 q.2 ρ' S) (some ρ) else none
  | _ => none
/-- a target without effects on the heap -/
theorem wipe_get (σ : L2.St) : ∀ (ws : List Nat) (j : Nat), (wipe σ ws)[j]? = if j ∈ ws then (if j < σ.length then some none else none) else σ[j]?
  | [], j => by simp [wipe]
  | w :: ws, j => by
    unfold wipe
    by_cases hj : j = w
    · subst hj
      by_cases hl : j < σ.length
      · rw [List.getElem?_set_self (by rw [wipe_length]; exact hl)]
        simp [hl]
      · rw [List.getElem?_eq_none (by rw [List.length_set, wipe_length]; omega)]
        simp [hl]
    · rw [List.getElem?_set_ne (Ne.symm hj), wipe_get σ ws j]
      simp [hj]
theorem wipe_set (σ : L2.St) {ws : List Nat} {i : Nat} (h : i ∈ ws) (x : Option V) : wipe (σ.set i x) ws = wipe σ ws := by
  apply List.ext_getElem?
  intro j
  rw [wipe_get, wipe_get, List.length_set]
  by_cases hj : j ∈ ws
  · rw [if_pos hj, if_pos hj]
  · rw [if_neg hj, if_neg hj, List.getElem?_set_ne]
    intro e
    exact hj (e ▸ h)
theorem wipe_wipe (σ : L2.St) (ws : List Nat) : wipe (wipe σ ws) ws = wipe σ ws := by
  apply List.ext_getElem?
  intro j
  rw [wipe_get, wipe_length, wipe_get]
  by_cases hj : j ∈ ws
  · rw [if_pos hj, if_pos hj]
  · rw [if_neg hj, if_neg hj]
def tPG (K : PySem.W.Frag) (mg : Str → Option Value) (g : SemG) (vs : List Nat) : TG := fun v σ H Q => ∃ F ι ρ S d ρ', Sim K mg F ι S H ∧ REnv K F ι σ ρ ∧ Rel K F ι v d ∧ g d ρ S = some ρ' ∧ ∀ σ', REnv K F ι σ' ρ' → (∀ ws, (∀ i ∈ vs, i ∈ ws) → wipe σ' ws = wipe σ ws) → Q σ' H
def PGD (X : Cx) (tg : Expr) (g : SemG) (vs : List Nat) : Prop := PG X tg (tPG X.K X.mg g vs)
theorem pgI {tg : Expr} {t t' : TG} (h : PG X tg t) (i : ∀ v σ H Q, t' v σ H Q → t v σ H Q) : PG X tg t' := ⟨fun pins s σ H v u Q I r q => h.run pins s σ H v u Q I r (i _ _ _ _ q)⟩
theorem gd_name {i : Nat} {x : Str} (hN : X.N.Nodup) (hi : X.N[i]? = some x) (hx : Loc X.env.scope x) (hf : X.fn x = true ∨ X.env.scope.names.lookup x = some .local := by first | exact .inl rfl | exact .inr rfl | assumption) : PGD X (.Name x pos) (gN i) [i] := by
  refine pgI (pg_name hN hi hx hf) fun v σ H Q ⟨F, ι, ρ, S, d, ρ', s, r, rv, hg, q⟩ => ?_
  cases hg
  exact q _ (r.set i rv) fun ws hw => wipe_set σ (hw i (by simp)) _
def PGDs (X : Cx) (ts : List Expr) (gs : List SemG) (vs' : List Nat) : Prop := PGs X ts fun vs σ H Q => ∃ F ι ρ S ds ρ', Sim X.K X.mg F ι S H ∧ REnv X.K F ι σ ρ ∧ RelAll X.K F ι vs ds ∧ ds.length = gs.length ∧ (gs.zip ds).foldl (fun o q => o.bind fun ρ' => q.1 q.2 ρ' S) (some ρ) = some ρ' ∧ ∀ σ', REnv X.K F ι σ' ρ' → (∀ ws, (∀ i ∈ vs', i ∈ ws) → wipe σ' ws = wipe σ ws) → Q σ' H
theorem pgsI {tg : List Expr} {t t' : TGs} (h : PGs X tg t) (i : ∀ v σ H Q, t' v σ H Q → t v σ H Q) : PGs X tg t' := ⟨fun pins s σ H v u Q I r q => h.run pins s σ H v u Q I r (i _ _ _ _ q)⟩
theorem fold_none {S : Store} : ∀ (l : List (SemG × D)), l.foldl (fun o q => o.bind fun ρ' => q.1 q.2 ρ' S) (none : Option Env) = none
  | [] => rfl
  | _ :: r => fold_none r
theorem gds_nil : PGDs X [] [] [] := by
  refine pgsI pgs_nil fun vs σ H Q ⟨F, ι, ρ, S, ds, ρ', s, r, rv, hl, hg, q⟩ => ?_
  cases ds with
  | nil =>
    cases rv
    cases hg
    exact ⟨rfl, q σ r fun _ _ => rfl⟩
  | cons _ _ => cases hl
theorem gds_cons {tg : Expr} {ts : List Expr} {g : SemG} {gs : List SemG} {v1 v2 : List Nat} (h1 : PGD X tg g v1) (h2 : PGDs X ts gs v2) (hs : (assignEach (tg :: ts) X.env).map (·.2) = assign tg X.env :: (assignEach ts X.env).map (·.2) := by rfl) : PGDs X (tg :: ts) (g :: gs) (v1 ++ v2) := by
  refine pgsI (pgs_cons h1 h2 hs) fun vs σ H Q ⟨F, ι, ρ, S, ds, ρ', s, r, rv, hl, hg, q⟩ => ?_
  cases ds with
  | nil => cases hl
  | cons d ds =>
    cases rv with
    | @cons v vs _ _ rv rvs =>
      rw [List.zip_cons_cons, List.foldl_cons] at hg
      cases hz : g d ρ S with
      | none =>
        have : ((some ρ : Option Env).bind fun ρ' => g d ρ' S) = none := hz
        rw [this, fold_none] at hg
        cases hg
      | some ρ1 =>
        have hz' : ((some ρ : Option Env).bind fun ρ' => g d ρ' S) = some ρ1 := hz
        rw [hz'] at hg
        refine ⟨v, vs, rfl, F, ι, ρ, S, d, ρ1, s, r, rv, hz, fun σ1 r1 w1 => ?_⟩
        exact ⟨F, ι, ρ1, S, ds, ρ', s, r1, rvs, by simpa using hl, hg, fun σ2 r2 w2 => q σ2 r2 fun ws hw => (w2 ws fun i hi => hw i (List.mem_append_right _ hi)).trans (w1 ws fun i hi => hw i (List.mem_append_left _ hi))⟩
theorem gd_tup {ts : List Expr} {gs : List SemG} {k : Nat} {vs' : List Nat} (hc : X.calm = true) (h : PGDs X ts gs vs') (hn : (assignEach ts X.env).length = gs.length := by rfl) (hst : (assignEach ts X.env).findIdx? (·.1) = none := by rfl) : PGD X (.Tuple ts k pos) (gT gs) vs' := by
  refine pgI (pg_tup hc h hn hst) fun v σ H Q ⟨F, ι, ρ, S, d, ρ', s, r, rv, hg, q⟩ => ?_
  unfold gT at hg
  split at hg
  · next ds =>
    split at hg
    · next hl =>
      obtain ⟨a, vs, rfl, e1, _, r1, _⟩ := at_tup s rv (show dr S (.tup ds) = .tup ds from rfl)
      exact ⟨a, vs, rfl, SqT.of e1, by rw [r1.length]; exact hl, F, ι, ρ, S, ds, ρ', s, r, r1, hl, hg, q⟩
    · cases hg
  · cases hg
def sAsgT (g : SemG) (f : SemE) : SemS := fun ρ S => toS (f ρ S) ρ fun d S1 => match g d ρ S1 with
  | some ρ1 => .nx ρ1 S1
  | none => .stuck
/-- a, b = e1, e2 -/
def sPar (i j : Nat) (fa : SemA) : SemS := fun ρ S => toS (fa ρ S) ρ fun ds S1 => match ds with
  | [d, e] => .nx ((ρ.set i (some d)).set j (some e)) S1
  | _ => .stuck
theorem xs_par {i j : Nat} {x y : Str} {a b : Expr} {fa : SemA} {px py pt : Pos} {kt k2 pt2} (hc : X.calm = true) (hN : X.N.Nodup) (hi : X.N[i]? = some x) (hj : X.N[j]? = some y) (hij : i ≠ j)
    (hx : X.env.scope.names.lookup x = some .local) (hy : X.env.scope.names.lookup y = some .local) (ha : XA X W [a, b] fa)
    (hw : swappedStores [.Tuple [.Name x px, .Name y py] kt pt] (.Tuple [a, b] k2 pt2) X.env = pure (some [x, y]))
    (hs : swapsWithSole [.Tuple [.Name x px, .Name y py] kt pt] (.Tuple [a, b] k2 pt2) pos.line X.env = pure false := by rfl) :
    XS X W (.Assign [.Tuple [.Name x px, .Name y py] kt pt] (.Tuple [a, b] k2 pt2) pos) (sPar i j fa) := by
  refine psI (ps_par hc hN hi hj hij hx hy ha hw hs) fun Dn σ H hh => ?_
  obtain ⟨F, ι, ρ, S, s, r, q⟩ := hh
  refine ⟨F, ι, ρ, S, s, r, post_toS r q fun ds S1 F1 ι1 v H1 x1 s1 rv q1 => ?_⟩
  cases rv with
  | nil => exact q1.elim
  | cons r1 t1 =>
    cases t1 with
    | nil => exact q1.elim
    | cons r2 t2 =>
      cases t2 with
      | nil => exact ⟨_, _, rfl, q1 F1 ι1 _ H1 (Step.refl _ _ _) s1 (((r.mono x1).set i r1).set j r2)⟩
      | cons _ _ => exact q1.elim
/-- x += e, ints -/
def sAug (i : Nat) (op : Int → Int → Int) (f : SemE) : SemS := fun ρ S => match ρ[i]? with
  | some (some (.int a)) => toS (f ρ S) ρ fun d S1 => match d with
    | .int b => .nx (ρ.set i (some (.int (op a b)))) S1
    | _ => .stuck
  | _ => .stuck
end
def Yl (K : PySem.W.Frag) (F : Hp) (ι : List Addr) (H : Hp) (x : V) (H' : Hp) (d : D) : Prop :=
  (H' = H ∧ Rel K F ι x d) ∨ ∃ T vs ds, x = .ref T ∧ H T = none ∧ H' = upd H T (.tup vs) ∧ d = .tup ds ∧ RelAll K F ι vs ds
structure Walks (K : PySem.W.Frag) (F : Hp) (ι : List Addr) (J : It) (xs : List D) : Prop where
  go : ∀ H i, Same F H → i < xs.length → J.go i H
  yld : ∀ H i x H', Same F H → i < xs.length → J.yld i H x H' → ∃ d, xs[i]? = some d ∧ Yl K F ι H x H' d
  stop : ∀ H i, Same F H → xs.length ≤ i → J.stop i H
theorem Yl.sim {K : PySem.W.Frag} {mg : Str → Option Value} {F : Hp} {ι : List Addr} {S : Store} {H H' : Hp} {x : V} {d : D} (y : Yl K F ι H x H' d) {F1 H0 : Hp} {ι1 : List Addr} (e : Step F ι H0 F1 ι1 H) (s : Sim K mg F1 ι1 S H) : ∃ F2, Step F1 ι1 H F2 ι1 H' ∧ Sim K mg F2 ι1 S H' ∧ Rel K F2 ι1 x d := by
  rcases y with ⟨rfl, r⟩ | ⟨T, vs, ds, rfl, hT, rfl, rfl, r⟩
  · exact ⟨F1, Step.refl _ _ _, s, Rel.mono e r⟩
  · obtain ⟨x2, s2⟩ := s.frozen (o := .tup vs) hT
    exact ⟨_, x2, s2, .tup upd_same (RelAll.mono (e.trans x2) r)⟩
def RI' (K : PySem.W.Frag) : Hp → Hp → List Addr → Hp → It → List D → Prop := fun _ F ι _ J xs => Walks K F ι J xs
theorem stI {K : PySem.W.Frag} : Stays (RI' K) := fun _ r => r
abbrev XI (X : Cx) (W : WX) (tg e : Expr) (f : SemA) : Prop := PI X tg e (tG ⟨X.K, X.mg, W⟩ (RI' X.K) f)
def forL (b : D → Env → Store → OutS) : List D → Env → Store → OutS
  | [], ρ, S => .nx ρ S
  | x :: xs, ρ, S => match b x ρ S with
    | .nx ρ1 S1 => forL b xs ρ1 S1
    | .ct ρ1 S1 => forL b xs ρ1 S1
    | .bk ρ1 S1 => .nx ρ1 S1
    | .rt d S1 => .rt d S1
    | .exc c fs ρ1 S1 => .exc c fs ρ1 S1
    | .stuck => .stuck
def sFor (it : SemA) (g : SemG) (b : SemS) : SemS := fun ρ S => toS (it ρ S) ρ fun xs S1 => forL (fun x ρ S => match g x ρ S with
  | some ρ1 => b ρ1 S
  | none => .stuck) xs ρ S1
section
variable {X : Cx} {W : WX} {tg iter : Expr} {body : List Stmt} {pos : Pos} {fi : SemA} {g : SemG} {b : SemS} {vs' : List Nat}
theorem xs_for (hp : PassesOwn (model X.prog X.w) X.A X.env X.xe) (hc : X.calm = true) (hi : XI X W tg iter fi) (hg : PGD X tg g vs') (hb : XSs X W body b) (hs : ∀ x, foldedSetIterable iter X.env x = pure x := by intro _; rfl) : XS X W (.For tg iter body [] pos) (sFor fi g b) := by
  refine psI (ps_for hp hc hi hg hb hs) fun Dn σ H hh => ?_
  obtain ⟨F, ι, ρ, S, s, r, q⟩ := hh
  refine ⟨F, ι, ρ, S, s, r, post_toS (R := RI' X.K) r q fun xs S1 F1 ι1 J H1 x1 s1 wk q1 => ?_⟩
  have wk : Walks X.K F1 ι1 J xs := wk
  refine ⟨fun i m σ' H' => i + m = xs.length ∧ ∃ F' ι' ρ' S', Step F1 ι1 H1 F' ι' H' ∧ Sim X.K X.mg F' ι' S' H' ∧ REnv X.K F' ι' σ' ρ' ∧ PostS ⟨X.K, X.mg, W⟩ F' ι' H' (forL (fun x ρ S => match g x ρ S with
    | some ρ1 => b ρ1 S
    | none => .stuck) (xs.drop i) ρ' S') Dn, ⟨xs.length, by omega, F1, ι1, ρ, S1, Step.refl _ _ _, s1, r.mono x1, by simpa using q1⟩, fun i m σ' H' hW => ?_⟩
  obtain ⟨hm, F2, ι2, ρ2, S2, x2, s2, r2, q2⟩ := hW
  by_cases hlt : i < xs.length
  · refine .inr ⟨wk.go H' i (x2.same.trans s2.sub) hlt, fun σ3 H3 => ∃ F' ι' ρ' S', Step F1 ι1 H1 F' ι' H3 ∧ Sim X.K X.mg F' ι' S' H3 ∧ REnv X.K F' ι' σ3 ρ' ∧ PostS ⟨X.K, X.mg, W⟩ F' ι' H3 (forL (fun x ρ S => match g x ρ S with
      | some ρ1 => b ρ1 S
      | none => .stuck) (xs.drop (i + 1)) ρ' S') Dn, fun σ3 H3 h3 => ⟨m - 1, by omega, by omega, h3⟩, fun x H3 hy => ?_⟩
    obtain ⟨d, hd, y⟩ := wk.yld H' i x H3 (x2.same.trans s2.sub) hlt hy
    obtain ⟨F3, x3, s3, r3⟩ := y.sim x2 s2
    have hdrop : xs.drop i = d :: xs.drop (i + 1) := by
      rw [List.drop_eq_getElem_cons hlt]
      congr 1
      rw [List.getElem?_eq_getElem hlt] at hd
      exact Option.some.inj hd
    rw [hdrop] at q2
    have q3 := PostS.ext x3 q2
    unfold forL at q3
    cases hz : g d ρ2 S2 with
    | none =>
      rw [hz] at q3
      exact q3.elim
    | some ρ3 =>
      rw [hz] at q3
      refine ⟨F3, ι2, ρ2, S2, d, ρ3, s3, r2.mono x3, r3, hz, fun σ4 r4 _ => ⟨F3, ι2, ρ3, S2, s3, r4, ?_⟩⟩
      dsimp only at q3
      cases hbz : b ρ3 S2 with
      | nx ρ4 S4 =>
        rw [hbz] at q3
        exact fun F4 ι4 σ5 H5 x4 s4 r5 => ⟨F4, ι4, ρ4, S4, (x2.trans x3).trans x4, s4, r5, PostS.ext x4 q3⟩
      | ct ρ4 S4 =>
        rw [hbz] at q3
        exact fun F4 ι4 σ5 H5 x4 s4 r5 => ⟨F4, ι4, ρ4, S4, (x2.trans x3).trans x4, s4, r5, PostS.ext x4 q3⟩
      | bk ρ4 S4 => rw [hbz] at q3; exact q3
      | rt d4 S4 => rw [hbz] at q3; exact q3
      | exc c fs ρ4 S4 => rw [hbz] at q3; exact q3
      | stuck => rw [hbz] at q3; exact q3.elim
  · refine .inl ⟨wk.stop H' i (x2.same.trans s2.sub) (by omega), ?_⟩
    rw [List.drop_of_length_le (by omega)] at q2
    exact q2 F2 ι2 σ' H' (Step.refl _ _ _) s2 r2
end
def whileN (t : SemT) (b : SemS) : Nat → SemS
  | 0, _, _ => .stuck
  | n + 1, ρ, S => toS (t ρ S) ρ fun k S1 => if k then (match b ρ S1 with
    | .nx ρ1 S2 => whileN t b n ρ1 S2
    | .ct ρ1 S2 => whileN t b n ρ1 S2
    | .bk ρ1 S2 => .nx ρ1 S2
    | o => o) else .nx ρ S1
open Classical in
noncomputable def sWhile (t : SemT) (b : SemS) : SemS := fun ρ S => if h : ∃ n, whileN t b n ρ S ≠ .stuck then whileN t b (Classical.choose h) ρ S else .stuck
section
variable {t : SemT} {b : SemS}
theorem whileN_mono : ∀ {n m : Nat} {ρ : Env} {S : Store}, whileN t b n ρ S ≠ .stuck → n ≤ m → whileN t b m ρ S = whileN t b n ρ S
  | 0, _, _, _, h, _ => absurd rfl h
  | n + 1, 0, _, _, _, hm => absurd hm (by omega)
  | n + 1, m + 1, ρ, S, h, hm => by
    unfold whileN at h ⊢
    cases e : t ρ S with
    | ok k S1 =>
      rw [e] at h
      simp only [toS_ok] at h ⊢
      cases k with
      | false => rfl
      | true =>
        simp only [if_true] at h ⊢
        cases e2 : b ρ S1 with
        | nx ρ1 S2 => rw [e2] at h; exact whileN_mono h (by omega)
        | ct ρ1 S2 => rw [e2] at h; exact whileN_mono h (by omega)
        | _ => rfl
    | exc c fs S1 => rfl
    | stuck => rfl
theorem sWhile_eq {n : Nat} {ρ : Env} {S : Store} {o : OutS} (h : whileN t b n ρ S = o) (ho : o ≠ .stuck) : sWhile t b ρ S = o := by
  have hx : ∃ n, whileN t b n ρ S ≠ .stuck := ⟨n, by rw [h]; exact ho⟩
  unfold sWhile
  rw [dif_pos hx]
  have h1 := Classical.choose_spec hx
  rcases Nat.le_total n (Classical.choose hx) with hl | hl
  · rw [whileN_mono (by rw [h]; exact ho) hl, h]
  · rw [← whileN_mono h1 hl, h]
end
section
variable {X : Cx} {W : WX} {c : Expr} {body : List Stmt} {pos : Pos} {t : SemT} {b : SemS}
theorem xs_while (hp : PassesOwn (model X.prog X.w) X.A X.env X.xe) (hc : XT X W c t) (hb : XSs X W body b) : XS X W (.While c body [] pos) (sWhile t b) := by
  refine psI (ps_while hp hc hb) fun Dn σ H hh => ?_
  obtain ⟨F, ι, ρ, S, s, r, q⟩ := hh
  unfold sWhile at q
  split at q
  · next hx =>
    refine ⟨fun m σ' H' => ∃ F' ι' ρ' S', Sim X.K X.mg F' ι' S' H' ∧ REnv X.K F' ι' σ' ρ' ∧ PostS ⟨X.K, X.mg, W⟩ F' ι' H' (whileN t b m ρ' S') Dn, ⟨_, F, ι, ρ, S, s, r, q⟩, fun m σ' H' hW => ?_⟩
    obtain ⟨F1, ι1, ρ1, S1, s1, r1, q1⟩ := hW
    cases m with
    | zero => exact q1.elim
    | succ m =>
      unfold whileN at q1
      refine ⟨F1, ι1, ρ1, S1, s1, r1, post_toS r1 q1 fun k S2 F2 ι2 v H2 x2 s2 rv q2 => ?_⟩
      cases (show v = k from rv)
      cases k with
      | false => exact q2 F2 ι2 σ' H2 (Step.refl _ _ _) s2 (r1.mono x2)
      | true =>
        simp only [if_true] at q2
        refine ⟨fun σ3 H3 => ∃ F' ι' ρ' S', Sim X.K X.mg F' ι' S' H3 ∧ REnv X.K F' ι' σ3 ρ' ∧ PostS ⟨X.K, X.mg, W⟩ F' ι' H3 (whileN t b m ρ' S') Dn, fun σ3 H3 h3 => ⟨m, by omega, h3⟩, F2, ι2, ρ1, S2, s2, r1.mono x2, ?_⟩
        cases hbz : b ρ1 S2 with
        | nx ρ4 S4 =>
          rw [hbz] at q2
          exact fun F4 ι4 σ5 H5 x4 s4 r5 => ⟨F4, ι4, ρ4, S4, s4, r5, PostS.ext x4 q2⟩
        | ct ρ4 S4 =>
          rw [hbz] at q2
          exact fun F4 ι4 σ5 H5 x4 s4 r5 => ⟨F4, ι4, ρ4, S4, s4, r5, PostS.ext x4 q2⟩
        | bk ρ4 S4 => rw [hbz] at q2; exact q2
        | rt d4 S4 => rw [hbz] at q2; exact q2
        | exc c fs ρ4 S4 => rw [hbz] at q2; exact q2
        | stuck => rw [hbz] at q2; exact q2.elim
  · exact q.elim
end
end Fk
set_option Elab.async false
set_option linter.all false
set_option maxRecDepth 100000
namespace Fk
open PySem PySem.Spec PyProof.Rows L2
def itC (n : Nat) (S : Store) : Option Cell → Out (List D)
  | some (.lst true xs) => .ok xs (S.set n (.lst false xs))
  | some (.lst false xs) => .ok xs S
  | _ => .stuck
def itOf : D → Store → Out (List D)
  | .lst xs, S => .ok xs S
  | .tup xs, S => .ok xs S
  | .scr xs, S => .ok xs S
  | .ref n, S => itC n S S[n]?
  | _, _ => .stuck
def itSeq (f : SemE) : SemA := fun ρ S => (f ρ S).bind itOf
section
variable {K : PySem.W.Frag} {F : Hp} {ι : List Addr}
theorem walks_list {a : Addr} {vs : List V} {ds : List D} (h : SqL K F a vs) (r : RelAll K F ι vs ds) : Walks K F ι (Itl K a) ds := by
  refine ⟨fun H i s hi => ?_, fun H i x H' s hi y => ?_, fun H i s hi => ⟨vs, s.seq h, by rw [r.length]; exact hi⟩⟩
  · have hv : i < vs.length := by rw [r.length]; exact hi
    exact ⟨vs, vs[i], s.seq h, by simp [hv]⟩
  · obtain ⟨rfl, y⟩ := y
    obtain ⟨d, hd, rd⟩ := r.getV (y vs (s.seq h))
    exact ⟨d, hd, .inl ⟨rfl, rd⟩⟩
theorem walks_tup {a : Addr} {vs : List V} {ds : List D} (h : F a = some (.tup vs)) (r : RelAll K F ι vs ds) : Walks K F ι (Itt K a) ds := by
  refine ⟨fun H i s hi => ?_, fun H i x H' s hi y => ?_, fun H i s hi => ⟨vs, SqT.of (s _ _ h), by rw [r.length]; exact hi⟩⟩
  · have hv : i < vs.length := by rw [r.length]; exact hi
    exact ⟨vs, vs[i], SqT.of (s _ _ h), by simp [hv]⟩
  · obtain ⟨rfl, y⟩ := y
    obtain ⟨d, hd, rd⟩ := r.getV (y vs (SqT.of (s _ _ h)))
    exact ⟨d, hd, .inl ⟨rfl, rd⟩⟩
end
section
variable {X : Cx} {W : WX} {tg e : Expr} {f : SemE} {pos : Pos}
theorem iter_L {pins : List (Addr × Obj)} {σ : L2.St} {H1 : Hp} {s1 : Shared} {a : Addr} {xs : List V} {R : It → Hp → Prop} (I1 : Inv X pins σ H1 s1) (hq : SqL X.K H1 a xs) (q : R (Itl X.K a) H1) : wpAny (model X.prog X.w) X.A (pyIter (.ref a)) (PIE X pins σ tg R) X.xe s1 := by
  obtain ⟨its, rv, p, hz⟩ := I1.list hq
  refine wpAny_pyIter_list p.isList ⟨s1.heap.objs.size, [s1.heap.objs.size], _, _, H1, rfl, I1.kept (t' := s1.toks) fun b o e => Heap.get?_push_of_some _ e, turn_list a _, ⟨_, Heap.get?_push_size _ rfl, rfl, rfl⟩, fun b hb => ?_, q⟩
  cases List.mem_singleton.mp hb
  exact I1.fpOk (Nat.le_refl _) (I1.hok.fresh (Nat.le_refl _))
theorem iter_T {pins : List (Addr × Obj)} {σ : L2.St} {H1 : Hp} {s1 : Shared} {a : Addr} {xs : List V} {R : It → Hp → Prop} (I1 : Inv X pins σ H1 s1) (hq : SqT X.K H1 a xs) (q : R (Itt X.K a) H1) : wpAny (model X.prog X.w) X.A (pyIter (.ref a)) (PIE X pins σ tg R) X.xe s1 := by
  obtain ⟨its, rv, p, hz⟩ := I1.tuple hq
  refine wpAny_pyIter_tuple (show s1.heap.IsTuple a its.toArray from p) ⟨s1.heap.objs.size, [s1.heap.objs.size], _, _, H1, rfl, I1.kept (t' := s1.toks) fun b o e => Heap.get?_push_of_some _ e, turn_tuple a _, ⟨_, Heap.get?_push_size _ rfl, rfl, rfl⟩, fun b hb => ?_, q⟩
  cases List.mem_singleton.mp hb
  exact I1.fpOk (Nat.le_refl _) (I1.hok.fresh (Nat.le_refl _))
theorem xi_seq (he : XE X W e f) : XI X W tg e (itSeq f) := by
  refine ⟨fun pins s σ H R I h => ?_⟩
  obtain ⟨F, ι, ρ, S, sm, r, q⟩ := h
  have key : tE ⟨X.K, X.mg, W⟩ f σ H fun x H1 => ∃ a, x = .ref a ∧ ((∃ xs, SqL X.K H1 a xs ∧ R (Itl X.K a) H1) ∨ ∃ xs, SqT X.K H1 a xs ∧ R (Itt X.K a) H1) := by
    refine ⟨F, ι, ρ, S, sm, r, post_bind (R := RV' X.K) q (fun x S1 F1 ι1 v H1 x1 s1 rv q1 => ?_) stI⟩
    have rv : Rel X.K F1 ι1 v x := rv
    cases rv with
    | @lst a vs ds h1 h2 => exact ⟨a, rfl, .inl ⟨vs, SqL.of (s1.sub _ _ h1), q1 F1 ι1 _ H1 (Step.refl _ _ _) s1 (walks_list (SqL.of h1) h2)⟩⟩
    | @scr a vs ds h1 h2 => exact ⟨a, rfl, .inl ⟨vs, s1.sub.seq h1, q1 F1 ι1 _ H1 (Step.refl _ _ _) s1 (walks_list h1 h2)⟩⟩
    | @tup a vs ds h1 h2 => exact ⟨a, rfl, .inr ⟨vs, SqT.of (s1.sub _ _ h1), q1 F1 ι1 _ H1 (Step.refl _ _ _) s1 (walks_tup h1 h2)⟩⟩
    | @ref n a h1 =>
      have q1 : Post ⟨X.K, X.mg, W⟩ (RI' X.K) F1 ι1 H1 σ (itC n S1 S1[n]?) R := q1
      cases hc : S1[n]? with
      | none => rw [hc] at q1; exact q1.elim
      | some c =>
        rw [hc] at q1
        cases c with
        | lst b xs =>
          cases b with
          | true =>
            obtain ⟨vs, g1, g2, g3⟩ := s1.cell n a _ h1 hc
            obtain ⟨x2, s2⟩ := s1.freeze h1 g3 g1 g2 (s1.cl n _ hc)
            exact ⟨a, rfl, .inl ⟨vs, SqL.of g1, q1 _ _ _ H1 x2 s2 (walks_list (SqL.of upd_same) (RelAll.mono x2 g2))⟩⟩
          | false =>
            obtain ⟨vs, g1, g2⟩ := s1.cell n a _ h1 hc
            exact ⟨a, rfl, .inl ⟨vs, SqL.of (s1.sub _ _ g1), q1 _ _ _ H1 (Step.refl _ _ _) s1 (walks_list (SqL.of g1) g2)⟩⟩
        | _ => exact q1.elim
    | _ => exact q1.elim
  refine thn (he.run pins s σ H _ I key) fun v s1 ⟨x, H1, I1, r1, q1⟩ => ?_
  obtain ⟨a, rfl, q1⟩ := q1
  cases r1
  rcases q1 with ⟨xs, h1, h2⟩ | ⟨xs, h1, h2⟩
  · exact iter_L I1 h1 h2
  · exact iter_T I1 h1 h2
def rng (lo : Int) (n : Nat) : List D := (List.range n).map fun (i : Nat) => .int (lo + (i : Int))
theorem rng_length (lo : Int) (n : Nat) : (rng lo n).length = n := by simp [rng]
def okR (i : Int) : Bool := decide (-(2 ^ 62) ≤ i ∧ i < 2 ^ 62)
def itR1 (fa : SemA) : SemA := fun ρ S => (fa ρ S).bind fun ds S1 => match ds with
  | [.int j] => if okR j then .ok (rng 0 j.toNat) S1 else .stuck
  | _ => .stuck
def itR2 (fa : SemA) : SemA := fun ρ S => (fa ρ S).bind fun ds S1 => match ds with
  | [.int i, .int j] => if okR i && okR j then .ok (rng i (j - i).toNat) S1 else .stuck
  | _ => .stuck
theorem walks_rng {K : PySem.W.Frag} {F : Hp} {ι : List Addr} (lo : Int) (n : Nat) : Walks K F ι (Itr lo n) (rng lo n) := by
  refine ⟨fun H i _ hi => by rw [rng_length] at hi; exact hi, fun H i x H' _ hi y => ?_, fun H i _ hi => by rw [rng_length] at hi; exact hi⟩
  obtain ⟨rfl, rfl⟩ := y
  rw [rng_length] at hi
  exact ⟨.int (lo + i), by simp [rng, hi], .inl ⟨rfl, .int _⟩⟩
theorem piI {tg e : Expr} {t t' : TI} (h : PI X tg e t) (i : ∀ σ H Q, t' σ H Q → t σ H Q) : PI X tg e t' := ⟨fun pins s σ H Q I q => h.run pins s σ H Q I (i _ _ _ q)⟩
theorem xi_range1 {a : Expr} {fa : SemA} {p pos : Pos} (hg : Gl X "range") (hm : X.mg "range" = none) (ha : XA X W [a] fa) (hs : starEach [a] X.env = [(false, eval a X.env)] := by rfl) : XI X W tg (.Call (.Name "range" p) [a] [] pos) (itR1 fa) := by
  refine piI (pi_range1 hg hm ha hs) fun σ H R h => ?_
  obtain ⟨F, ι, ρ, S, sm, r, q⟩ := h
  refine ⟨F, ι, ρ, S, sm, r, post_bind (R := RA' X.K) q (fun x S1 F1 ι1 v H1 x1 s1 rv q1 => ?_) stI⟩
  split at q1
  · next j =>
    obtain ⟨hz, q1⟩ := ite_stuck q1
    obtain ⟨z1, z2⟩ := of_decide_eq_true hz
    obtain ⟨y, rfl, ry⟩ := rel1 rv
    cases rel_int ry
    exact ⟨j, rfl, z1, z2, q1 F1 ι1 _ H1 (Step.refl _ _ _) s1 (walks_rng _ _)⟩
  · exact q1.elim
def zipL (xs ys : List D) : List D := (xs.zip ys).map fun q => .tup [q.1, q.2]
def itZip (fa : SemA) : SemA := fun ρ S => (fa ρ S).bind fun ds S1 => match ds with
  | [.lst xs, .lst ys] => .ok (zipL xs ys) S1
  | [.tup xs, .tup ys] => .ok (zipL xs ys) S1
  | [.lst xs, .tup ys] => .ok (zipL xs ys) S1
  | [.tup xs, .lst ys] => .ok (zipL xs ys) S1
  | _ => .stuck
end
end Fk
set_option Elab.async false
set_option linter.all false
set_option maxRecDepth 100000
namespace Fk
open PySem PySem.Spec PyProof.Rows L2
def wipeD (ρ : Env) : List Nat → Env
  | [] => ρ
  | v :: vs => (wipeD ρ vs).set v none
theorem wipeD_length (ρ : Env) : ∀ vs : List Nat, (wipeD ρ vs).length = ρ.length
  | [] => rfl
  | v :: vs => by unfold wipeD; rw [List.length_set, wipeD_length ρ vs]
theorem wipeD_get (ρ : Env) : ∀ (ws : List Nat) (j : Nat), (wipeD ρ ws)[j]? = if j ∈ ws then (if j < ρ.length then some none else none) else ρ[j]?
  | [], j => by simp [wipeD]
  | w :: ws, j => by
    unfold wipeD
    by_cases hj : j = w
    · subst hj
      by_cases hl : j < ρ.length
      · rw [List.getElem?_set_self (by rw [wipeD_length]; exact hl)]
        simp [hl]
      · rw [List.getElem?_eq_none (by rw [List.length_set, wipeD_length]; omega)]
        simp [hl]
    · rw [List.getElem?_set_ne (Ne.symm hj), wipeD_get ρ ws j]
      simp [hj]
theorem REnv.wipe {K : PySem.W.Frag} {F : Hp} {ι : List Addr} {σ : L2.St} {ρ : Env} (r : REnv K F ι σ ρ) (ws : List Nat) : REnv K F ι (L2.wipe σ ws) (wipeD ρ ws) := by
  refine ⟨by rw [wipe_length, wipeD_length, r.len], fun i d h => ?_⟩
  rw [wipeD_get] at h
  by_cases hi : i ∈ ws
  · rw [if_pos hi] at h
    split at h <;> cases h
  · rw [if_neg hi] at h
    rw [wipe_get, if_neg hi]
    exact r.at' i d h
def noX {α : Type} : Out α → Out α
  | .ok a S => .ok a S
  | _ => .stuck
@[simp] theorem noX_ok {α : Type} (a : α) (S : Store) : noX (.ok a S) = .ok a S := rfl
def compGo (f : D → Store → Out (Option D)) : List D → List D → Store → Out (List D)
  | [], acc, S => .ok acc S
  | x :: xs, acc, S => (f x S).bind fun o S1 => match o with
    | some y => if sz acc.length then compGo f xs (acc ++ [y]) S1 else .stuck
    | none => compGo f xs acc S1
def sYes : SemT := fun _ S => .ok true S
def compStep (g : SemG) (t : SemT) (e : SemE) (ρ : Env) : D → Store → Out (Option D) := fun x S => match g x ρ S with
  | some ρ1 => (noX (t ρ1 S)).bind fun b S2 => if b then (noX (e ρ1 S2)).bind fun y S3 => .ok (some y) S3 else .ok none S2
  | none => .stuck
def lComp (it : SemA) (g : SemG) (t : SemT) (e : SemE) (vs : List Nat) : SemA := fun ρ S => (it ρ S).bind fun xs S1 => compGo (compStep g t e (wipeD ρ vs)) xs [] S1
abbrev WF : WX := fun _ _ _ _ => False
section
variable {X : Cx} {W : WX}
def XTs (X : Cx) (ifs : List Expr) (t : SemT) : Prop := PTs X ifs (tT ⟨X.K, X.mg, WF⟩ t)
theorem xts_nil : XTs X [] sYes := ⟨fun pins s σ H Q I ⟨F, ι, ρ, S, sm, r, q⟩ => (pts_nil (X := X)).run pins s σ H Q I (q F ι true H (Step.refl _ _ _) sm rfl)⟩
theorem xts_one {c : Expr} {t : SemT} (h : XT X WF c t) : XTs X [c] t := ⟨fun pins s σ H Q I q => (pts_one h).run pins s σ H Q I q⟩
theorem tG_comp {p : Pl} {fi : SemA} {g : SemG} {t : SemT} {e : SemE} {vs : List Nat} {vs' : List Nat} (hvs : ∀ i ∈ vs', i ∈ vs) {σ : L2.St} {H : Hp} {Q : VK} (h : tG p (RL' p.K) (lComp fi g t e vs) σ H Q) :
    tLc (tG p (RI' p.K) fi) (tPG p.K p.mg g vs')
      (tT ⟨p.K, p.mg, WF⟩ t) (tE ⟨p.K, p.mg, WF⟩ e) vs σ H Q := by
  obtain ⟨F, ι, ρ, S, sm, r, q⟩ := h
  refine ⟨F, ι, ρ, S, sm, r, post_bind (R := RI' p.K) q fun xs S1 F1 ι1 J H1 x1 s1 wk q1 => ?_⟩
  have wk : Walks p.K F1 ι1 J xs := wk
  intro Dl hD
  refine ⟨fun i m H' => i + m = xs.length ∧ ∃ F' ι' S' acc vs1, Step F1 ι1 H1 F' ι' H' ∧ Sim p.K p.mg F' ι' S' H' ∧ H' Dl = some (.lst vs1) ∧ F' Dl = none ∧ Dl ∉ ι' ∧ RelAll p.K F' ι' vs1 acc ∧ Post p (RL' p.K) F1 ι1 H1 σ (compGo (compStep g t e (wipeD ρ vs)) (xs.drop i) acc S') Q,
    ⟨xs.length, by omega, F1, ι1, S1, [], [], (s1.loose hD).1, (s1.loose hD).2, upd_same, (s1.fresh hD).1, (s1.fresh hD).2, .nil, by simpa using q1⟩, fun i m H' hW => ?_⟩
  obtain ⟨hm, F2, ι2, S2, acc, vs1, x2, s2, hH, hF, hI, ra, q2⟩ := hW
  by_cases hlt : i < xs.length
  · refine .inr ⟨wk.go H' i (x2.same.trans s2.sub) hlt, fun H3 => ∃ F' ι' S' acc vs1, Step F1 ι1 H1 F' ι' H3 ∧ Sim p.K p.mg F' ι' S' H3 ∧ H3 Dl = some (.lst vs1) ∧ F' Dl = none ∧ Dl ∉ ι' ∧ RelAll p.K F' ι' vs1 acc ∧ Post p (RL' p.K) F1 ι1 H1 σ (compGo (compStep g t e (wipeD ρ vs)) (xs.drop (i + 1)) acc S') Q, fun H3 h3 => ⟨m - 1, by omega, by omega, h3⟩, fun x H3 hy => ?_⟩
    obtain ⟨d, hd, y⟩ := wk.yld H' i x H3 (x2.same.trans s2.sub) hlt hy
    obtain ⟨F3, x3, s3, r3⟩ := y.sim x2 s2
    have hdrop : xs.drop i = d :: xs.drop (i + 1) := by
      rw [List.drop_eq_getElem_cons hlt]
      congr 1
      rw [List.getElem?_eq_getElem hlt] at hd
      exact Option.some.inj hd
    rw [hdrop] at q2
    unfold compGo at q2
    obtain ⟨hH3, hF3, hI3⟩ := x3.keep Dl _ hH hF hI trivial
    cases hz : g d (wipeD ρ vs) S2 with
    | none =>
      unfold compStep at q2
      rw [hz] at q2
      exact q2.elim
    | some ρ1 =>
      unfold compStep at q2
      rw [hz] at q2
      refine ⟨F3, ι2, wipeD ρ vs, S2, d, ρ1, s3, ((r.mono ((x1.trans x2).trans x3)).wipe vs), r3, hz, fun σ4 r4 w4 => ⟨?_, F3, ι2, ρ1, S2, s3, r4, ?_⟩⟩
      · rw [w4 vs hvs, wipe_wipe]
      · cases ht : t ρ1 S2 with
        | exc c fs S3 =>
          simp only [ht, noX, Out.stuck_bind] at q2
          exact q2.elim
        | stuck =>
          simp only [ht, noX, Out.stuck_bind] at q2
          exact q2.elim
        | ok b S3 =>
          intro F4 ι4 b' H4 x4 s4 rb
          cases (show b' = b from rb)
          simp only [ht, noX_ok, Out.ok_bind] at q2
          obtain ⟨hH4, hF4, hI4⟩ := x4.keep Dl _ hH3 hF3 hI3 trivial
          cases b with
          | false =>
            simp only [Bool.false_eq_true, if_false, Out.ok_bind] at q2
            exact ⟨F4, ι4, S3, acc, vs1, (x2.trans x3).trans x4, s4, hH4, hF4, hI4, RelAll.mono (x3.trans x4) ra, q2⟩
          | true =>
            simp only [if_true] at q2
            refine ⟨F4, ι4, ρ1, S3, s4, r4.mono x4, ?_⟩
            cases he : e ρ1 S3 with
            | exc c fs S4 =>
              simp only [he, noX, Out.stuck_bind] at q2
              exact q2.elim
            | stuck =>
              simp only [he, noX, Out.stuck_bind] at q2
              exact q2.elim
            | ok y S4 =>
              intro F5 ι5 w H5 x5 s5 rw'
              have rw' : Rel p.K F5 ι5 w y := rw'
              simp only [he, noX_ok, Out.ok_bind] at q2
              obtain ⟨hz2, q3⟩ := ite_stuck q2
              obtain ⟨hH5, hF5, hI5⟩ := x5.keep Dl _ hH4 hF4 hI4 trivial
              have ra5 := RelAll.mono ((x3.trans x4).trans x5) ra
              refine ⟨vs1, hH5, by rw [ra5.length]; exact sz_lt hz2, F5, ι5, S4, acc ++ [y], vs1 ++ [w], ?_, ?_, upd_same, hF5, hI5, ra5.append (.cons rw' .nil), q3⟩
              · have st := ((x2.trans x3).trans x4).trans x5
                refine ⟨st.toExt, fun b o e1 e2 e3 e4 => ?_, fun b hb => st.dom b (upd_dom hb)⟩
                obtain ⟨k1, k2, k3⟩ := st.keep b o e1 e2 e3 e4
                exact ⟨by rw [upd_ne (ne_of_none e1 hD)]; exact k1, k2, k3⟩
              · refine ⟨fun b o e1 => ?_, s5.len, s5.nd, fun n a c ha hc => ?_, s5.cl, s5.tab.upd hH5 trivial, s5.nt, tt_upd s5.tt (by intro _ z; cases z)⟩
                · rw [upd_ne (ne_of_none e1 hF5)]
                  exact s5.sub b o e1
                · exact (s5.cell n a c ha hc).mono (Ext.refl _ _) (fun z => z) fun o z => by
                    rw [upd_ne (show a ≠ Dl from fun z2 => hI5 (by rw [← z2]; exact List.mem_of_getElem? ha))]
                    exact z
  · refine .inl ⟨wk.stop H' i (x2.same.trans s2.sub) (by omega), ?_⟩
    rw [List.drop_of_length_le (by omega)] at q2
    exact q2 F2 ι2 _ H' x2 s2 ⟨Dl, vs1, rfl, hD, hH, hF, hI, ra⟩
variable {elt tg iter : Expr} {ifs : List Expr} {scope : Scope} {own : List (Str × Nat)} {pos : Pos} {fi : SemA} {g : SemG} {t : SemT} {e : SemE} {vs' : List Nat}
/-- name = [..] on one line -/
theorem xs_setLc {i : Nat} {y : Str} {py spos : Pos} (hc : X.calm = true) (hN : X.N.Nodup) (hy : X.N[i]? = some y) (hyl : X.env.scope.names.lookup y = some .local)
    (hsw : swapsWith (.ListComp elt [⟨tg, iter, ifs, 0⟩] scope pos) (some (.Name y py)) spos.line X.env = pure true) (hi : XI X W tg iter fi) (ok : BlkOk X.N X.env.scope scope own) (hvs : ∀ i ∈ vs', i ∈ own.map (·.2))
    (hg : ∀ (s : Shared) (H : Hp) (C : Addr) (cl : List (Str × Addr)) (fp : List Addr), PGD (X.blk s H scope (compEnvC scope cl C X.env) fp) tg g vs') (ht : ∀ (s : Shared) (H : Hp) (C : Addr) (cl : List (Str × Addr)) (fp : List Addr), XTs (X.blk s H scope (compEnvC scope cl C X.env) fp) ifs t)
    (he : ∀ (s : Shared) (H : Hp) (C : Addr) (cl : List (Str × Addr)) (fp : List Addr), XE (X.blk s H scope (compEnvC scope cl C X.env) fp) WF elt e) (hs : ∀ x, foldedSetIterable iter X.env x = pure x := by intro _; rfl) :
    ∀ {f : SemE}, (∀ p : Pl, ∀ σ H Q, tE p f σ H Q → tL p (lComp fi g t e (own.map (·.2))) σ H Q) → XS X W (.Assign [.Name y py] (.ListComp elt [⟨tg, iter, ifs, 0⟩] scope pos) spos) (sAsg i f) := fun hf =>
  psI (ps_setLc (g := tPG X.K X.mg g vs') (tt := tT ⟨X.K, X.mg, WF⟩ t) (te := tE ⟨X.K, X.mg, WF⟩ e) hc hN hy hyl hsw hi ok hg ht he hs) fun Dn σ H hh => tG_comp hvs (hf _ _ _ _ (tS_asg hh))
/-- the two ways a new list is kept -/
theorem tE_frz {p : Pl} {fa : SemA} {σ : L2.St} {H : Hp} {Q : VK} (h : tE p (frz fa) σ H Q) : tL p fa σ H Q := by
  obtain ⟨F, ι, ρ, S, s, r, q⟩ := h
  refine ⟨F, ι, ρ, S, s, r, ?_⟩
  unfold frz at q
  cases e : fa ρ S with
  | ok x S1 =>
    rw [e] at q
    intro F1 ι1 v H1 x1 s1 rv
    obtain ⟨q', vs, rfl, h0, hq, hf, hi, rr⟩ := rv
    obtain ⟨x0, x2, s2⟩ := s1.freezeNew x1 h0 hq hf hi
    exact q _ _ _ _ x2 s2 (.lst upd_same (RelAll.mono0 x0 rr))
  | exc c fs S1 => rw [e] at q; exact q
  | stuck => rw [e] at q; exact q.elim
theorem tE_cell {p : Pl} {fa : SemA} {σ : L2.St} {H : Hp} {Q : VK} (h : tE p (cellL fa) σ H Q) : tL p fa σ H Q := by
  obtain ⟨F, ι, ρ, S, s, r, q⟩ := h
  refine ⟨F, ι, ρ, S, s, r, ?_⟩
  unfold cellL at q
  cases e : fa ρ S with
  | ok x S1 =>
    rw [e] at q
    simp only [Out.ok_bind] at q
    obtain ⟨hcl, q⟩ := ite_stuck q
    intro F1 ι1 v H1 x1 s1 rv
    obtain ⟨q', vs, rfl, h0, hq, hf, hi, rr⟩ := rv
    have xx : Ext F1 ι1 F1 (ι1 ++ [q']) := ⟨Same.refl _, List.prefix_append _ _⟩
    obtain ⟨x2, s2⟩ := s1.newCell x1 (c := .lst true x) h0 hi ⟨vs, hq, RelAll.mono0 xx rr, hf⟩ hcl
    exact q _ _ _ _ x2 s2 (.ref (by rw [← s1.len]; simp))
  | exc c fs S1 => rw [e] at q; exact q
  | stuck => rw [e] at q; exact q.elim
theorem xs_setLF {i : Nat} {y : Str} {py spos : Pos} (hc : X.calm = true) (hN : X.N.Nodup) (hy : X.N[i]? = some y) (hyl : X.env.scope.names.lookup y = some .local)
    (hsw : swapsWith (.ListComp elt [⟨tg, iter, ifs, 0⟩] scope pos) (some (.Name y py)) spos.line X.env = pure true := by rfl) (hi : XI X W tg iter fi) (ok : BlkOk X.N X.env.scope scope own) (hvs : ∀ i ∈ vs', i ∈ own.map (·.2))
    (hg : ∀ (s : Shared) (H : Hp) (C : Addr) (cl : List (Str × Addr)) (fp : List Addr), PGD (X.blk s H scope (compEnvC scope cl C X.env) fp) tg g vs') (ht : ∀ (s : Shared) (H : Hp) (C : Addr) (cl : List (Str × Addr)) (fp : List Addr), XTs (X.blk s H scope (compEnvC scope cl C X.env) fp) ifs t)
    (he : ∀ (s : Shared) (H : Hp) (C : Addr) (cl : List (Str × Addr)) (fp : List Addr), XE (X.blk s H scope (compEnvC scope cl C X.env) fp) WF elt e) (hs : ∀ x, foldedSetIterable iter X.env x = pure x := by intro _; rfl) :
    XS X W (.Assign [.Name y py] (.ListComp elt [⟨tg, iter, ifs, 0⟩] scope pos) spos) (sAsg i (frz (lComp fi g t e (own.map (·.2))))) := xs_setLc hc hN hy hyl hsw hi ok hvs hg ht he hs fun _ _ _ _ h => tE_frz h
theorem xs_setLM {i : Nat} {y : Str} {py spos : Pos} (hc : X.calm = true) (hN : X.N.Nodup) (hy : X.N[i]? = some y) (hyl : X.env.scope.names.lookup y = some .local)
    (hsw : swapsWith (.ListComp elt [⟨tg, iter, ifs, 0⟩] scope pos) (some (.Name y py)) spos.line X.env = pure true := by rfl) (hi : XI X W tg iter fi) (ok : BlkOk X.N X.env.scope scope own) (hvs : ∀ i ∈ vs', i ∈ own.map (·.2))
    (hg : ∀ (s : Shared) (H : Hp) (C : Addr) (cl : List (Str × Addr)) (fp : List Addr), PGD (X.blk s H scope (compEnvC scope cl C X.env) fp) tg g vs') (ht : ∀ (s : Shared) (H : Hp) (C : Addr) (cl : List (Str × Addr)) (fp : List Addr), XTs (X.blk s H scope (compEnvC scope cl C X.env) fp) ifs t)
    (he : ∀ (s : Shared) (H : Hp) (C : Addr) (cl : List (Str × Addr)) (fp : List Addr), XE (X.blk s H scope (compEnvC scope cl C X.env) fp) WF elt e) (hs : ∀ x, foldedSetIterable iter X.env x = pure x := by intro _; rfl) :
    XS X W (.Assign [.Name y py] (.ListComp elt [⟨tg, iter, ifs, 0⟩] scope pos) spos) (sAsg i (cellL (lComp fi g t e (own.map (·.2))))) := xs_setLc hc hN hy hyl hsw hi ok hvs hg ht he hs fun _ _ _ _ h => tE_cell h
end
end Fk
set_option Elab.async false
set_option linter.all false
set_option maxRecDepth 100000
namespace Fk
open PySem PySem.Spec PyProof.Rows L2
def isL (S : Store) (d : D) : Bool := match dr S d with
  | .lst _ => true
  | _ => false
def cellAt (S : Store) : D → Option (Nat × List D)
  | .ref n => match S[n]? with
    | some (.lst true xs) => some (n, xs)
    | _ => none
  | _ => none
theorem cellAt_eq {S : Store} {d : D} {n : Nat} {xs : List D} (h : cellAt S d = some (n, xs)) : d = .ref n ∧ S[n]? = some (.lst true xs) := by
  unfold cellAt at h
  split at h
  · split at h
    · next hc => cases h; exact ⟨rfl, hc⟩
    · cases h
  · cases h
theorem rel_ref {K : PySem.W.Frag} {F : Hp} {ι : List Addr} {v : V} {n : Nat} (h : Rel K F ι v (.ref n)) : ∃ a, v = .ref a ∧ ι[n]? = some a := by
  cases h with
  | ref e => exact ⟨_, rfl, e⟩
def appC (x y : D) (S : Store) : Out D := match cellAt S x with
  | some (n, xs) => if sz xs.length && closed n y then .ok .non (S.set n (.lst true (xs ++ [y]))) else .stuck
  | none => .stuck
def eApp (f g : SemE) : SemE := fun ρ S => (f ρ S).bind fun x S1 => if isL S1 x then (g ρ S1).bind fun y S2 => appC x y S2 else .stuck
def extC (x y : D) (S : Store) : Out D := match cellAt S x, dr S y with
  | some (n, xs), .lst ys => if sz (xs.length + ys.length) && closedA n ys then .ok .non (S.set n (.lst true (xs ++ ys))) else .stuck
  | _, _ => .stuck
def eExt (f g : SemE) : SemE := fun ρ S => (f ρ S).bind fun x S1 => if isL S1 x then (g ρ S1).bind fun y S2 => extC x y S2 else .stuck
def popC (x : D) (S : Store) : Out D := match cellAt S x with
  | some (n, xs) => match xs[xs.length - 1]? with
    | some y => .ok y (S.set n (.lst true xs.dropLast))
    | none => .stuck
  | none => .stuck
def ePop (f : SemE) : SemE := fun ρ S => (f ρ S).bind fun x S1 => popC x S1
section
variable {X : Cx} {W : WX} {o e : Expr} {f g : SemE} {apos cpos pos : Pos}
theorem isL_ty {mg : Str → Option Value} {K : PySem.W.Frag} {F : Hp} {ι : List Addr} {S : Store} {H : Hp} {v : V} {x : D} (s : Sim K mg F ι S H) (r : Rel K F ι v x) (h : isL S x = true) : tyV K "list" v H := by
  unfold isL at h
  split at h
  · next xs h1 =>
    obtain ⟨a, vs, rfl, e1, _⟩ := at_lst s r h1
    exact .inl ⟨rfl, vs, SqL.of e1⟩
  · cases h
theorem cell_isL {S : Store} {d : D} {n : Nat} {xs : List D} (h : cellAt S d = some (n, xs)) : isL S d = true := by
  obtain ⟨rfl, h2⟩ := cellAt_eq h
  unfold isL
  rw [dr_ref, h2]
  rfl
theorem xe_app (ho : XE X W o f) (he : XE X W e g) (hbase : attributeBase o "append" X.env (eval o X.env) = eval o X.env := by rfl)
    (hfew : ((backTo cpos (starEach [e] X.env)).all (fun x => !x.1) && (backToKw cpos (keywordEach [] X.env)).all (fun x => x.1.isSome) && decide ([e].length + ([] : List Keyword).length + (if ([] : List Keyword).isEmpty then 0 else 1) < 30)) = true := by rfl)
    (hline : (apos.endLine == cpos.line) = true := by rfl) (hs : starEach [e] X.env = (false, eval e X.env) :: starEach [] X.env := by rfl) (hpl : (backTo cpos (starEach [] X.env)).any (·.1) = false := by rfl) :
    XE X W (.Call (.Attribute o "append" apos) [e] [] cpos) (eApp f g) := by
  refine peI (pe_bm PySem.F.plainAttrs_list PySem.F.slot_list_append PySem.F.type_list_append mt_append ho (pa_cons he pa_nil hs) hbase hfew hline hs hpl) fun σ H Q h => ?_
  obtain ⟨F, ι, ρ, S, sm, r, q⟩ := h
  refine ⟨F, ι, ρ, S, sm, r, post_bind (R := RV' X.K) q fun x S1 F1 ι1 v H1 x1 s1 rv q1 => ?_⟩
  obtain ⟨hL, q1⟩ := ite_stuck q1
  refine ⟨isL_ty s1 rv hL, F1, ι1, ρ, S1, s1, r.mono x1, post_bind (R := RV' X.K) q1 fun y S2 F2 ι2 u H2 x2 s2 ru q2 => ?_⟩
  unfold appC at q2
  split at q2
  · next n xs hc =>
    obtain ⟨hz, q2⟩ := ite_stuck q2
    obtain ⟨rfl, hc2⟩ := cellAt_eq hc
    obtain ⟨a, rfl, ha⟩ := rel_ref (Rel.mono x2 rv)
    obtain ⟨vs, g1, g2, g3⟩ := s2.cell n a _ ha hc2
    obtain ⟨hz, hcl⟩ := Bool.and_eq_true_iff.mp hz
    refine ⟨a, vs, u, rfl, rfl, g1, by rw [g2.length]; exact sz_lt hz, ?_⟩
    obtain ⟨x3, s3⟩ := s2.write (c := .lst true (xs ++ [y])) (o := .lst (vs ++ [u])) ha g3 ⟨_, upd_same, g2.append (.cons ru .nil), g3⟩ (by
      have := s2.cl n _ hc2
      simp only [closedC] at this ⊢
      rw [closedA_append, this]
      simp [hcl])
    exact q2 F2 ι2 _ _ x3 s3 .non
  · exact q2.elim
theorem xe_pop (ho : XE X W o f) (hbase : attributeBase o "pop" X.env (eval o X.env) = eval o X.env := by rfl) (hline : (apos.endLine == cpos.line) = true := by rfl) : XE X W (.Call (.Attribute o "pop" apos) [] [] cpos) (ePop f) := by
  refine peI (pe_bm0 PySem.F.plainAttrs_list PySem.F.slot_list_pop PySem.F.type_list_pop mt_pop ho hbase hline) fun σ H Q h => ?_
  obtain ⟨F, ι, ρ, S, sm, r, q⟩ := h
  refine ⟨F, ι, ρ, S, sm, r, post_bind (R := RV' X.K) q fun x S1 F1 ι1 v H1 x1 s1 rv q1 => ?_⟩
  unfold popC at q1
  split at q1
  · next n xs hc =>
    split at q1
    · next y hy =>
      obtain ⟨rfl, hc2⟩ := cellAt_eq hc
      refine ⟨isL_ty s1 rv (cell_isL hc), ?_⟩
      obtain ⟨a, rfl, ha⟩ := rel_ref rv
      obtain ⟨vs, g1, g2, g3⟩ := s1.cell n a _ ha hc2
      obtain ⟨w, hw, rw'⟩ := g2.get hy
      refine ⟨a, vs, w, rfl, rfl, g1, by rw [g2.length]; exact hw, ?_⟩
      obtain ⟨x3, s3⟩ := s1.write (c := .lst true xs.dropLast) (o := .lst vs.dropLast) ha g3 ⟨_, upd_same, g2.dropLast, g3⟩ (by
        have := s1.cl n _ hc2
        simp only [closedC] at this ⊢
        exact closedA_mem.mpr fun z hz => closedA_mem.mp this z (List.dropLast_subset _ hz))
      exact q1 F1 ι1 _ _ x3 s3 rw'
    · exact q1.elim
  · exact q1.elim
/-- o[i] = e, o a list -/
def setC (x i y : D) (S : Store) : Option Store := match cellAt S x, i with
  | some (n, xs), .int k => if closed n y then (ixN xs.length k).map fun j => S.set n (.lst true (xs.set j y)) else none
  | _, _ => none
def sSetI (fo fi fe : SemE) : SemS := fun ρ S => toS (fe ρ S) ρ fun y S1 => toS (fo ρ S1) ρ fun x S2 => toS (fi ρ S2) ρ fun i S3 => match setC x i y S3 with
  | some S4 => .nx ρ S4
  | none => .stuck
theorem xs_setI {i : Expr} {fo fi fe : SemE} {pos' : Pos} (ho : XE X W o fo) (hi : XE X W i fi) (he : XE X W e fe)
    (ha : ∀ v, assign (.Subscript o i pos') X.env v = (do
      let ov ← holding [v] (eval o X.env)
      let iv ← holding [v, ov] (eval i X.env)
      standAt pos'
      holding [v, ov, iv] (setItem ov iv v)
      release [v, ov, iv] []) := by intro _; rfl)
    (hs : swapsWithSole [.Subscript o i pos'] e pos.line X.env = pure false := by rfl) (hw : swappedStores [.Subscript o i pos'] e X.env = pure none := by rfl)
    (h1 : (assignEach [.Subscript o i pos'] X.env).map (·.2) = [assign (.Subscript o i pos') X.env] := by rfl) : XS X W (.Assign [.Subscript o i pos'] e pos) (sSetI fo fi fe) := by
  refine psI (ps_asg he (pg_sub ho hi set_list ha) hs hw h1) fun Dn σ H hh => ?_
  obtain ⟨F, ι, ρ, S, s, r, q⟩ := hh
  refine ⟨F, ι, ρ, S, s, r, post_toS r q fun y S1 F1 ι1 v H1 x1 s1 rv q1 => ?_⟩
  refine ⟨F1, ι1, ρ, S1, s1, r.mono x1, post_toS (r.mono x1) q1 fun x S2 F2 ι2 u H2 x2 s2 ru q2 => ?_⟩
  refine ⟨F2, ι2, ρ, S2, s2, (r.mono x1).mono x2, post_toS ((r.mono x1).mono x2) q2 fun k S3 F3 ι3 w H3 x3 s3 rw' q3 => ?_⟩
  cases hz : setC x k y S3 with
  | none => rw [hz] at q3; exact q3.elim
  | some S4 =>
    rw [hz] at q3
    unfold setC at hz
    split at hz
    · next n xs k' hc =>
      have hcl : closed n y = true := by
        cases hq : closed n y with
        | true => rfl
        | false => rw [hq] at hz; cases hz
      rw [hcl, if_pos rfl] at hz
      obtain ⟨j, hj, rfl⟩ := Option.map_eq_some_iff.mp hz
      obtain ⟨rfl, hc2⟩ := cellAt_eq hc
      obtain ⟨a, rfl, ha'⟩ := rel_ref (Rel.mono x3 ru)
      cases rel_int rw'
      obtain ⟨vs, g1, g2, g3⟩ := s3.cell n a _ ha' hc2
      refine ⟨a, vs, k', j, rfl, rfl, g1, by rw [g2.length]; exact hj, ?_⟩
      obtain ⟨x4, s4⟩ := s3.write (c := .lst true (xs.set j y)) (o := .lst (vs.set j v)) ha' g3 ⟨_, upd_same, g2.set (Rel.mono (x2.trans x3) rv) j, g3⟩ (by
        have := s3.cl n _ hc2
        simp only [closedC] at this ⊢
        refine closedA_mem.mpr fun z hz => ?_
        rcases List.mem_or_eq_of_mem_set hz with hz | rfl
        · exact closedA_mem.mp this z hz
        · exact hcl)
      exact q3 F3 ι3 σ _ x4 s4 (((r.mono x1).mono x2).mono x3)
    · cases hz
def keyOf : D → Option Key
  | .int i => some (.inl i)
  | .str x => some (.inr x)
  | _ => none
theorem rel_key {K : PySem.W.Frag} {F : Hp} {ι : List Addr} {v : V} {d : D} {k : Key} (r : Rel K F ι v d) (h : keyOf d = some k) : v = kV k := by
  cases r <;> first | (cases h; rfl) | cases h
def lookD {κ : Type} [DecidableEq κ] (kds : List (κ × D)) (k : κ) : Option D := (kds.find? fun q => decide (q.1 = k)).map (·.2)
def putD {κ : Type} [DecidableEq κ] (kds : List (κ × D)) (k : κ) (d : D) : List (κ × D) :=
  if (kds.any fun q => decide (q.1 = k)) = true then kds.map (fun q => if q.1 = k then (q.1, d) else q) else kds ++ [(k, d)]
theorem RelKV.nil {κ : Type} {K : PySem.W.Frag} {F : Hp} {ι : List Addr} : RelKV (κ := κ) K F ι [] [] := ⟨rfl, .nil⟩
theorem RelKV.cons_inv {κ : Type} {K : PySem.W.Frag} {F : Hp} {ι : List Addr} {p : κ × V} {kvs : List (κ × V)} {kds : List (κ × D)} (h : RelKV K F ι (p :: kvs) kds) : ∃ d r, kds = (p.1, d) :: r ∧ Rel K F ι p.2 d ∧ RelKV K F ι kvs r := by
  obtain ⟨k, v⟩ := h
  cases kds with
  | nil => simp at k
  | cons q r =>
    simp only [List.map_cons, List.cons.injEq] at k v
    cases v with
    | cons h1 h2 => exact ⟨q.2, r, by rw [k.1], h1, ⟨k.2, h2⟩⟩
theorem rel_look {κ : Type} [DecidableEq κ] {K : PySem.W.Frag} {F : Hp} {ι : List Addr} {k : κ} : ∀ {kvs : List (κ × V)} {kds : List (κ × D)}, RelKV K F ι kvs kds →
    (∀ d, lookD kds k = some d → ∃ v, valV kvs k = some v ∧ Rel K F ι v d) ∧ (lookD kds k = none → valV kvs k = none)
  | [], kds, h => by
    have : kds = [] := by
      have := congrArg List.length h.ks
      simpa using this.symm
    subst this
    exact ⟨fun d e => by simp [lookD] at e, fun _ => rfl⟩
  | p :: kvs, kds, h => by
    obtain ⟨d, r, rfl, h1, h2⟩ := h.cons_inv
    obtain ⟨a, b⟩ := rel_look (k := k) h2
    unfold lookD valV at *
    by_cases hk : p.1 = k
    · simp only [List.find?_cons, hk, decide_true, Option.map_some]
      exact ⟨fun d' e => ⟨p.2, rfl, by cases e; exact h1⟩, fun e => by cases e⟩
    · simp only [List.find?_cons, hk, decide_false]
      exact ⟨a, b⟩
theorem rel_any {κ : Type} [DecidableEq κ] {K : PySem.W.Frag} {F : Hp} {ι : List Addr} (k : κ) : ∀ {kvs : List (κ × V)} {kds : List (κ × D)}, RelKV K F ι kvs kds → (kvs.any fun q => decide (q.1 = k)) = kds.any fun q => decide (q.1 = k)
  | [], kds, h => by
    have : kds = [] := by
      have := congrArg List.length h.ks
      simpa using this.symm
    subst this
    rfl
  | p :: kvs, kds, h => by
    obtain ⟨d, r, rfl, h1, h2⟩ := h.cons_inv
    simp only [List.any_cons, rel_any k h2]
theorem RelKV.cons {κ : Type} {K : PySem.W.Frag} {F : Hp} {ι : List Addr} {k : κ} {v : V} {d : D} {kvs : List (κ × V)} {kds : List (κ × D)} (r : Rel K F ι v d) (h : RelKV K F ι kvs kds) : RelKV K F ι ((k, v) :: kvs) ((k, d) :: kds) := ⟨by simp [h.ks], .cons r h.vs⟩
theorem RelKV.append {κ : Type} {K : PySem.W.Frag} {F : Hp} {ι : List Addr} {kvs kws : List (κ × V)} {kds kes : List (κ × D)} (h : RelKV K F ι kvs kds) (g : RelKV K F ι kws kes) : RelKV K F ι (kvs ++ kws) (kds ++ kes) := ⟨by simp [h.ks, g.ks], by
  rw [List.map_append, List.map_append]
  exact h.vs.append g.vs⟩
theorem rel_putmap {κ : Type} [DecidableEq κ] {K : PySem.W.Frag} {F : Hp} {ι : List Addr} {k : κ} {v : V} {d : D} (r : Rel K F ι v d) : ∀ {kvs : List (κ × V)} {kds : List (κ × D)}, RelKV K F ι kvs kds →
    RelKV K F ι (kvs.map (fun kv => if kv.1 = k then (kv.1, v) else kv)) (kds.map (fun q => if q.1 = k then (q.1, d) else q))
  | [], kds, h => by
    have : kds = [] := by
      have := congrArg List.length h.ks
      simpa using this.symm
    subst this
    exact .nil
  | p :: kvs, kds, h => by
    obtain ⟨d', r', rfl, h1, h2⟩ := h.cons_inv
    have ih := rel_putmap (k := k) r h2
    rw [List.map_cons, List.map_cons]
    by_cases hk : p.1 = k
    · rw [if_pos hk, if_pos hk]
      exact .cons r ih
    · rw [if_neg hk, if_neg hk]
      exact .cons (k := p.1) (v := p.2) h1 ih
theorem rel_put {κ : Type} [DecidableEq κ] {K : PySem.W.Frag} {F : Hp} {ι : List Addr} {k : κ} {v : V} {d : D} (r : Rel K F ι v d) {kvs : List (κ × V)} {kds : List (κ × D)} (h : RelKV K F ι kvs kds) : RelKV K F ι (putK kvs k v) (putD kds k d) := by
  unfold putK putD
  rw [rel_any k h]
  split
  · exact rel_putmap r h
  · exact h.append (.cons r .nil)
theorem closed_put {κ : Type} [DecidableEq κ] {n : Nat} {kds : List (κ × D)} {k : κ} {y : D} (h : closedV n kds = true) (hy : closed n y = true) : closedV n (putD kds k y) = true := by
  unfold closedV at h ⊢
  refine closedA_mem.mpr fun z hz => ?_
  obtain ⟨q, hq, rfl⟩ := List.mem_map.mp hz
  unfold putD at hq
  split at hq
  · obtain ⟨q', hq', rfl⟩ := List.mem_map.mp hq
    split
    · exact hy
    · exact closedA_mem.mp h _ (List.mem_map.mpr ⟨q', hq', rfl⟩)
  · rcases List.mem_append.mp hq with hq | hq
    · exact closedA_mem.mp h _ (List.mem_map.mpr ⟨q, hq, rfl⟩)
    · cases List.mem_singleton.mp hq
      exact hy
def opDget : D → D → Store → Option D := fun d e S => match dr S d, keyOf e with
  | .dct kds, some k => lookD kds k
  | _, _ => none
theorem xe_dget {i : Expr} (hu : X.A.units + 1 < cLine) (ho : XE X W o f) (hi : XE X W i g) (hs : NoSl i) : XE X W (.Subscript o i pos) (eBin opDget f g) := by
  refine peI (pe_dget hu ho hi hs) fun σ H Q h => ?_
  obtain ⟨F, ι, ρ, S, sm, r, q⟩ := h
  refine ⟨F, ι, ρ, S, sm, r, post_bind (R := RV' X.K) q fun x S1 F1 ι1 v H1 x1 s1 rv q1 => ?_⟩
  refine ⟨F1, ι1, ρ, S1, s1, r.mono x1, post_bind (R := RV' X.K) q1 fun y S2 F2 ι2 u H2 x2 s2 ru q2 => ?_⟩
  obtain ⟨z, hz, q3⟩ := post_lift q2
  unfold opDget at hz
  split at hz
  · next kds k h1 h2 =>
    obtain ⟨a, kvs, rfl, e1, e2⟩ := at_dct s2 (Rel.mono x2 rv) h1
    obtain ⟨w, hw, rw'⟩ := (rel_look e2).1 z hz
    cases rel_key ru h2
    exact ⟨a, w, rfl, by rw [← hw]; exact DGet.k e1, q3 F2 ι2 _ H2 (Step.refl _ _ _) s2 rw'⟩
  · cases hz
def dputC (x k y : D) (S : Store) : Option Store := match x, keyOf k with
  | .ref n, some k' => match S[n]? with
    | some (.dK kds) => if sz kds.length && closed n y then some (S.set n (.dK (putD kds k' y))) else none
    | _ => none
  | _, _ => none
def sDPut (fo fi fe : SemE) : SemS := fun ρ S => toS (fe ρ S) ρ fun y S1 => toS (fo ρ S1) ρ fun x S2 => toS (fi ρ S2) ρ fun i S3 => match dputC x i y S3 with
  | some S4 => .nx ρ S4
  | none => .stuck
theorem xs_dput {i : Expr} {fo fi fe : SemE} {pos' : Pos} (hu : X.A.units + 1 < cLine) (ho : XE X W o fo) (hi : XE X W i fi) (he : XE X W e fe) (hs : swapsWith e (some (.Subscript o i pos')) pos.line X.env = pure false := by rfl) :
    XS X W (.Assign [.Subscript o i pos'] e pos) (sDPut fo fi fe) := by
  refine psI (ps_dput hu ho hi he hs) fun Dn σ H hh => ?_
  obtain ⟨F, ι, ρ, S, s, r, q⟩ := hh
  refine ⟨F, ι, ρ, S, s, r, post_toS r q fun y S1 F1 ι1 v H1 x1 s1 rv q1 => ?_⟩
  refine ⟨F1, ι1, ρ, S1, s1, r.mono x1, post_toS (r.mono x1) q1 fun x S2 F2 ι2 u H2 x2 s2 ru q2 => ?_⟩
  refine ⟨F2, ι2, ρ, S2, s2, (r.mono x1).mono x2, post_toS ((r.mono x1).mono x2) q2 fun k S3 F3 ι3 w H3 x3 s3 rw' q3 => ?_⟩
  cases hz : dputC x k y S3 with
  | none => rw [hz] at q3; exact q3.elim
  | some S4 =>
    rw [hz] at q3
    unfold dputC at hz
    split at hz
    · next n k' hk =>
      split at hz
      · next kds hc =>
        split at hz
        · next hsz =>
          cases hz
          obtain ⟨a, rfl, ha'⟩ := rel_ref (Rel.mono x3 ru)
          cases rel_key rw' hk
          obtain ⟨kvs, g1, g2, g3⟩ := s3.cell n a _ ha' hc
          have hl : kvs.length = kds.length := by
            have := congrArg List.length g2.ks
            simpa using this
          obtain ⟨hsz, hcl⟩ := Bool.and_eq_true_iff.mp hsz
          refine ⟨a, _, rfl, DPut.k g1 (by rw [hl]; exact sz_lt hsz), ?_⟩
          obtain ⟨x4, s4⟩ := s3.write (c := .dK (putD kds k' y)) (o := .dK (putK kvs k' v)) ha' g3 ⟨_, upd_same, rel_put (Rel.mono (x2.trans x3) rv) g2, g3⟩ (closed_put (s3.cl n _ hc) hcl)
          exact q3 F3 ι3 σ _ x4 s4 (((r.mono x1).mono x2).mono x3)
        · cases hz
      · cases hz
    · cases hz
abbrev SemP := Env → Store → Out (List (Key × D))
def pNil : SemP := fun _ S => .ok [] S
def pCons (k : Key) (f : SemE) (g : SemP) : SemP := fun ρ S => (f ρ S).bind fun x S1 => (g ρ S1).bind fun xs S2 => .ok ((k, x) :: xs) S2
def mergeD (kds : List (Key × D)) : List (Key × D) := kds.foldl (fun acc q => putD acc q.1 q.2) []
def eDct (g : SemP) : SemE := fun ρ S => (g ρ S).bind fun kds S1 => if decide (kds.length ≤ 15) then .ok (.dct (mergeD kds)) S1 else .stuck
def eDctC (g : SemP) : SemE := fun ρ S => (g ρ S).bind fun kds S1 => if decide (kds.length ≤ 15) && closedV S1.length (mergeD kds) then .ok (.ref S1.length) (S1 ++ [.dK (mergeD kds)]) else .stuck
theorem rel_merge {K : PySem.W.Frag} {F : Hp} {ι : List Addr} : ∀ {kvs : List (Key × V)} {kds : List (Key × D)} {a : List (Key × V)} {b : List (Key × D)}, RelKV K F ι kvs kds → RelKV K F ι a b →
    RelKV K F ι (kvs.foldl (fun acc q => putK acc q.1 q.2) a) (kds.foldl (fun acc q => putD acc q.1 q.2) b)
  | [], kds, a, b, h, g => by
    have : kds = [] := by
      have := congrArg List.length h.ks
      simpa using this.symm
    subst this
    exact g
  | p :: kvs, kds, a, b, h, g => by
    obtain ⟨d', r', rfl, h1, h2⟩ := h.cons_inv
    show RelKV K F ι (kvs.foldl (fun acc q => putK acc q.1 q.2) (putK a p.1 p.2)) (r'.foldl (fun acc q => putD acc q.1 q.2) (putD b p.1 d'))
    exact rel_merge h2 (rel_put h1 g)
/-- the pairs of a display -/
structure XP (X : Cx) (W : WX) (pos : Pos) (keys : List (Option Expr)) (values : List Expr) (g : SemP) : Prop where
  pp : ∃ trs, PPs X pos keys values trs ∧ ∀ (σ : L2.St) (H : Hp) (F : Hp) (ι : List Addr) (ρ : Env) (S : Store) (Q : List (V × V) → Hp → Prop), Sim X.K X.mg F ι S H → REnv X.K F ι σ ρ →
    Post ⟨X.K, X.mg, W⟩ (fun _ F' ι' _ (ps : List (V × V)) (kds : List (Key × D)) => ∃ kvs : List (Key × V), ps = kvs.map (fun kv => (kV kv.1, kv.2)) ∧ RelKV X.K F' ι' kvs kds) F ι H σ (g ρ S) Q → tPairs trs σ H Q
theorem xp_nil : XP X W pos [] [] pNil := ⟨[], pps_nil, fun σ H F ι ρ S Q s r q => q F ι [] H (Step.refl _ _ _) s ⟨[], rfl, .nil⟩⟩
theorem xp_cons {k v : Expr} {ks : List (Option Expr)} {vs : List Expr} {key : Key} {gp : SemP} (hk : PE X k (tC (kV key))) (hv : XE X W v g) (hr : XP X W pos ks vs gp) : XP X W pos (some k :: ks) (v :: vs) (pCons key g gp) := by
  obtain ⟨trs, h1, h2⟩ := hr.pp
  refine ⟨_, pps_cons hk hv h1, fun σ H F ι ρ S Q s r q => ⟨F, ι, ρ, S, s, r, post_bind (R := RV' X.K) q (fun x S1 F1 ι1 v H1 x1 s1 rv q1 => ?_) (fun _ r => r)⟩⟩
  refine h2 σ H1 F1 ι1 ρ S1 _ s1 (r.mono x1) (post_bind (R := fun _ F' ι' _ (ps : List (V × V)) (kds : List (Key × D)) => ∃ kvs : List (Key × V), ps = kvs.map (fun kv => (kV kv.1, kv.2)) ∧ RelKV X.K F' ι' kvs kds) q1 (fun kds S2 F2 ι2 ps H2 x2 s2 rp q2 => ?_) (fun _ r => r))
  obtain ⟨kvs, rfl, rk⟩ := rp
  exact q2 F2 ι2 _ H2 (Step.refl _ _ _) s2 ⟨(key, v) :: kvs, rfl, .cons (Rel.mono x2 rv) rk⟩
theorem tE_dict {trs : List (TE × TE)} {gp : SemP} (hp : ∀ (σ : L2.St) (H : Hp) (F : Hp) (ι : List Addr) (ρ : Env) (S : Store) (Q : List (V × V) → Hp → Prop), Sim X.K X.mg F ι S H → REnv X.K F ι σ ρ →
    Post ⟨X.K, X.mg, W⟩ (fun _ F' ι' _ (ps : List (V × V)) (kds : List (Key × D)) => ∃ kvs : List (Key × V), ps = kvs.map (fun kv => (kV kv.1, kv.2)) ∧ RelKV X.K F' ι' kvs kds) F ι H σ (gp ρ S) Q → tPairs trs σ H Q)
    {σ : L2.St} {H : Hp} {Q : VK} {F : Hp} {ι : List Addr} {ρ : Env} {S : Store} (sm : Sim X.K X.mg F ι S H) (r : REnv X.K F ι σ ρ)
    (hz : ∀ kds S1, gp ρ S = .ok kds S1 → kds.length ≤ 15) (hx : ∀ c fs S1, gp ρ S ≠ .exc c fs S1) (hs : gp ρ S ≠ .stuck)
    (k : ∀ kds S1 F1 ι1 a H1 kvs, gp ρ S = .ok kds S1 → Step F ι H F1 ι1 H1 → Sim X.K X.mg F1 ι1 S1 H1 → H a = none → H1 a = some (.dK kvs) → F1 a = none → a ∉ ι1 → RelKV X.K F1 ι1 kvs (mergeD kds) → Q (.ref a) H1) : tDisp trs σ H Q := by
  intro a ha
  obtain ⟨x0, s0⟩ := sm.loose (o := .dK []) ha
  obtain ⟨hf, hi⟩ := sm.fresh ha
  refine hp σ _ F ι ρ S _ s0 r ?_
  cases e : gp ρ S with
  | exc c fs S1 => exact (hx _ _ _ e).elim
  | stuck => exact (hs e).elim
  | ok kds S1 =>
    intro F1 ι1 ps H1 x1 s1 rp
    obtain ⟨kvs, rfl, rk⟩ := rp
    obtain ⟨k1, k2, k3⟩ := x1.keep a _ upd_same hf hi trivial
    have hl : kvs.length = kds.length := by
      have := congrArg List.length rk.ks
      simpa using this
    refine ⟨k1, kvs, rfl, by rw [hl]; exact hz _ _ e, ?_⟩
    have x2 := x0.trans x1
    have hm : Sim X.K X.mg F1 ι1 S1 (upd H1 a (.dK (mergeK [] kvs))) := by
      refine ⟨fun b o e1 => ?_, s1.len, s1.nd, fun n b c hb hc => ?_, s1.cl, s1.tab.upd k1 trivial, s1.nt, tt_upd s1.tt (by intro _ z; cases z)⟩
      · rw [upd_ne (ne_of_none e1 k2)]
        exact s1.sub b o e1
      · exact (s1.cell n b c hb hc).mono (Ext.refl _ _) (fun z => z) fun o z => by
          rw [upd_ne (show b ≠ a from fun z2 => k3 (by rw [← z2]; exact List.mem_of_getElem? hb))]
          exact z
    refine k kds S1 F1 ι1 a _ (mergeK [] kvs) e ⟨x2.toExt, fun b o e1 e2 e3 e4 => ?_, fun b hb => x2.dom b (upd_dom hb)⟩ hm ha upd_same k2 k3 (rel_merge rk .nil)
    obtain ⟨z1, z2, z3⟩ := x2.keep b o e1 e2 e3 e4
    exact ⟨by rw [upd_ne (ne_of_none e1 ha)]; exact z1, z2, z3⟩
/-- only displays whose parts raise nothing -/
def noXP (g : SemP) : SemP := fun ρ S => noX (g ρ S)
theorem xe_dct {keys : List (Option Expr)} {values : List Expr} {gp : SemP} (h : XP X W pos keys values gp) (hall : keys.all (·.isSome) = true := by rfl) (hl : keys.length = values.length := by rfl) (h0 : keys ≠ [] := by intro z; cases z) (h15 : keys.length ≤ 15 := by decide) : XE X W (.Dict keys values pos) (eDct (noXP gp)) := by
  obtain ⟨trs, h1, h2⟩ := h.pp
  refine peI (pe_disp h1 hall hl h0 h15) fun σ H Q hh => ?_
  obtain ⟨F, ι, ρ, S, sm, r, q⟩ := hh
  unfold eDct noXP at q
  cases e : gp ρ S with
  | exc c fs S1 => rw [e] at q; exact q.elim
  | stuck => rw [e] at q; exact q.elim
  | ok kds S1 =>
    rw [e] at q
    simp only [noX_ok, Out.ok_bind] at q
    obtain ⟨hz, q⟩ := ite_stuck q
    refine tE_dict h2 sm r (fun _ _ e' => by rw [e] at e'; cases e'; exact of_decide_eq_true hz) (fun _ _ _ e' => by rw [e] at e'; cases e') (by rw [e]; intro z; cases z) fun kds' S1' F1 ι1 a H1 kvs e' x1 s1 ha h1 hf hi rk => ?_
    rw [e] at e'
    cases e'
    obtain ⟨x0, x2, s2⟩ := s1.freezeNew x1 ha h1 hf hi
    exact q _ _ _ _ x2 s2 (.dct upd_same rk.ks (RelAll.mono0 x0 rk.vs))
theorem xe_dctC {keys : List (Option Expr)} {values : List Expr} {gp : SemP} (h : XP X W pos keys values gp) (hall : keys.all (·.isSome) = true := by rfl) (hl : keys.length = values.length := by rfl) (h0 : keys ≠ [] := by intro z; cases z) (h15 : keys.length ≤ 15 := by decide) : XE X W (.Dict keys values pos) (eDctC (noXP gp)) := by
  obtain ⟨trs, h1, h2⟩ := h.pp
  refine peI (pe_disp h1 hall hl h0 h15) fun σ H Q hh => ?_
  obtain ⟨F, ι, ρ, S, sm, r, q⟩ := hh
  unfold eDctC noXP at q
  cases e : gp ρ S with
  | exc c fs S1 => rw [e] at q; exact q.elim
  | stuck => rw [e] at q; exact q.elim
  | ok kds S1 =>
    rw [e] at q
    simp only [noX_ok, Out.ok_bind] at q
    obtain ⟨hz, q⟩ := ite_stuck q
    refine tE_dict h2 sm r (fun _ _ e' => by rw [e] at e'; cases e'; exact of_decide_eq_true (Bool.and_eq_true_iff.mp hz).1) (fun _ _ _ e' => by rw [e] at e'; cases e') (by rw [e]; intro z; cases z) fun kds' S1' F1 ι1 a H1 kvs e' x1 s1 ha h1 hf hi rk => ?_
    rw [e] at e'
    cases e'
    have xx : Ext F1 ι1 F1 (ι1 ++ [a]) := ⟨Same.refl _, List.prefix_append _ _⟩
    obtain ⟨x2, s2⟩ := s1.newCell x1 (c := .dK (mergeD kds)) ha hi ⟨kvs, h1, rk.mono0 xx, hf⟩ (Bool.and_eq_true_iff.mp hz).2
    exact q _ _ _ _ x2 s2 (.ref (by rw [← s1.len]; simp))
/-- the empty one, frozen -/
theorem xe_dct0 : XE X W (.Dict [] [] pos) (eC (.dct [])) := by
  refine peI pe_dnewK fun σ H Q hh => ?_
  obtain ⟨F, ι, ρ, S, sm, r, q⟩ := hh
  intro a ha
  obtain ⟨x2, s2⟩ := sm.frozen (o := .dK []) ha
  exact q _ _ _ _ x2 s2 (.dct (kvs := []) upd_same rfl .nil)
end
end Fk
set_option Elab.async false
set_option linter.all false
set_option maxRecDepth 100000
namespace Fk
open PySem PySem.Spec PyProof.Rows L2
abbrev FSem := List D → Store → Out D
def startD (n : Nat) (ds : List D) : Env := ds.map some ++ List.replicate (n - ds.length) none
def endOf : OutS → Out D
  | .nx _ S => .ok .non S
  | .rt d S => .ok d S
  | .exc c fs _ S => .exc c fs S
  | _ => .stuck
def gc (n : Nat) : Out D → Out D
  | .ok d S => if closed n d then .ok d (S.take n) else .ok d S
  | .exc c fs S => if closedV n fs then .exc c fs (S.take n) else .exc c fs S
  | .stuck => .stuck
/-- a def of so many names, with this body -/
def fnD (n : Nat) (g : SemS) : FSem := fun ds S => gc S.length (endOf (g (startD n ds) S))
/-- its promise -/
def spD (K : PySem.W.Frag) (mg : Str → Option Value) (n : Nat) (fs : FSem) : Sp := fun vs H Q E =>
  ∃ F ι ds S, Sim K mg F ι S H ∧ RelAll K F ι vs ds ∧ ds.length = n ∧ Post ⟨K, mg, fun c d _ H => E c d H⟩ (RV' K) F ι H [] (fs ds S) Q
/-- a def that keeps its promise where no repr is under way -/
structure FnG (P : Program) (w : World) (K : PySem.W.Frag) (mg : Str → Option Value) (base : Heap) (k : Nat) (f : Addr) (fd : FuncData) (ps : List Str) (sp : Sp) : Prop where
  len : ∀ vs H Q E, sp vs H Q E → vs.length = ps.length
  run : ∀ (A : Around) (outer : List PySem.Env) (s : Shared) (H : Hp) (args : Args) (us : List Value) (vs : List V) (Q : VK) (E : XK), A.guards = some [] → Room k A → Env0 P w K mg base A outer s H → BindsTo s fd args (ps.zip us) → Vals vs us → sp vs H Q E →
    codeAny (model P w) A (.call (.ref f) args) (CR (L2N.CX P w) outer P w H s Q E) s
theorem FnG.mono {P : Program} {w : World} {K : PySem.W.Frag} {mg : Str → Option Value} {base : Heap} {j k : Nat} {f : Addr} {fd : FuncData} {ps : List Str} {sp : Sp} (F : FnG P w K mg base j f fd ps sp) (h : j ≤ k) : FnG P w K mg base k f fd ps sp :=
  ⟨F.len, fun A outer s H args us vs Q E hg hr => F.run A outer s H args us vs Q E hg (hr.mono h)⟩
section
variable {P : Program} {w : World} {K : PySem.W.Frag} {mg : Str → Option Value} {base : Heap} {x qual : Str} {params : Arguments} {body : List Stmt} {scope : Scope} {dvs : List V} {kws : List (Str × V)} {f : Addr} {fd : FuncData}
/-- from a def's body to its promise -/
theorem fnG_of {N ps : List Str} {k : Nat} {sp : Sp} (F : FunD K x qual params body scope dvs kws f fd) (S : FnScope N ps scope) (len : ∀ vs H Q E, sp vs H Q E → vs.length = ps.length)
    (hb : ∀ (cdv : Value) (A : Around) (outer : List PySem.Env) (s : Shared) (H : Hp) (vs : List V) (Q : VK) (E : XK), codeOf K f = some cdv → A.guards = some [] → Room k (A.deeper (envOfC qual scope s.heap.objs.size f cdv)) → sp vs H Q E →
      ∃ t, PSs (cxOf (L2N.CX P w) P w K mg base N qual scope f cdv A outer s H E) body t ∧ t { nx := fun _ H' => Q .non H', rt := Q } (start N vs) H) : FnG P w K mg base (k + 1) f fd ps sp := by
  obtain ⟨oc, od, dV, kV, doc, pm, an, cdv, ct, osl, rfl, lk, hcd, _, _⟩ := F.ex
  refine ⟨len, fun A outer s H args us vs Q E hg hr e0 hbi r hsp => ?_⟩
  have kin : K.In s.heap := e0.mod.kin.keeps fun b o e => (e0.bs b o e).1
  have free : s.heap.NoLimit := e0.mod.nolimit.keeps fun b o e => (e0.bs b o e).1
  have hkind : ∀ y ∈ ps.zip us, scope.names.lookup y.1 = some .local ∨ (scope.names.lookup y.1 = some .cell ∧ ((cellsFrom (s.heap.objs.size + 1) scope.names []).lookup y.1).isSome = true) := by
    rintro ⟨n, v⟩ hy
    rcases S.par n (List.of_mem_zip hy).1 with q | q
    · exact .inl q
    · exact .inr ⟨q, PySem.W.cellsFrom_some _ _ _ (.inl q)⟩
  refine codeAny_call_function hr.depth (kin _ _ lk) rfl S.co S.gen rfl (PySem.W.codeRec_of kin hcd) (hbi _ _ _ _ ?_)
  refine wpAny_newFunctionEnv_cells S.kind hkind fun env he s1 ic => ?_
  subst he
  refine ⟨free.keeps ic.toInCall.keep, codeAny_func ?_⟩
  obtain ⟨t, ht, hq⟩ := hb cdv A outer s H vs Q E (by unfold codeOf; rw [lk] <;> rfl) hg (hr.deeper _) hsp
  have I := inv_start (CX := L2N.CX P w) (E := E) S hr.hd e0 (len _ _ _ _ hsp) r ic
  refine wpAny_mono (ht.run [] s1 (start N vs) H _ I hq) (fun fl s' hs => ?_) fun e s' hs => hs
  cases fl with
  | ret u =>
    obtain ⟨v, σ', H', J, rv, q⟩ := hs
    exact ⟨v, H', J.os, J.bare, J.base, J.hok, rv, q⟩
  | next =>
    obtain ⟨σ', H', J, q⟩ := hs
    exact ⟨.non, H', J.os, J.bare, J.base, J.hok, rfl, q⟩
  | brk => obtain ⟨_, _, _, q⟩ := hs; exact False.elim q
  | cont => obtain ⟨_, _, _, q⟩ := hs; exact False.elim q
theorem REnv.start {F : Hp} {ι : List Addr} {vs : List V} {ds : List D} (r : RelAll K F ι vs ds) (N : List Str) : REnv K F ι (start N vs) (startD N.length ds) := by
  unfold L2.start startD
  refine ⟨by simp [r.length], fun i d h => ?_⟩
  by_cases hi : i < ds.length
  · rw [List.getElem?_append_left (by simpa using hi), List.getElem?_map] at h
    rw [List.getElem?_append_left (by simpa [r.length] using hi), List.getElem?_map]
    obtain ⟨d', h1, h2⟩ := Option.map_eq_some_iff.mp h
    cases h2
    obtain ⟨v, hv, rv⟩ := r.get h1
    exact ⟨v, by rw [hv]; rfl, rv⟩
  · rw [List.getElem?_append_right (by simpa using hi), List.getElem?_replicate] at h
    split at h <;> cases h
/-- at a return the cells of the def are let go -/
theorem Sim.back {F F' H H' : Hp} {ι ι' : List Addr} {S S' : Store} (s : Sim K mg F ι S H) (x : Step F ι H F' ι' H') (s' : Sim K mg F' ι' S' H') : Step F ι H F' ι H' ∧ Sim K mg F' ι (S'.take S.length) H' ∧ ι = ι'.take S.length := by
  have e : ι = ι'.take S.length := by
    obtain ⟨t, rfl⟩ := x.pre
    rw [← s.len, List.take_left']
    rfl
  have hle : S.length ≤ ι'.length := by
    obtain ⟨t, rfl⟩ := x.pre
    rw [← s.len, List.length_append]
    exact Nat.le_add_right _ _
  have hl : S.length ≤ S'.length := by rw [← s'.len]; exact hle
  refine ⟨⟨⟨x.same, List.prefix_rfl⟩, fun b o e1 e2 e3 e4 => let ⟨k1, k2, _⟩ := x.keep b o e1 e2 e3 e4; ⟨k1, k2, e3⟩, x.dom⟩, ⟨s'.sub, by rw [s.len, List.length_take]; omega, s.nd, fun n a c ha hc => ?_, fun n c hc => ?_, s'.tab, s'.nt, s'.tt⟩, e⟩
  · have hn : n < S.length := by rw [← s.len]; exact (List.getElem?_eq_some_iff.mp ha).1
    rw [List.getElem?_take_of_lt hn] at hc
    have ha' : ι'[n]? = some a := by
      rw [e, List.getElem?_take_of_lt hn] at ha
      exact ha
    have ok := s'.cell n a c ha' hc
    have hcl := s'.cl n c hc
    have mono : ∀ {vs : List V} {ds : List D}, RelAll K F' ι' vs ds → closedA n ds = true → RelAll K F' ι vs ds := fun {vs ds} r q => by
      rw [e]
      exact r.back hle (closedA_mem.mpr fun z hz => by
        have := closedA_mem.mp q z hz
        exact closed_mono (by omega) this)
    cases c with
    | lst b ds =>
      cases b with
      | true => obtain ⟨vs, h, r, f⟩ := ok; exact ⟨vs, h, mono r hcl, f⟩
      | false => obtain ⟨vs, h, r⟩ := ok; exact ⟨vs, h, mono r hcl⟩
    | dK kds => obtain ⟨vs, h, r, f⟩ := ok; exact ⟨vs, h, ⟨r.ks, mono r.vs hcl⟩, f⟩
    | dT kds => obtain ⟨vs, h, r, f⟩ := ok; exact ⟨vs, h, ⟨r.ks, mono r.vs hcl⟩, f⟩
    | ins c fs => obtain ⟨C, dx, fv, m, h, r, f⟩ := ok; exact ⟨C, dx, fv, m, h, ⟨r.ks, mono r.vs hcl⟩, f⟩
    | fT kds => obtain ⟨o, kvs, h, r⟩ := ok; exact ⟨o, kvs, h, ⟨r.ks, mono r.vs hcl⟩⟩
    | fK kds => obtain ⟨o, kvs, h, r⟩ := ok; exact ⟨o, kvs, h, ⟨r.ks, mono r.vs hcl⟩⟩
  · by_cases hn : n < S.length
    · rw [List.getElem?_take_of_lt hn] at hc
      exact s'.cl n c hc
    · rw [List.getElem?_eq_none (by rw [List.length_take]; omega)] at hc
      cases hc
theorem gcP {Q : VK} {F1 H : Hp} {ι : List Addr} {E : XK} {n : Nat} {d : D} {S' : Store} (q : Post ⟨K, mg, fun c d _ H => E c d H⟩ (RV' K) F1 ι H [] (gc n (.ok d S')) Q) :
    if closed n d then Post ⟨K, mg, fun c d _ H => E c d H⟩ (RV' K) F1 ι H [] (.ok d (S'.take n)) Q else Post ⟨K, mg, fun c d _ H => E c d H⟩ (RV' K) F1 ι H [] (.ok d S') Q := by
  by_cases h : closed n d = true
  · rw [if_pos h]; simpa only [gc, if_pos h] using q
  · rw [if_neg h]; simpa only [gc, if_neg h] using q
theorem gcX {Q : VK} {F1 H : Hp} {ι : List Addr} {E : XK} {n : Nat} {c : Str} {fs : List (Str × D)} {S' : Store} (q : Post ⟨K, mg, fun c d _ H => E c d H⟩ (RV' K) F1 ι H [] (gc n (.exc c fs S')) Q) :
    if closedV n fs then Post ⟨K, mg, fun c d _ H => E c d H⟩ (RV' K) F1 ι H [] (.exc c fs (S'.take n)) Q else Post ⟨K, mg, fun c d _ H => E c d H⟩ (RV' K) F1 ι H [] (.exc c fs S') Q := by
  by_cases h : closedV n fs = true
  · rw [if_pos h]; simpa only [gc, if_pos h] using q
  · rw [if_neg h]; simpa only [gc, if_neg h] using q
/-- THE RULE for a def: its body as it is read by this layer -/
theorem fn_okC {N ps : List Str} {k : Nat} {g : SemS} (F : FunD K x qual params body scope dvs kws f fd) (S : FnScope N ps scope)
    (hb : ∀ (cdv : Value) (A : Around) (outer : List PySem.Env) (s : Shared) (H : Hp) (E : XK), codeOf K f = some cdv → A.guards = some [] → Room k (A.deeper (envOfC qual scope s.heap.objs.size f cdv)) →
      XSs (cxOf (L2N.CX P w) P w K mg base N qual scope f cdv A outer s H E) (fun c d _ H => E c d H) body g) : FnG P w K mg base (k + 1) f fd ps (spD K mg ps.length (fnD N.length g)) := by
  refine fnG_of F S (fun vs H Q E ⟨F, ι, ds, S, s, r, hl, _⟩ => by rw [r.length]; exact hl) fun cdv A outer s H vs Q E hcc hg hr hsp => ⟨_, hb cdv A outer s H E hcc hg hr, ?_⟩
  obtain ⟨F1, ι, ds, St, sm, r, hl, q⟩ := hsp
  refine ⟨F1, ι, startD N.length ds, St, sm, REnv.start r N, ?_⟩
  unfold fnD at q
  have fin : ∀ d S', Post ⟨K, mg, fun c d _ H => E c d H⟩ (RV' K) F1 ι H [] (gc St.length (.ok d S')) Q → ∀ F' ι' v H', Step F1 ι H F' ι' H' → Sim K mg F' ι' S' H' → Rel K F' ι' v d → Q v H' := fun d S' q F' ι' v H' x s' rv => by
    have q := gcP q
    split at q
    · next hc =>
      obtain ⟨x2, s2, e2⟩ := sm.back x s'
      have hle : St.length ≤ ι'.length := by
        obtain ⟨t, rfl⟩ := x.pre
        rw [← sm.len, List.length_append]
        exact Nat.le_add_right _ _
      exact q F' ι v H' x2 s2 (by
        show Rel K F' ι v d
        rw [e2]
        exact rv.back hle hc)
    · exact q F' ι' v H' x s' rv
  cases e : g (startD N.length ds) St with
  | nx ρ S' => rw [e] at q; exact fun F' ι' σ' H' x s' _ => fin .non S' q F' ι' .non H' x s' .non
  | rt d S' => rw [e] at q; exact fin d S' q
  | bk ρ S' => rw [e] at q; exact q.elim
  | ct ρ S' => rw [e] at q; exact q.elim
  | stuck => rw [e] at q; exact q.elim
  | exc c fs ρ S' =>
    rw [e] at q
    intro F' ι' C d σ' H' x s' _ hm xd
    have q : Post ⟨K, mg, fun c d _ H => E c d H⟩ (RV' K) F1 ι H [] (gc St.length (.exc c fs S')) Q := q
    have q := gcX q
    split at q
    · next hc =>
      obtain ⟨x2, s2, e2⟩ := sm.back x s'
      have hle : St.length ≤ ι'.length := by
        obtain ⟨t, rfl⟩ := x.pre
        rw [← sm.len, List.length_append]
        exact Nat.le_add_right _ _
      refine q F' ι C d H' x2 s2 hm ?_
      rcases xd with xd | ⟨h1, dx, fv, h2, h0, hF, hi, h3, h4⟩
      · exact .inl xd
      · exact .inr ⟨h1, dx, fv, h2, h0, hF, fun z => hi (by rw [e2] at z; exact List.mem_of_mem_take z), h3, ⟨h4.ks, by
          rw [e2]
          exact h4.vs.back hle hc⟩⟩
    · exact q F' ι' C d H' x s' hm xd
theorem fn_ok {N ps : List Str} {k : Nat} {g : SemS} (F : FunD K x qual params body scope dvs kws f fd) (S : FnScope N ps scope)
    (hb : ∀ (cdv : Value) (A : Around) (outer : List PySem.Env) (s : Shared) (H : Hp) (E : XK), A.guards = some [] → Room k (A.deeper (envOfC qual scope s.heap.objs.size f cdv)) →
      XSs (cxOf (L2N.CX P w) P w K mg base N qual scope f cdv A outer s H E) (fun c d _ H => E c d H) body g) : FnG P w K mg base (k + 1) f fd ps (spD K mg ps.length (fnD N.length g)) :=
  fn_okC F S fun cdv A outer s H E _ => hb cdv A outer s H E
end
def eCall (fs : FSem) (dd : List D) (fa : SemA) : SemE := fun ρ S => (fa ρ S).bind fun ds S1 => fs (ds ++ dd) S1
section
variable {X : Cx} {W : WX} {k : Nat} {f : Addr} {fd : FuncData} {ps : List Str} {fs : FSem} {dvs : List V} {ds : List Value} {dd : List D} {x : Str} {p pos : Pos} {e : Expr} {es : List Expr} {fa : SemA}
theorem xe_call (F : FnG X.prog X.w X.K X.mg X.base k f fd ps (spD X.K X.mg ps.length fs)) (hG : X.A.guards = some []) (hr : Room k X.A) (hg : Gl X x) (hm : X.mg x = some (.ref f)) (hk : PySem.W.keepIn X.K (.ref f) = true) (hb : Binds X.K fd ps ds) (hd : Vals dvs ds)
    (hD : ∀ K F ι, RelAll K F ι dvs dd) (tk : L2N.Takes X W) (ha : XA X W (e :: es) fa) (hl : (e :: es).length + dd.length = ps.length := by rfl) (hlen : ∀ ρ S xs S', fa ρ S = .ok xs S' → xs.length = (e :: es).length) (hdb : (x == ("__debug__" : Str)) = false := by decide)
    (he : starEach (e :: es) X.env = (false, eval e X.env) :: starEach es X.env := by rfl) (hpl : (backTo pos (starEach es X.env)).any (·.1) = false := by rfl) : XE X W (.Call (.Name x p) (e :: es) [] pos) (eCall fs dd fa) := by
  refine ⟨fun pins s σ H Q I h => ?_⟩
  refine wpAny_Call_Name_kw (ld_glob I hg hm ?_ hdb)
  obtain ⟨F0, ι0, ρ, S, sm, r, q⟩ := h
  have key : tA ⟨X.K, X.mg, W⟩ fa σ H fun vs H1 => spD X.K X.mg ps.length fs (vs ++ dvs) H1 Q fun c d H' => W c d σ H' := by
    refine ⟨F0, ι0, ρ, S, sm, r, ?_⟩
    unfold eCall at q
    cases ex : fa ρ S with
    | exc c fl S1 => rw [ex] at q; exact q
    | stuck => rw [ex] at q; exact q.elim
    | ok xs S1 =>
      rw [ex] at q
      intro F1 ι1 vs H1 x1 s1 rv
      have q1 := Post.ext x1 q stV
      simp only [Out.ok_bind] at q1
      refine ⟨F1, ι1, xs ++ dd, S1, s1, RelAll.append rv (hD _ _ _), by rw [List.length_append, hlen _ _ _ _ ex]; exact hl, ?_⟩
      cases eo : fs (xs ++ dd) S1 with
      | ok d S2 => rw [eo] at q1; exact q1
      | exc c fl S2 => rw [eo] at q1; exact q1
      | stuck => rw [eo] at q1; exact q1.elim
  refine PySem.W.callWith_K (h₀ := X.base) I.ok.mod.kin hk (thn (ha.run pos pins s σ H _ I key) fun us s1 ⟨vs, H1, I1, rv, q1⟩ => ⟨I1.kIn, ?_⟩) he hpl
  have r2 : Vals (vs ++ dvs) (us ++ ds) := rv.append hd
  have hl2 : (us ++ ds).length = ps.length := by rw [← r2.length]; exact F.len _ _ _ _ q1
  refine wpAny_call (codeAny_mono (F.run X.A X.stack s1 H1 ⟨us, []⟩ (us ++ ds) (vs ++ dvs) Q _ hG hr I1.env0 (hb s1 us I1.kIn hl2) r2 q1) fun r s' hq => ?_)
  cases r with
  | error ev => exact tk _ _ (L2N.XE.of_call I1 (fun _ _ _ h => h) hq)
  | ok fl =>
    cases fl with
    | ret u => exact I1.after hq
    | next => exact False.elim hq
    | brk => exact False.elim hq
    | cont => exact False.elim hq
theorem alen_nil : ∀ ρ S xs S', aNil ρ S = .ok xs S' → xs.length = 0 := fun _ _ _ _ h => by cases h; rfl
theorem alen_cons {g : SemE} {n : Nat} (h : ∀ ρ S xs S', fa ρ S = .ok xs S' → xs.length = n) : ∀ ρ S xs S', aCons g fa ρ S = .ok xs S' → xs.length = n + 1 := fun ρ S xs S' hh => by
  unfold aCons at hh
  cases e1 : g ρ S with
  | ok d S1 =>
    rw [e1] at hh
    simp only [Out.ok_bind] at hh
    cases e2 : fa ρ S1 with
    | ok ds S2 =>
      rw [e2] at hh
      cases hh
      rw [List.length_cons, h _ _ _ _ e2]
    | exc c fl S2 => rw [e2] at hh; cases hh
    | stuck => rw [e2] at hh; cases hh
  | exc c fl S1 => rw [e1] at hh; cases hh
  | stuck => rw [e1] at hh; cases hh
end
end Fk
set_option Elab.async false
set_option linter.all false
set_option maxRecDepth 100000
namespace Fk
open PySem PySem.Spec PyProof.Rows L2
section
variable {X : Cx} {W : WX} {e : Expr} {f g : SemE}
def fzC (n : Nat) (S : Store) : Option Cell → Out D
  | some (.lst true xs) => .ok (.lst xs) (S.set n (.lst false xs))
  | some (.lst false xs) => .ok (.lst xs) S
  | _ => .stuck
def fzO : D → Store → Out D
  | .ref n, S => fzC n S S[n]?
  | d, S => .ok d S
def eFz (f : SemE) : SemE := fun ρ S => (f ρ S).bind fzO
end
structure CxE (X : Cx) (W : WX) (k : Nat) : Prop where
  nd : X.N.Nodup
  calm : X.calm = true
  g : X.A.guards = some []
  room : Room k X.A
  tk : L2N.Takes X W
  sm : SM X
theorem takes_F {X : Cx} : L2N.Takes X WF := fun u s' ⟨a, B, sI, pins, σ, H, cls, d, e, I, nb, up, sky, na, os, ag, w⟩ => w.elim
theorem CxE.blk {X : Cx} {W : WX} {k : Nat} (c : CxE X W k) (s : Shared) (H : Hp) (scope : Scope) (cenv : PySem.Env) (fp : List Addr) : CxE (X.blk s H scope cenv fp) WF k := ⟨c.nd, c.calm, c.g, c.room, takes_F, c.sm⟩
theorem CxE.u64 {X : Cx} {W : WX} {k : Nat} (c : CxE X W k) : X.A.units + 64 < cLine := by have := c.room.un; omega
theorem CxE.u65 {X : Cx} {W : WX} {k : Nat} (c : CxE X W k) : X.A.units + 65 < cLine := by have := c.room.un; omega
theorem CxE.u1 {X : Cx} {W : WX} {k : Nat} (c : CxE X W k) : X.A.units + 1 < cLine := by have := c.room.un; omega
section
variable {P : Program} {w : World} {K : PySem.W.Frag} {mg : Str → Option Value} {base : Heap} {N : List Str} {qual : Str} {scope : Scope} {f : Addr} {cdv : Value} {A : Around} {outer : List PySem.Env} {s : Shared} {H : Hp} {E : XK} {k : Nat}
theorem cxe_of (hN : N.Nodup) (hg : A.guards = some []) (hr : Room k (A.deeper (envOfC qual scope s.heap.objs.size f cdv))) (hb : ∃ o, base.get? sysModules = some o ∧ o.cls ≠ .type "list") :
    CxE (cxOf (L2N.CX P w) P w K mg base N qual scope f cdv A outer s H E) (fun c d _ H => E c d H) k := ⟨hN, rfl, hg, hr, L2N.takes_of rfl rfl rfl rfl, hb⟩
theorem own_of : PassesOwn (model P w) (A.deeper (envOfC qual scope s.heap.objs.size f cdv)) (envOfC qual scope s.heap.objs.size f cdv) (cxOf (L2N.CX P w) P w K mg base N qual scope f cdv A outer s H E).xe := passes_of (X := cxOf (L2N.CX P w) P w K mg base N qual scope f cdv A outer s H E) rfl
end
structure Fn (P : Program) (w : World) (K : PySem.W.Frag) (mg : Str → Option Value) (base : Heap) (k : Nat) (x : Str) (ps : List Str) (dd : List D) (fs : FSem) : Prop where
  ex : ∃ (f : Addr) (fd : FuncData) (dvs : List V) (ds : List Value), mg x = some (.ref f) ∧ PySem.W.keepIn K (.ref f) = true ∧ FnG P w K mg base k f fd ps (spD K mg ps.length fs) ∧ Binds K fd ps ds ∧ Vals dvs ds ∧ ∀ K F ι, RelAll K F ι dvs dd
section
variable {X : Cx} {W : WX} {j k : Nat} {ps : List Str} {fs : FSem} {dd : List D} {x : Str} {p pos : Pos} {e : Expr} {es : List Expr} {fa : SemA}
theorem xe_fn (F : Fn X.prog X.w X.K X.mg X.base j x ps dd fs) (c : CxE X W k) (hj : j ≤ k) (hg : Gl X x) (ha : XA X W (e :: es) fa) (hlen : ∀ ρ S xs S', fa ρ S = .ok xs S' → xs.length = (e :: es).length) (hl : (e :: es).length + dd.length = ps.length := by rfl) (hdb : (x == ("__debug__" : Str)) = false := by decide)
    (he : starEach (e :: es) X.env = (false, eval e X.env) :: starEach es X.env := by rfl) (hpl : (backTo pos (starEach es X.env)).any (·.1) = false := by rfl) : XE X W (.Call (.Name x p) (e :: es) [] pos) (eCall fs dd fa) := by
  obtain ⟨f, fd, dvs, ds, hm, hk, hF, hb, hv, hd⟩ := F.ex
  exact xe_call (hF.mono hj) c.g c.room hg hm hk hb hv hd c.tk ha hl hlen hdb he hpl
end
section
variable {P : Program} {w : World} {K : PySem.W.Frag} {mg : Str → Option Value} {base : Heap} {x qual : Str} {params : Arguments} {body : List Stmt} {scope : Scope} {kws : List (Str × V)} {f : Addr} {fd : FuncData} {ps : List Str} {k : Nat} {fs : FSem}
theorem Fn.all (F : FunD K x qual params body scope [] kws f fd) (hm : mg x = some (.ref f)) (G : FnG P w K mg base k f fd ps (spD K mg ps.length fs))
    (h : ∀ (kV doc pm : Value) (an : Option Addr) (cdv ct : Value) (us : List Value), us.length = ps.length → bindArgs (PySem.W.fnOf x qual params body scope .none kV doc pm an cdv ct) ⟨us, []⟩ = pure (ps.zip us)) : Fn P w K mg base k x ps [] fs :=
  ⟨f, fd, [], [], hm, F.kp, G, F.bindsN h, .nil, fun _ _ _ => .nil⟩
end
/-- at the law's call: the script, perhaps; the empty tables; nothing else -/
structure Begin (K : PySem.W.Frag) (h : Heap) (cs : List (Addr × Addr)) (a : Addr) (H : Hp) : Prop where
  all : ∀ b u, H b = some u → (b ∈ cs.map Prod.snd ∧ u = .tbl #[]) ∨ (b = a ∧ b ∉ cs.map Prod.snd ∧ K.lookup b = none ∧ ∃ o xs, u = .frz o (.lst xs))
  tb : ∀ b ∈ cs.map Prod.snd, H b = some (.tbl #[])
abbrev tabO : Obj := { cls := .none, data := .fields #[] }
theorem law_callG {P : Program} {w : World} {K : PySem.W.Frag} {mg mb : Str → Option Value} {k : Nat} {fa a : Addr} {fd : FuncData} {x : Str} {sp : Sp} {s₁ : Shared} {vs : List Value} {ns : List Int} {cs : List (Addr × Addr)}
    (KX : K.In s₁.heap) (hns : s₁.heap.Ns mainGlobals mg) (hb : s₁.heap.Ns builtinsNs mb) (hbb : ∀ x : Str, x ≠ "__name__" → mb x = bootBuiltins x) (hlim : s₁.heap.NoLimit) (hg : s₁.gens = #[])
    (ht : ∀ p ∈ cs, s₁.heap.get? p.2 = some tabO) (hnt : ∀ p ∈ cs, K.lookup p.2 = none) (hcd : ∀ p ∈ cs, PySem.W.CodeHd s₁.heap p.1 p.2)
    (hbm : ∃ (m : Addr) (om : Obj), mg "__builtins__" = some (.ref m) ∧ m ≠ builtinsNs ∧ s₁.heap.get? m = some om ∧ om.cls = .type "module" ∧ om.dict = some builtinsNs ∧ om.data = .plain)
    (ha : s₁.heap.get? a = some { cls := .type "list", data := .seq vs.toArray }) (hi : IntsAre vs ns) (hl : ns.length ≤ sizeLine) (hr : Room k callerA)
    (F : ∀ base : Heap, K.In base → base.Ns mainGlobals mg → (∀ p ∈ cs, LamX.TabB base mg p.1 p.2) → FnG P w K mg base k fa fd [x] sp) (hbind : ∀ (s : Shared) (u : Value), BindsTo s fd ⟨[u], []⟩ [(x, u)])
    (hsp : ∀ H : Hp, Begin K s₁.heap cs a H → SqL K H a (ns.map V.int) → sp [.ref a] H (fun v _ => v = .bl true) fun _ _ _ => False) :
    codeAny (model P w) callerA (.call (.ref fa) ⟨[.ref a], []⟩) (fun r s' => r = .ok (.ret (.bool true)) ∧ OldK s₁.heap s'.heap ∧ s'.os = s₁.os ∧ AllBare s'.gens) s₁ := by
  have rv := vals_ints hi
  have hT : ∀ b ∈ cs.map Prod.snd, s₁.heap.get? b = some tabO ∧ K.lookup b = none := fun b z => by
    obtain ⟨p, hp, rfl⟩ := List.mem_map.mp z
    exact ⟨ht p hp, hnt p hp⟩
  have naT : a ∉ cs.map Prod.snd := fun z => by
    have q := ha.symm.trans (hT a z).1
    injection q with q
    injection q with _ _ q _
    cases q
  have inT : ∀ p ∈ cs, p.2 ∈ cs.map Prod.snd := fun p hp => List.mem_map_of_mem hp
  /- an abstract heap that tells of the script, or not, and of the tables -/
  have go : ∀ H : Hp, Begin K s₁.heap cs a H → SqL K H a (ns.map V.int) → HOk P w H s₁.heap →
      codeAny (model P w) callerA (.call (.ref fa) ⟨[.ref a], []⟩) (fun r s' => r = .ok (.ret (.bool true)) ∧ OldK s₁.heap s'.heap ∧ s'.os = s₁.os ∧ AllBare s'.gens) s₁ := fun H hO hS hok => by
    /- what is neither is told of by nothing -/
    have nn : ∀ {b : Addr} {o : Obj}, s₁.heap.get? b = some o → (∀ z n, o.data ≠ .seq z n) → o.data ≠ .fields #[] → H b = none := fun {b o} e h1 h2 => Option.eq_none_iff_forall_ne_some.mpr fun u z => by
      rcases hO.all b u z with ⟨q, _⟩ | ⟨rfl, _⟩
      · rw [(hT b q).1] at e
        cases e
        exact h2 rfl
      · rw [ha] at e
        cases e
        exact h1 _ _ rfl
    have nK : ∀ {b : Addr} {o : Obj}, K.lookup b = some o → H b = none := fun {b o} e => Option.eq_none_iff_forall_ne_some.mpr fun u z => by
      rcases hO.all b u z with ⟨q, _⟩ | ⟨_, _, q, _⟩
      · rw [(hT b q).2] at e
        cases e
      · rw [q] at e
        cases e
    have nD : ∀ {b : Addr} {o : Obj} {es : Array DictEntry} {ep : Nat}, s₁.heap.get? b = some o → o.data = .dict es ep → H b = none := fun {b o es ep} e d => nn e (fun _ _ z => by rw [d] at z; cases z) (fun z => by rw [d] at z; cases z)
    have ns' : ∀ {b : Addr} {m : Str → Option Value}, s₁.heap.Ns b m → (hidT s₁.heap H).Ns b m := fun {b m} ⟨o, es, ep, e, d, r⟩ => ⟨o, es, ep, hidT_get e (nD e d), d, r⟩
    have kb : K.In (hidT s₁.heap H) := fun b o e => hidT_get (KX b o e) (nK e)
    obtain ⟨mc, l1, l2⟩ := hlim
    have tb : ∀ p ∈ cs, LamX.TabB (hidT s₁.heap H) mg p.1 p.2 := fun p hp => by
      have e2 := ht p hp
      have ng : mainGlobals ≠ p.2 := fun z => by
        obtain ⟨o, es, ep, e, d, _⟩ := hns
        rw [z, e2] at e
        cases e
        cases d
      refine ⟨?_, ?_, ng⟩
      · obtain ⟨o, us, fl, tf, gs, tg, iF, tx, tt, e1, c1, c2, c3, rest⟩ := hcd p hp
        refine ⟨o, us, fl, tf, gs, tg, iF, tx, tt, hidT_get e1 (nn e1 (fun _ _ z => by rw [c2] at z; cases z) fun z => ?_), c1, c2, c3, rest⟩
        rw [c2] at z
        cases z
        simp at c3
      · obtain ⟨m, om, b1, b2, b3, b4, b5, b6⟩ := hbm
        refine ⟨m, om, b1, b2, fun z => ?_, fun z => ?_, hidT_get b3 (nn b3 (fun _ _ z => by rw [b6] at z; cases z) fun z => by rw [b6] at z; cases z), b4, b5, b6⟩
        · obtain ⟨o, es, ep, e, d, _⟩ := hns
          rw [z, e] at b3
          cases b3
          rw [d] at b6
          cases b6
        · rw [z, e2] at b3
          cases b3
          cases b6
    have e0 : Env0 P w K mg (hidT s₁.heap H) callerA [] s₁ H := ⟨rfl, ⟨kb, ns' hns, ⟨mb, ns' hb, hbb⟩, ⟨mc, ns' l1, l2⟩⟩, fun b o e => of_hidT e, Nat.le_of_eq (hidT_size _ _), trivial, fun b hb => (List.not_mem_nil hb).elim, hok, .of_eq hg⟩
    refine codeAny_mono ((F _ kb (ns' hns) tb).run callerA [] s₁ H ⟨[.ref a], []⟩ [.ref a] [.ref a] _ _ rfl hr e0 (hbind s₁ (.ref a)) (.cons rfl .nil) (hsp H hO hS)) fun r s' h => ?_
    match r, h with
    | .error e, ⟨_, _, _, _, _, _, _, _, _, _, _, _, z⟩ => exact z.elim
    | .ok .next, h => exact False.elim h
    | .ok .brk, h => exact False.elim h
    | .ok .cont, h => exact False.elim h
    | .ok (.ret u), ⟨v, H', os, bare, un, hok', r', q⟩ =>
      have q : v = .bl true := q
      subst q
      obtain rfl : u = Value.bool true := r'
      have old : ∀ b o, b ∉ cs.map Prod.snd → s₁.heap.get? b = some o → s'.heap.get? b = some o := fun b o nb e => by
        cases z : H b with
        | none => exact un.keep b o e z (fun y => (List.not_mem_nil y).elim) (by simp)
        | some u =>
          rcases hO.all b u z with ⟨q, _⟩ | ⟨_, _, _, ob, xs, rfl⟩
          · exact absurd q nb
          · obtain ⟨e1, _⟩ := hok b _ z
            obtain ⟨e2, _⟩ := hok' b _ (un.frzs b ob _ z)
            rw [e] at e1
            cases e1
            exact e2
      have grow : ∀ b ∈ cs.map Prod.snd, ∃ m : Array Value, s'.heap.get? b = some { cls := .none, data := .fields m } := fun b nb => by
        obtain ⟨m, z⟩ := un.tbls b #[] (hO.tb b nb)
        exact ⟨_, hok' b _ z⟩
      refine ⟨rfl, ⟨fun b o e => ?_, fun b o e => ?_⟩, os, bare⟩
      · by_cases nb : b ∈ cs.map Prod.snd
        · obtain ⟨m, hm⟩ := grow b nb
          obtain ⟨p, hp, rfl⟩ := List.mem_map.mp nb
          have e3 := e.symm.trans (ht p hp)
          cases e3
          refine .inr (.inl ⟨((hcd p hp).tab (ht p hp)).isCodeTable, rfl, #[], m, rfl, ?_⟩)
          rw [Array.empty_append]
          exact hm
        · exact .inl (old b o nb e)
      · by_cases nb : b ∈ cs.map Prod.snd
        · obtain ⟨m, hm⟩ := grow b nb
          exact ⟨_, hm⟩
        · exact ⟨o, old b o nb e⟩
  have lv : vs.length ≤ sizeLine := by rw [hi.length]; exact hl
  cases hk : K.lookup a with
  | some o =>
    have e := KX a o hk
    rw [ha] at e
    cases e
    have hH : ∀ b u, (if b ∈ cs.map Prod.snd then some (HO.tbl #[]) else none) = some u → b ∈ cs.map Prod.snd ∧ u = .tbl #[] := fun b u z => by
      split at z
      · next q => cases z; exact ⟨q, rfl⟩
      · cases z
    refine go (fun b => if b ∈ cs.map Prod.snd then some (.tbl #[]) else none) ⟨fun b u z => .inl (hH b u z), fun b z => if_pos z⟩ (.inr ⟨_, vs.toArray, _, hk, rfl, rfl, rfl, by simpa using lv, by simpa using rv⟩) fun b u z => ?_
    obtain ⟨q, rfl⟩ := hH b u z
    exact (hT b q).1
  | none =>
    have hH : ∀ b u, (if b = a then some (HO.frz { cls := .type "list", data := .seq vs.toArray } (.lst (ns.map V.int))) else if b ∈ cs.map Prod.snd then some (HO.tbl #[]) else none) = some u →
        (b ∈ cs.map Prod.snd ∧ u = .tbl #[]) ∨ (b = a ∧ u = .frz { cls := .type "list", data := .seq vs.toArray } (.lst (ns.map V.int))) := fun b u z => by
      split at z
      · next e => cases z; exact .inr ⟨e, rfl⟩
      · split at z
        · next q => cases z; exact .inl ⟨q, rfl⟩
        · cases z
    refine go (fun b => if b = a then some (.frz { cls := .type "list", data := .seq vs.toArray } (.lst (ns.map V.int))) else if b ∈ cs.map Prod.snd then some (.tbl #[]) else none) ⟨fun b u z => ?_, fun b z => ?_⟩ (.inl (.inr ⟨_, if_pos rfl⟩)) fun b u z => ?_
    · rcases hH b u z with q | ⟨rfl, rfl⟩
      · exact .inl q
      · exact .inr ⟨rfl, naT, hk, _, _, rfl⟩
    · exact (if_neg (show ¬ b = a from fun e => naT (e ▸ z))).trans (if_pos z)
    · rcases hH b u z with ⟨q, rfl⟩ | ⟨rfl, rfl⟩
      · exact (hT b q).1
      · exact ⟨ha, by simpa using hl, vs, _, rv, ha⟩
def tbB (tn : List Str) (K : PySem.W.Frag) : Bool := tabN.all fun x => tn.contains x || (tabOf K x).isEmpty
theorem tabAt_ok {K : PySem.W.Frag} {c P : Addr} (h : tabAt K c = some P) : K.lookup P = none ∧ ∃ e dd vs sl, K.lookup c = some ⟨e, dd, .fields vs, sl⟩ ∧ vs[11]? = some (.ref P) := by
  unfold tabAt at h
  split at h
  · next e dd vs sl e1 =>
    split at h
    · next P' e2 =>
      split at h
      · next e3 => cases h; exact ⟨e3, _, _, _, _, e1, e2⟩
      · cases h
    · cases h
  · cases h
theorem tabOf_ok {K : PySem.W.Frag} {x : Str} {p : Addr × Addr × Str} (h : p ∈ tabOf K x) : ∃ f, PySem.W.nsIn K mainGlobals x = some (some (.ref f)) ∧ codeOf K f = some (.ref p.1) ∧ tabAt K p.1 = some p.2.1 := by
  unfold tabOf at h
  split at h
  · next f e =>
    split at h
    · next c e2 =>
      split at h
      · next P e3 =>
        cases List.mem_singleton.mp h
        exact ⟨f, e, e2, e3⟩
      · cases h
    · cases h
  · cases h
/-- one table for the lambdas of the def x, no other def's -/
def lamB (K : PySem.W.Frag) (x : Str) : Bool := tabN.contains x && match tabOf K x with
  | [p] => (tabsK K).all fun r => !decide (r.2.1 = p.2.1) || decide (r.2.2 = p.2.2)
  | _ => false
/-- the script as it lies -/
def onlyF (H : Hp) : Hp := fun b => match H b with
  | some (.tbl _) => none
  | o => o
theorem onlyF_sub (H : Hp) : Same (onlyF H) H := fun b o e => by
  unfold onlyF at e
  split at e
  · cases e
  · exact e
/-- THE END: the law's def answers True for every script of so many cells -/
theorem walk_ofG {l : PySem.W.OpenLaw} {n k : Nat} {q : Program} {loose : List Str} {XP : (Str → Option Value) → Heap → Prop} {YP : World → Heap → Prop} {d : DefRec} {x : Str} {fs : FSem} {tn : List Str}
    (hn : l.most = some n) (hn2 : n ≤ sizeLine) (hdf : d.params.defaults = []) (hr : Room k callerA) (htn : ∀ x ∈ tn, ((recsOf q).any fun e => e.name == x) = true)
    (F : ∀ (w : World) (mg : Str → Option Value) (fa : Addr) (h : Heap), YP w h → h.Ns mainGlobals mg → mg d.name = some (.ref fa) →
      ∃ (K : PySem.W.Frag) (fd : FuncData), K.In h ∧ tbB tn K = true ∧ (∀ (s : Shared) (u : Value), BindsTo s fd ⟨[u], []⟩ [(x, u)]) ∧ ∀ base : Heap, K.In base → base.Ns mainGlobals mg → (∀ p ∈ tabsK K, LamX.TabB base mg p.1 p.2.1) → FnG l.prog w K mg base k fa fd [x] (spD K mg 1 fs))
    (hf : ∀ ns : List Int, ns.length ≤ n → (∀ z ∈ ns, Builtin.Int.intBits z ≤ 1048576) → ∃ S, fs [.scr (ns.map D.int)] [] = .ok (.bl true) S) :
    PySem.W.WalkO q loose XP YP l.row.toRowW d [] (fun f vs => PySem.call f vs) := by
  refine Att.attach_callB hn hdf fun w s₀ s₁ mg mb fa o pm cd doc a vs ns G Y ho hd hcd hmg hobj hints hlen hbits hg => ?_
  obtain ⟨K, fd, KX, htb, hb, hF⟩ := F w mg fa _ Y G.T.g hmg
  have tabs : ∀ p ∈ tabsK K, s₁.heap.get? p.2.1 = some tabO ∧ K.lookup p.2.1 = none ∧ PySem.W.CodeHd s₁.heap p.1 p.2.1 := fun p hp => by
    obtain ⟨y, hy, hp⟩ := List.mem_flatMap.mp hp
    have z := List.all_eq_true.mp htb y hy
    have hy2 : y ∈ tn := by
      rcases Bool.or_eq_true_iff.mp z with z | z
      · simpa using z
      · rw [List.isEmpty_iff.mp z] at hp
        cases hp
    obtain ⟨f, e1, e2, e3⟩ := tabOf_ok hp
    obtain ⟨e4, ec, dd, vc, sl, e5, e6⟩ := tabAt_ok e3
    obtain ⟨r, hr1, hr2⟩ := List.any_eq_true.mp (htn y hy2)
    have hr2 : r.name = y := beq_iff_eq.mp hr2
    obtain ⟨f', o', fd', c', P', h1, h2, h3, h4, h5, h6⟩ := G.T.tab r hr1
    have hga : He.ga K y = f := by
      unfold He.ga
      rw [e1]
    have e1' : mg y = some (.ref f) := by
      have := He.glo_ok KX G.T.g (show (He.Fa.glo y).ok K = true by show He.eqO _ _ = true; rw [hga, e1]; simp [He.eqO])
      rw [hga] at this
      exact this
    rw [hr2, e1'] at h1
    cases h1
    unfold codeOf at e2
    split at e2
    · next a1 a2 fd1 a3 k1 =>
      rw [KX _ _ k1] at h2
      cases h2
      cases h3
      rw [h4] at e2
      cases e2
      have hh := PySem.W.CodeHd.of h5 h6
      obtain ⟨⟨oc, vc2, q1, _, q3, q4⟩, q5⟩ := h6
      rw [KX _ _ e5] at q1
      cases q1
      cases q3
      rw [e6] at q4
      cases q4
      exact ⟨q5, e4, hh⟩
    · cases e2
  have mt : ∀ {p : Addr × Addr}, p ∈ (tabsK K).map (fun p => (p.1, p.2.1)) → ∃ q ∈ tabsK K, p = (q.1, q.2.1) := fun {p} hp => by
    obtain ⟨q, h1, rfl⟩ := List.mem_map.mp hp
    exact ⟨q, h1, rfl⟩
  refine law_callG (cs := (tabsK K).map fun p => (p.1, p.2.1)) KX G.T.g G.T.b G.T.builtins G.T.nolimit hg (fun p hp => ?_) (fun p hp => ?_) (fun p hp => ?_) G.T.bmain hobj hints (Nat.le_trans hlen hn2) hr (fun base h1 h2 h3 => hF base h1 h2 fun p hp => h3 (p.1, p.2.1) (List.mem_map.mpr ⟨p, hp, rfl⟩)) hb fun H hO hS => ?_
  · obtain ⟨q, h1, rfl⟩ := mt hp
    exact (tabs q h1).1
  · obtain ⟨q, h1, rfl⟩ := mt hp
    exact (tabs q h1).2.1
  · obtain ⟨q, h1, rfl⟩ := mt hp
    exact (tabs q h1).2.2
  obtain ⟨S, hS2⟩ := hf ns hlen hbits
  have ri : ∀ ns : List Int, RelAll K (onlyF H) [] (ns.map V.int) (ns.map D.int) := fun ns => by
    induction ns with
    | nil => exact .nil
    | cons i r ih => exact .cons (.int i) ih
  have hS' : SqL K (onlyF H) a (ns.map V.int) := by
    rcases hS with (hS | ⟨o, hS⟩) | hS
    · exact .inl (.inl (by unfold onlyF; rw [hS]))
    · exact .inl (.inr ⟨o, by unfold onlyF; rw [hS]⟩)
    · exact .inr hS
  refine ⟨onlyF H, [], [.scr (ns.map D.int)], [], ⟨onlyF_sub H, rfl, List.nodup_nil, fun n a c e => (by simp at e), fun n c e => (by simp at e), fun p hp => LamX.TabS.nil (hO.tb _ (List.mem_map.mpr ⟨(p.1, p.2.1), List.mem_map.mpr ⟨p, hp, rfl⟩, rfl⟩)), fun b ps e => ?_, fun b ps e => ?_⟩, .cons (.scr hS' (ri ns)) .nil, rfl, ?_⟩
  · unfold onlyF at e
    split at e
    · cases e
    · next h => exact h _ e
  · rcases hO.all b _ e with ⟨z, _⟩ | ⟨_, _, _, _, _, z⟩
    · obtain ⟨p, hp, rfl⟩ := List.mem_map.mp z
      obtain ⟨q, hq, rfl⟩ := mt hp
      exact ⟨q, hq, rfl⟩
    · cases z
  rw [hS2]
  exact fun F' ι' v H' _ _ r => rel_bl r
end Fk
set_option Elab.async false
set_option linter.all false
set_option maxRecDepth 100000
set_option maxHeartbeats 4000000
namespace Fk
open PySem PySem.Spec PyProof.Rows L2
def orO {α : Type} (op op' : D → D → Store → Option α) : D → D → Store → Option α := fun d e S => match op d e S with
  | some a => some a
  | none => op' d e S
section
variable {X : Cx}
theorem ox_or {f : Value → Value → Sem Value} {op op' : D → D → Store → Option D} (h1 : OpX X f op) (h2 : OpX X f op') : OpX X f (orO op op') := by
  intro pins s σ H x y v u Q I rx ry h
  obtain ⟨F, ι, S, d, e, a, sm, rd, re, ho, q⟩ := h
  unfold orO at ho
  cases e1 : op d e S with
  | some b => rw [e1] at ho; cases ho; exact h1 pins s σ H x y v u Q I rx ry ⟨F, ι, S, d, e, a, sm, rd, re, e1, q⟩
  | none => rw [e1] at ho; exact h2 pins s σ H x y v u Q I rx ry ⟨F, ι, S, d, e, a, sm, rd, re, ho, q⟩
def opRev : D → Store → Option D := fun d S => match dr S d with
  | .tup xs => some (.tup xs.reverse)
  | .lst xs => some (.lst xs.reverse)
  | _ => none
end
section
end
section
end
theorem tuple_mulS (l : Addr) (items : Array Value) (n : Nat) (dd : Option Addr) (sl : Array (Option Value)) (x : Int) (u : Tok) (c0 : (decide (x < -(2 ^ 63)) || decide (x ≥ 2 ^ 63)) = false) (c1 : (items.isEmpty || x == 1) = true) :
    Meets (Builtin.«tuple.__mul__» ⟨[.ref l, .int x u], []⟩) (fun _ R s => s.heap.get? l = some { cls := .type "tuple", dict := dd, data := .seq items n, slots := sl } ∧ R (.ok (.ret (Value.ref l))) s) :=
  .of_wp fun prog w A R s h => by
    obtain ⟨hp, g, d, tk, os⟩ := s
    obtain ⟨hl, h⟩ := h
    have f1 := AutoSeq1.idx_int
    wp_walk using wpAny_loadPart' hl
    repeat (first
      | (refine wpAny_ite_false (decide_eq_false (by rw [c0]; exact Bool.false_ne_true)) ?_; wp_walk using wpAny_loadPart' hl)
      | (refine wpAny_ite_true (decide_eq_true c1) ?_; wp_walk using wpAny_loadPart' hl))
    exact ⟨_, rfl, h⟩
/-- t * k for k <= 0 -/
theorem tuple_mulZ (l : Addr) (items : Array Value) (n : Nat) (dd : Option Addr) (sl : Array (Option Value)) (x : Int) (u : Tok) (c0 : (decide (x < -(2 ^ 63)) || decide (x ≥ 2 ^ 63)) = false) (c1 : (items.isEmpty || x == 1) = false) (c2 : (decide (x ≤ 0) || items.isEmpty) = true) :
    Meets (Builtin.«tuple.__mul__» ⟨[.ref l, .int x u], []⟩) (fun _ R s => s.heap.get? l = some { cls := .type "tuple", dict := dd, data := .seq items n, slots := sl } ∧ R (.ok (.ret (Value.ref s.heap.objs.size))) { s with heap := s.heap.push { cls := Value.type "tuple", data := Data.seq #[] }, toks := s.toks }) :=
  .of_wp fun prog w A R s h => by
    obtain ⟨hp, g, d, tk, os⟩ := s
    obtain ⟨hl, h⟩ := h
    have f1 := AutoSeq1.idx_int
    wp_walk using wpAny_loadPart' hl
    repeat (first
      | (refine wpAny_ite_false (decide_eq_false (by rw [c0]; exact Bool.false_ne_true)) ?_; wp_walk using wpAny_loadPart' hl)
      | (refine wpAny_ite_false (decide_eq_false (by rw [c1]; exact Bool.false_ne_true)) ?_; wp_walk using wpAny_loadPart' hl)
      | (refine wpAny_ite_true (decide_eq_true c2) ?_; wp_walk using wpAny_loadPart' hl)
      | (refine wpAny_ite_false (decide_eq_false (Nat.not_lt.mpr (Nat.zero_le _))) ?_; wp_walk using wpAny_loadPart' hl))
    exact ⟨_, rfl, h⟩
def opMul0 : D → D → Store → Option D := fun d e _ => match d, e with
  | .tup xs, .int k => if (xs.isEmpty || k == 1) && decide (-1000 ≤ k ∧ k ≤ 1000) then some (.tup xs) else if decide (-1000 ≤ k ∧ k ≤ 0) then some (.tup []) else none
  | _, _ => none
theorem ox_mul0 {X : Cx} : OpX X (binaryOp .Mult) opMul0 := by
  intro pins s σ H x y v u Q I rx ry h
  obtain ⟨Fz, ι, S, d, e, a, sm, rd, re, ho, q⟩ := h
  unfold opMul0 at ho
  split at ho
  · next xs k =>
    split at ho
    · next hc =>
      cases ho
      obtain ⟨c1, c2⟩ := Bool.and_eq_true_iff.mp hc
      have c2 := of_decide_eq_true c2
      obtain ⟨l, vs, rfl, e1, f1, rr, _⟩ := at_tup sm rd (show dr S (.tup xs) = .tup xs from rfl)
      cases rx
      cases rel_int re
      obtain ⟨t, rfl⟩ := ry
      obtain ⟨its, r, ⟨⟨cls, dd, data, sl⟩, ho, hc', n, hd⟩, hs⟩ := I.tuple (SqT.of e1)
      simp only at hc' hd
      subst hc' hd
      have hle : its.length = xs.length := by rw [← rr.length]; exact r.length.symm
      have h0 : (decide (k < -(2 ^ 63)) || decide (k ≥ 2 ^ 63)) = false := by
        rw [decide_eq_false (by omega), decide_eq_false (by omega)] <;> rfl
      have h1 : (its.toArray.isEmpty || k == 1) = true := by
        have : its.toArray.isEmpty = xs.isEmpty := by
          cases its <;> cases xs <;> simp_all
        rw [this]
        exact c1
      exact wpAny_binaryOp_repeat_ref (T := "tuple") (U := "int") (by decide) ⟨_, ho, rfl⟩ (fun s' => typeIs_int s' k t) noFill_tuple_mul F.fills_int_mul F.slot_int_rmul repeat_tuple F.slot_int_index.lookup
        (call_meets F.slot_int_rmul (typeIs_int s k t) F.entry_int_rmul (F.args_int_rmul_2 _ _) (int_rmul_tuple k t l its.toArray n dd sl)
          ⟨ho, rfl, ⟨_, ho, rfl⟩, call_meets F.slot_tuple_mul ⟨_, ho, rfl⟩ F.entry_tuple_mul (F.args_tuple_mul_2 _ _) (tuple_mulS l its.toArray n dd sl k t h0 h1) ⟨ho, ⟨.ref l, H, I, rfl, q Fz ι _ H (Step.refl _ _ _) sm rd⟩⟩⟩)
    · next hn =>
      split at ho
      · next hc =>
        cases ho
        have c2 := of_decide_eq_true hc
        obtain ⟨l, vs, rfl, e1, f1, rr, _⟩ := at_tup sm rd (show dr S (.tup xs) = .tup xs from rfl)
        cases rx
        cases rel_int re
        obtain ⟨t, rfl⟩ := ry
        obtain ⟨its, r, ⟨⟨cls, dd, data, sl⟩, ho, hc', n, hd⟩, hs⟩ := I.tuple (SqT.of e1)
        simp only at hc' hd
        subst hc' hd
        have hle : its.length = xs.length := by rw [← rr.length]; exact r.length.symm
        have h0 : (decide (k < -(2 ^ 63)) || decide (k ≥ 2 ^ 63)) = false := by
          rw [decide_eq_false (by omega), decide_eq_false (by omega)] <;> rfl
        have hx : xs.isEmpty = false := by
          cases q : xs.isEmpty with
          | false => rfl
          | true => exact absurd (by rw [q, decide_eq_true (show -1000 ≤ k ∧ k ≤ 1000 by omega)]; rfl) hn
        have hi : its.toArray.isEmpty = false := by
          rw [← hx]
          cases its <;> cases xs <;> simp_all
        have h1 : (its.toArray.isEmpty || k == 1) = false := by
          rw [hi, Bool.false_or]
          exact beq_eq_false_iff_ne.mpr (by omega)
        have h2 : (decide (k ≤ 0) || its.toArray.isEmpty) = true := by
          rw [decide_eq_true c2.2]; rfl
        refine wpAny_binaryOp_repeat_ref (T := "tuple") (U := "int") (by decide) ⟨_, ho, rfl⟩ (fun s' => typeIs_int s' k t) noFill_tuple_mul F.fills_int_mul F.slot_int_rmul repeat_tuple F.slot_int_index.lookup
          (call_meets F.slot_int_rmul (typeIs_int s k t) F.entry_int_rmul (F.args_int_rmul_2 _ _) (int_rmul_tuple k t l its.toArray n dd sl)
            ⟨ho, rfl, ⟨_, ho, rfl⟩, call_meets F.slot_tuple_mul ⟨_, ho, rfl⟩ F.entry_tuple_mul (F.args_tuple_mul_2 _ _) (tuple_mulZ l its.toArray n dd sl k t h0 h1 h2) ⟨ho, ?_⟩⟩)
        obtain ⟨x2, s2⟩ := sm.frozen (o := .tup []) (I.hok.fresh (Nat.le_refl _))
        refine ⟨.ref s.heap.objs.size, _, I.laid (t' := s.toks) (o := .tup []) (fun b ob q => Heap.get?_push_of_some _ q) (Nat.le_refl _) ?_, rfl, q _ _ _ _ x2 s2 (.tup upd_same .nil)⟩
        exact ⟨by simp [sizeLine_eq], _, .nil, IsTup.new _ _⟩
      · cases ho
  · cases ho
def opEqS : D → D → Store → Option D := fun d e _ => match d, e with
  | .str x, .str y => some (.bl (decide (x = y)))
  | _, _ => none
def opNeS : D → D → Store → Option D := fun d e _ => match d, e with
  | .str x, .str y => some (.bl (!decide (x = y)))
  | _, _ => none
theorem dec_strV (x y : Str) : decide (V.str x = V.str y) = decide (x = y) := by
  by_cases h : x = y
  · subst h; simp
  · rw [decide_eq_false h, decide_eq_false (fun z => h (by cases z; rfl))]
theorem ox_eqS {X : Cx} : OpX X (compareOp .Eq) opEqS := by
  intro pins s σ H x y v u Q I rx ry h
  obtain ⟨F, ι, S, d, e, a, sm, rd, re, ho, q⟩ := h
  unfold opEqS at ho
  split at ho
  · next x y =>
    cases ho
    cases rel_str rd
    cases rel_str re
    refine op_eq pins s σ H _ _ v u Q I rx ry ⟨rfl, ?_⟩
    rw [dec_strV]
    exact q F ι _ H (Step.refl _ _ _) sm (.bl _)
  · cases ho
theorem ox_neS {X : Cx} : OpX X (compareOp .NotEq) opNeS := by
  intro pins s σ H x y v u Q I rx ry h
  obtain ⟨F, ι, S, d, e, a, sm, rd, re, ho, q⟩ := h
  unfold opNeS at ho
  split at ho
  · next x y =>
    cases ho
    cases rel_str rd
    cases rel_str re
    refine op_ne pins s σ H _ _ v u Q I rx ry ⟨rfl, ?_⟩
    rw [dec_strV]
    exact q F ι _ H (Step.refl _ _ _) sm (.bl _)
  · cases ho
def opEqA := orO opEqS opEq
def opNeA := orO opNeS opNe
theorem ox_eqA {X : Cx} (hu : X.A.units + 64 < cLine) : OpX X (compareOp .Eq) opEqA := ox_or ox_eqS (ox_eq hu)
theorem ox_neA {X : Cx} (hu : X.A.units + 64 < cLine) : OpX X (compareOp .NotEq) opNeA := ox_or ox_neS (ox_ne hu)
def b2 (b : Bool) : Int := if b = true then 1 else 0
def opAddB : D → D → Store → Option D := fun d e _ => match d, e with
  | .bl b, .int j => some (.int (b2 b + j))
  | .int i, .bl b => some (.int (i + b2 b))
  | _, _ => none
def opSubB : D → D → Store → Option D := fun d e _ => match d, e with
  | .bl b, .int j => some (.int (b2 b - j))
  | .int i, .bl b => some (.int (i - b2 b))
  | _, _ => none
def opMulB : D → D → Store → Option D := fun d e _ => match d, e with
  | .bl b, .int j => some (.int (b2 b * j))
  | .int i, .bl b => some (.int (i * b2 b))
  | _, _ => none
section
variable {X : Cx}
theorem ox_addB : OpX X (binaryOp .Add) opAddB := by
  intro pins s σ H x y v u Q I rx ry h
  obtain ⟨F, ι, S, d, e, a, sm, rd, re, ho, q⟩ := h
  unfold opAddB at ho
  split at ho
  · cases ho
    cases rel_bl rd
    cases rel_int re
    obtain rfl : v = Value.bool _ := rx
    obtain ⟨t, rfl⟩ := ry
    exact PySem.IntBool.add_bool_int ⟨.int _, H, I.tok _, ⟨_, rfl⟩, q F ι _ H (Step.refl _ _ _) sm (.int _)⟩
  · cases ho
    cases rel_int rd
    cases rel_bl re
    obtain ⟨t, rfl⟩ := rx
    obtain rfl : u = Value.bool _ := ry
    exact PySem.add_int_bool ⟨.int _, H, I.tok _, ⟨_, rfl⟩, q F ι _ H (Step.refl _ _ _) sm (.int _)⟩
  · cases ho
theorem ox_mulB : OpX X (binaryOp .Mult) opMulB := by
  intro pins s σ H x y v u Q I rx ry h
  obtain ⟨F, ι, S, d, e, a, sm, rd, re, ho, q⟩ := h
  unfold opMulB at ho
  split at ho
  · cases ho
    cases rel_bl rd
    cases rel_int re
    obtain rfl : v = Value.bool _ := rx
    obtain ⟨t, rfl⟩ := ry
    exact PySem.IntBool.mul_bool_int ⟨.int _, H, I.tok _, ⟨_, rfl⟩, q F ι _ H (Step.refl _ _ _) sm (.int _)⟩
  · cases ho
    cases rel_int rd
    cases rel_bl re
    obtain ⟨t, rfl⟩ := rx
    obtain rfl : u = Value.bool _ := ry
    exact PySem.IntBool.mul_int_bool ⟨.int _, H, I.tok _, ⟨_, rfl⟩, q F ι _ H (Step.refl _ _ _) sm (.int _)⟩
  · cases ho
def opAddA := orO opAdd opAddB
def opSubA := orO opSub opSubB
def opMulA := orO (orO opMul opMul0) opMulB
theorem ox_addA : OpX X (binaryOp .Add) opAddA := ox_or ox_add ox_addB
theorem ox_mulA : OpX X (binaryOp .Mult) opMulA := ox_or (ox_or ox_mul ox_mul0) ox_mulB
def absDA : List D → Store → Option D
  | [.int i], _ => some (.int (if i < 0 then -i else i))
  | [.bl b], _ => some (.int (b2 b))
  | _, _ => none
def strDA : List D → Store → Option D
  | [.int i], _ => if decide (i.natAbs.log2 < 1920) then some (.str (toString i : String)) else none
  | [.bl b], _ => some (.str (if b then "True" else "False"))
  | _, _ => none
theorem call_abs_bool {prog : Program} {w : World} {A : Around} {E : Value → Shared → Prop} {s : Shared} {b : Bool} {Q : Value → Shared → Prop} (h : ∀ u tk, Q (.int (b2 b) u) { s with toks := tk }) :
    wpAny (model prog w) A (call (.builtin "abs") [.bool b]) Q E s := by
  refine PySem.Calls.call_function_entry kind_abs plain_abs entry_abs (args_abs _) ?_
  unfold Builtin.«abs»
  refine wpAny_bind (m := oneArg "abs" _) (wpAny_pure ?_)
  refine wpAny_bind (m := callSpecial? (.bool b) (Str.ofString "__abs__")) (wpAny_callSpecial?_slot (name := Str.ofString "__abs__") (show s.TypeIs (.bool b) "bool" from rfl) F.slot_bool_abs
    (wpAny_call_entry F.slot_bool_abs (show s.TypeIs (.bool b) "bool" from rfl) entry_int_abs ?_ (args_int_abs _)))
  cases b with
  | true => exact wpAny_ret_mkInt (wpAny_pure ⟨_, rfl, h _ _⟩)
  | false => exact wpAny_ret_mkInt (wpAny_pure ⟨_, rfl, h _ _⟩)
theorem cx_absA : CallX X (.builtin "abs") absDA := by
  intro pins s σ H xs us Q I r h
  obtain ⟨F, ι, S, ds, a, sm, rd, ho, q⟩ := h
  unfold absDA at ho
  split at ho
  · next i => exact cx_abs pins s σ H xs us Q I r ⟨F, ι, S, _, a, sm, rd, ho, q⟩
  · next b =>
    cases ho
    obtain ⟨x, rfl, rx⟩ := rel1 rd
    cases rel_bl rx
    cases r with
    | cons r1 r2 =>
      cases r2
      obtain rfl : _ = Value.bool _ := r1
      exact call_abs_bool fun u tk => ⟨.int _, H, I.tok _, ⟨_, rfl⟩, q F ι _ H (Step.refl _ _ _) sm (.int _)⟩
  · cases ho
end
end Fk
set_option Elab.async false
set_option linter.all false
set_option maxRecDepth 100000
namespace Fk
open PySem PySem.Spec PyProof.Rows L2
def smB (K : PySem.W.Frag) : Bool := match K.lookup sysModules with
  | some ⟨.type c, _, _, _⟩ => !decide (c = "list")
  | _ => false
theorem smB_ok {K : PySem.W.Frag} {base : Heap} (h : smB K = true) (X : K.In base) : ∃ o, base.get? sysModules = some o ∧ o.cls ≠ .type "list" := by
  unfold smB at h
  split at h
  · next c od dt sl e =>
    refine ⟨_, X _ _ e, fun z => ?_⟩
    have z : Value.type c = Value.type "list" := z
    cases z
    simp at h
  · cases h
/-- no table of code objects: such grow -/
def noTab (g : Addr → Option Obj) (a : Addr) : Bool := match g a with
  | some ⟨.none, _, .fields _, _⟩ => false
  | _ => true
section
variable {P : Program} {w : World} {K : PySem.W.Frag} {mg : Str → Option Value} {base : Heap} {x qual : Str} {params : Arguments} {body : List Stmt} {scope : Scope} {kws : List (Str × V)} {f : Addr} {fd : FuncData} {ps : List Str} {k : Nat} {fs : FSem} {dvs : List V} {dd : List D}
/-- some parameters are left to their defaults -/
theorem Fn.some (F : FunD K x qual params body scope dvs kws f fd) (hm : mg x = some (.ref f)) (G : FnG P w K mg base k f fd ps (spD K mg ps.length fs)) (n j : Nat) (hd : dvs ≠ []) (hn : n + (dvs.length - j) = ps.length) (hdd : ∀ K F ι, RelAll K F ι (dvs.drop j) dd)
    (h : ∀ (T : Addr) (kV doc pm : Value) (an : Option Addr) (cdv ct : Value) (us its : List Value), us.length = n → its.length = dvs.length →
      ∃ k, bindArgs (PySem.W.fnOf x qual params body scope (.ref T) kV doc pm an cdv ct) ⟨us, []⟩ = seqItems? (.ref T) >>= k ∧ k (Option.some its.toArray) = pure (ps.zip (us ++ its.drop j))) : Fn P w K mg base k x ps dd fs := by
  obtain ⟨ds, hv, hb⟩ := F.binds1 n j hd hn h
  exact ⟨f, fd, _, ds, hm, F.kp, G, hb, hv, hdd⟩
theorem FnG.stuck (hl : fs = fun _ _ => .stuck) : FnG P w K mg base k f fd ps (spD K mg ps.length fs) := by
  subst hl
  exact ⟨fun vs H Q E ⟨F, ι, ds, S, s, r, hl, q⟩ => q.elim, fun A outer s H args us vs Q E _ _ _ _ _ ⟨F, ι, ds, S, s', r, hl, q⟩ => q.elim⟩
end
end Fk
set_option Elab.async false
set_option linter.all false
set_option maxRecDepth 100000
set_option maxHeartbeats 1000000
namespace Fk
open PySem PySem.Spec PyProof.Rows L2
section
end
def enumL (xs : List D) : List D := xs.mapIdx fun i x => .tup [.int (i : Nat), x]
def itEnum (fa : SemA) : SemA := fun ρ S => (fa ρ S).bind fun ds S1 => match ds with
  | [.lst xs] => .ok (enumL xs) S1
  | [.tup xs] => .ok (enumL xs) S1
  | _ => .stuck
section
end
def idxD (d e : D) (S : Store) : Option Nat := match dr S d with
  | .lst xs => (datAll xs).bind fun ys => (dat (dr S e)).bind fun a => if SeqAt.shaped a && SeqAt.shaped (.list ys) then ys.findIdx? fun z => PyData.eqv z a else none
  | _ => none
def opIndex : D → D → Store → Option D := fun d e S => (idxD d e S).map fun j => .int (j : Nat)
def eIdx (f g : SemE) : SemE := fun ρ S => (f ρ S).bind fun x S1 => if isL S1 x then (g ρ S1).bind fun y S2 => lift (opIndex x y S2) S2 else .stuck
def rIdx (K : PySem.W.Frag) (mg : Str → Option Value) : V → List V → Hp → VK → Prop := fun x xs H Q => ∃ F ι S d e y j, Sim K mg F ι S H ∧ Rel K F ι x d ∧ xs = [y] ∧ Rel K F ι y e ∧ idxD d e S = some j ∧ Q (.int (j : Nat)) H
section
variable {X : Cx} {W : WX}
theorem mt_idx (hu : X.A.units + 65 < cLine) : MtR X "list.index" (rIdx X.K X.mg) := by
  intro pins s σ H x xs v us Q I rx rxs h
  obtain ⟨F, ι, S, d, e, y, j, sm, rd, rfl, re, hj, q⟩ := h
  unfold idxD at hj
  split at hj
  · next xs h1 =>
    obtain ⟨ds, hds, hj⟩ := Option.bind_eq_some_iff.mp hj
    obtain ⟨da, hda, hj⟩ := Option.bind_eq_some_iff.mp hj
    split at hj
    · next hz =>
      obtain ⟨z1, z2⟩ := Bool.and_eq_true_iff.mp hz
      obtain ⟨a, vs, rfl, e1, r1⟩ := at_lst sm rd h1
      cases rx
      cases rxs with
      | cons ry rt =>
        rename_i uy ut
        cases rt
        obtain ⟨bs, rr, _⟩ := reads_dr I sm re ry hda
        obtain ⟨its, rv, ⟨⟨cls, dd, data, sls⟩, n, ho, hc, hdn, hdt⟩, hlen⟩ := I.list (SqL.of e1)
        simp only at hc hdt
        subst hc hdt
        obtain ⟨as, h4, _⟩ := reads_all I sm.sub r1 rv hds
        have hxs : PyData.canLayAll0 ds = true := by simpa [PyData.canLay0] using SeqAt.canLay_of_shaped z2
        have hn : its.length = ds.length := SeqAt.ReadsAll.length ds its as h4
        have hmap : its.map (SeqAt.readOf s.heap) = ds := SeqAt.readsAll_map ds its as hxs h4
        have hvl := rv.length
        have hsl := sizeLine_eq
        obtain ⟨hjd, hjt, hjn⟩ := List.findIdx?_eq_some_iff_getElem.mp hj
        have hjl : j < its.length := by omega
        have hj' : j < its.toArray.size := by simpa using hjl
        have at_ : ∀ (m : Nat) (hm : m < its.toArray.size) (hm2 : m < ds.length), SeqAt.readOf s.heap its.toArray[m] = ds[m] := fun m hm hm2 => by
          have hml : m < its.length := by simpa using hm
          have : (its.map (SeqAt.readOf s.heap))[m]'(by simpa using hml) = ds[m] := by simp [hmap]
          simpa using this
        refine call_meets PySem.F.slot_list_index ⟨_, ho, rfl⟩ PySem.F.entry_list_index (PySem.F.args_list_index_2 _ _)
          (SeqAt.list_indexAt a its.toArray n dd sls uy (fun u => PyData.eqv (SeqAt.readOf s.heap u) da) j hj' (by omega) ?_ ?_) ⟨ho, SeqAt.items_eqAt (vs := its.toArray) (show ReadsAll s.heap its.toArray.toList ds as from h4) rr hxs (SeqAt.canLay_of_shaped z1) (room_in_shaped z1 hu), ?_⟩
        · show PyData.eqv (SeqAt.readOf s.heap its.toArray[j]) da = true
          rw [at_ j hj' hjd]
          exact hjt
        · intro m hm hmj
          show PyData.eqv (SeqAt.readOf s.heap its.toArray[m]) da = false
          rw [at_ m hm (by omega)]
          have := hjn m hmj
          simpa using this
        · exact ⟨.int (j : Nat), H, I.tok _, ⟨_, rfl⟩, q⟩
    · cases hj
  · cases hj
theorem xe_index {o e : Expr} {f g : SemE} {apos cpos : Pos} (hu : X.A.units + 65 < cLine) (ho : XE X W o f) (he : XE X W e g) (hbase : attributeBase o "index" X.env (eval o X.env) = eval o X.env := by rfl)
    (hfew : ((backTo cpos (starEach [e] X.env)).all (fun x => !x.1) && (backToKw cpos (keywordEach [] X.env)).all (fun x => x.1.isSome) && decide ([e].length + ([] : List Keyword).length + (if ([] : List Keyword).isEmpty then 0 else 1) < 30)) = true := by rfl)
    (hline : (apos.endLine == cpos.line) = true := by rfl) (hs : starEach [e] X.env = (false, eval e X.env) :: starEach [] X.env := by rfl) (hpl : (backTo cpos (starEach [] X.env)).any (·.1) = false := by rfl) :
    XE X W (.Call (.Attribute o "index" apos) [e] [] cpos) (eIdx f g) := by
  refine peI (pe_bm PySem.F.plainAttrs_list PySem.F.slot_list_index PySem.F.type_list_index (mt_idx hu) ho (pa_cons he pa_nil hs) hbase hfew hline hs hpl) fun σ H Q h => ?_
  obtain ⟨F, ι, ρ, S, sm, r, q⟩ := h
  refine ⟨F, ι, ρ, S, sm, r, post_bind (R := RV' X.K) q fun x S1 F1 ι1 v H1 x1 s1 rv q1 => ?_⟩
  obtain ⟨hL, q1⟩ := ite_stuck q1
  refine ⟨isL_ty s1 rv hL, F1, ι1, ρ, S1, s1, r.mono x1, post_bind (R := RV' X.K) q1 fun y S2 F2 ι2 u H2 x2 s2 ru q2 => ?_⟩
  obtain ⟨z, hz, q3⟩ := post_lift q2
  obtain ⟨j, hj, rfl⟩ := Option.map_eq_some_iff.mp hz
  exact ⟨F2, ι2, S2, x, y, u, j, s2, Rel.mono x2 rv, rfl, ru, hj, q3 F2 ι2 _ H2 (Step.refl _ _ _) s2 (.int _)⟩
end
end Fk
set_option Elab.async false
set_option linter.all false
set_option maxRecDepth 100000
set_option maxHeartbeats 1000000
namespace Fk
open PySem PySem.Spec PyProof.Rows L2
theorem xo_ok {P : Program} {w : World} {H : Hp} {h : Heap} {a C : Addr} {d : Option Addr} {oe : Obj} {vs : Array Value} (he : h.get? a = some oe) (hc : oe.cls = .ref C) (hd : oe.dict = d) (hv : oe.data = .fields vs) : ObjOk P w H h a (xo a C d) :=
  ⟨⟨oe, he, hc, hd, vs, hv⟩, ⟨_, he⟩, fun h1 h2 z k => by
    obtain ⟨o, q, r⟩ := z
    exact ⟨o, k _ q, r⟩⟩
theorem xo_at {P : Program} {w : World} {H : Hp} {h : Heap} {a C : Addr} {d : Option Addr} (hok : HOk P w H h) (he : H a = some (xo a C d)) : ∃ oe : Obj, h.get? a = some oe ∧ oe.cls = .ref C ∧ oe.dict = d ∧ ∃ vs, oe.data = .fields vs := by
  have x : ObjOk P w H h a (.ext fun h => ∃ oe : Obj, h.get? a = some oe ∧ oe.cls = .ref C ∧ oe.dict = d ∧ ∃ vs, oe.data = .fields vs) := hok a _ he
  exact x.1
section
end
end Fk
set_option Elab.async false
set_option linter.all false
set_option maxRecDepth 100000
set_option maxHeartbeats 1000000
namespace Fk
open PySem PySem.Spec PyProof.Rows L2
abbrev XTbl := List (Str × List Str)
def XTbl.at (tbl : XTbl) (c : Str) : Option (List Str) := (tbl.find? fun q => decide (q.1 = c)).map (·.2)
def unE (i : Option Nat) (ρ : Env) : Env := match i with
  | some i => ρ.set i none
  | none => ρ
def inE (i : Option Nat) (d : D) (ρ : Env) : Env := match i with
  | some i => ρ.set i (some d)
  | none => ρ
def hEnd (i : Option Nat) : OutS → OutS
  | .nx ρ S => .nx (unE i ρ) S
  | .rt d S => .rt d S
  | .bk ρ S => .bk (unE i ρ) S
  | .ct ρ S => .ct (unE i ρ) S
  | .exc _ _ _ _ => .stuck
  | .stuck => .stuck
def caught (c : Str) (fs : List (Str × D)) : D := .exn c (fs.map (·.1)) (fs.map (·.2))
def goH (c : Str) (fs : List (Str × D)) (anc : List Str) : List (Str × Option Nat × SemS) → SemS
  | [], ρ, S => .exc c fs ρ S
  | (h, i, g) :: r, ρ, S => if anc.contains h then hEnd i (g (inE i (caught c fs) ρ) S) else goH c fs anc r ρ S
def sTry (tbl : XTbl) (b : SemS) (hds : List (Str × Option Nat × SemS)) : SemS := fun ρ S => match b ρ S with
  | .exc c fs ρ1 S1 => (match tbl.at c with
    | some anc => goH c fs anc hds ρ1 S1
    | none => .stuck)
  | o => o
theorem XTbl.at_mem {tbl : XTbl} {c : Str} {anc : List Str} (h : tbl.at c = some anc) : (c, anc) ∈ tbl := by
  unfold XTbl.at at h
  obtain ⟨q, h1, h2⟩ := Option.map_eq_some_iff.mp h
  have e := List.find?_some h1
  have e : q.1 = c := by simpa using e
  have m := List.mem_of_find?_eq_some h1
  rw [← e, ← h2]
  exact m
/-- a thing that stands outside is frozen -/
theorem Sim.take {K : PySem.W.Frag} {mg : Str → Option Value} {F H F0 H0 : Hp} {ι ι0 : List Addr} {S : Store} (s : Sim K mg F ι S H) (st : Step F0 ι0 H0 F ι H) {p : Addr} {o : HO} (h0 : H0 p = none) (hF : F p = none) (hi : p ∉ ι) (hH : H p = some o) (ho : ∀ ps, o ≠ .tbl ps := by intro _ z; cases z) :
    Step F0 ι0 H0 (upd F p o) ι H ∧ Sim K mg (upd F p o) ι S H := by
  have x : Ext F ι (upd F p o) ι := ⟨same_upd hF, List.prefix_rfl⟩
  refine ⟨⟨st.toExt.trans x, fun b o' e1 e2 e3 e4 => ?_, st.dom⟩, fun b u e => ?_, s.len, s.nd, fun n a c ha hc => ?_, s.cl, s.tab, nt_upd s.nt ho, s.tt⟩
  · obtain ⟨k1, k2, k3⟩ := st.keep b o' e1 e2 e3 e4
    have ne : b ≠ p := ne_of_none e1 h0
    exact ⟨k1, by rw [upd_ne ne]; exact k2, k3⟩
  · by_cases hb : b = p
    · subst hb
      rw [upd_same] at e
      rw [hH]
      exact e
    · rw [upd_ne hb] at e
      exact s.sub b u e
  · have ne : a ≠ p := fun e => hi (e ▸ List.mem_of_getElem? ha)
    exact (s.cell n a c ha hc).mono x (fun e => by rw [upd_ne ne]; exact e) fun o' e => e
section
variable {X : Cx} {W : WX} {tbl : XTbl} {F0 H0 F H : Hp} {ι0 ι : List Addr} {S : Store} {σ : L2.St} {ρ : Env} {Dn : Ends} {C : Addr} {d : Option Addr} {c : Str} {fs : List (Str × D)} {anc : List Str}
structure TblOk (K : PySem.W.Frag) (mg : Str → Option Value) (tbl : XTbl) : Prop where
  ok : ∀ q ∈ tbl, ∀ C, mg q.1 = some (.ref C) → PySem.W.nsIn K mainGlobals q.1 = some (some (.ref C))
end
section
variable {X : Cx} {e : Expr} {es : List Expr} {ta : TA} {p pos : Pos}
/-- C(e, ..): an exception whose context is None -/
theorem pmk_oexN {CX : CXT} {x : Str} {C fI : Addr} {k : Nat} {fd : FuncData} {ps : List Str} {sp : Sp} {ds : List Value} {dvs : List V} (T : OexC X.K C) (iC : PySem.W.findIn X.K (.ref C) "__init__" = some (some (.ref fI))) (tI : PySem.W.typeIn X.K (.ref fI) = some (.type "function"))
    (F1 : FnOk X.prog X.w X.K X.mg X.base CX k fI fd ps sp) (hr : Room (k + 1) X.A) (hb : Binds X.K fd ps ds) (hd : Vals dvs ds) (hx : Passes CX X (fun _ _ _ => False)) (hg : Gl X x) (hm : X.mg x = some (.ref C)) (ha : PA X (e :: es) ta)
    (hdb : (x == ("__debug__" : Str)) = false := by decide) (he : starEach (e :: es) X.env = (false, eval e X.env) :: starEach es X.env := by rfl) (hpl : (backTo pos (starEach es X.env)).any (·.1) = false := by rfl) :
    L2N.PMk X (.Call (.Name x p) (e :: es) [] pos) (tMkO C sp dvs ta) := by
  intro pins s σ H Q I h
  obtain ⟨nm, q, N, bs, bm, sn, sub, ab, col, dd, k0, k1, k2, k3, k5, hC, hbm⟩ := T.cls
  refine wpAny_Call_Name_kw (ld_glob I hg hm ?_ hdb)
  refine PySem.W.callWith_K (h₀ := X.base) I.ok.mod.kin T.kC (thn (ha.run pos pins s σ H _ I h) fun us s1 ⟨vs, H1, I1, r1, hz, q1⟩ => ⟨I1.kIn, ?_⟩) he hpl
  show wpAny _ _ (call (.ref C) us) _ _ _
  obtain ⟨hp, g, dr, tk, os⟩ := s1
  have hsz : hp.objs.size ≤ hp.objs.size + 1 := Nat.le_succ _
  have hn : H1 (hp.objs.size + 1) = none := I1.hok.fresh hsz
  have hq := q1 (hp.objs.size + 1) hn
  have kk : ∀ b o, hp.get? b = some o → ((hp.push (PySem.W.kdv_tup us)).push (PySem.HandSPX.excO C hp.objs.size)).get? b = some o := fun b o e => Heap.get?_push_of_some _ (Heap.get?_push_of_some _ e)
  have hget : ((hp.push (PySem.W.kdv_tup us)).push (PySem.HandSPX.excO C hp.objs.size)).get? (hp.objs.size + 1) = some (PySem.HandSPX.excO C hp.objs.size) := by heap_get
  have I2 : Inv X pins σ (upd H1 (hp.objs.size + 1) (exo (hp.objs.size + 1) C none)) ⟨(hp.push (PySem.W.kdv_tup us)).push (PySem.HandSPX.excO C hp.objs.size), g, dr, tk, os⟩ :=
    I1.laid (t' := tk) (a := hp.objs.size + 1) (o := exo (hp.objs.size + 1) C none) (h' := (hp.push (PySem.W.kdv_tup us)).push (PySem.HandSPX.excO C hp.objs.size)) kk hsz (exo_ok hget)
  have r2 : Vals (V.ref (hp.objs.size + 1) :: (vs ++ dvs)) (Value.ref (hp.objs.size + 1) :: (us ++ ds)) := .cons rfl (r1.append hd)
  have hl : (Value.ref (hp.objs.size + 1) :: us ++ ds).length = ps.length := by
    have e := r2.length
    rw [F1.len _ _ _ _ hq] at e
    exact e.symm
  have hus : us.length ≤ sizeLine := by
    rw [← Paired.length r1, sizeLine_eq]
    omega
  refine wpAny_call (PySem.HandSPX.call_own F.excBase_ValueError (fun Y => PySem.HandSPX.refsVE_contains Y bm hbm) (I1.kIn _ _ hC) (PySem.W.looks_findIn I1.kIn iC) (fun self => PySem.W.bind_fn I1.kIn self tI) hus
    (codeAny_mono (F1.run _ X.stack _ _ ⟨Value.ref (hp.objs.size + 1) :: us, []⟩ (Value.ref (hp.objs.size + 1) :: (us ++ ds)) _ _ (fun _ _ _ => False) (hr.make C us []) (I2.env0.make C us []) (hb _ (Value.ref (hp.objs.size + 1) :: us) I2.kIn hl) r2 hq) fun r s' hq' => ?_))
  cases r with
  | error er => exact hx pins σ _ _ er s' I2 hq'
  | ok fl =>
    cases fl with
    | ret u =>
      obtain ⟨v, H2, os2, bare2, un2, hok2, rv, ev, d, fs, ea, ed, hd1, q2⟩ := hq'
      subst ev
      obtain ⟨h2, g2, d2, t2, os'⟩ := s'
      obtain ⟨t0, G, J, kG, ge, hoe, na⟩ := mk_end0 (d2 := d2) (t2 := t2) I1 hsz kk un2 hok2 os2 bare2 ea ed hd1
      refine ⟨rv, ⟨hp.objs.size + 1, _, _, ⟨G, g2, d2, t2, os'⟩, _, .ref C, some d, rfl, J, kG, ge, hoe, ⟨rfl, rfl, fun vs hv => ?_⟩, rfl, rfl, na, rfl, bare2, raises_own T.exC T.tyC, q2⟩⟩
      cases hv
      rfl
    | next => exact False.elim hq'
    | brk => exact False.elim hq'
    | cont => exact False.elim hq'
end
def sRaise (c : Str) (fl : List Str) (fa : SemA) : SemS := fun ρ S => toS (fa ρ S) ρ fun ds S1 => if ds.length = fl.length then .exc c (fl.zip ds) ρ S1 else .stuck
/-- __init__(self, f): self.f = f -/
def spI (K : PySem.W.Frag) (f : Str) : Sp := fun vs H Q _ => ∃ (a C : Addr) (v : V), vs = [.ref a, v] ∧ OexC K C ∧ PySem.W.findIn K (.ref C) f = some none ∧ H a = some (exo a C none) ∧ ∀ d, H d = none → d ≠ a → Q .non (upd (upd H d (exd d [(f, v)])) a (exo a C (some d)))
/-- an own exception class with one field -/
structure Exc1 (P : Program) (w : World) (K : PySem.W.Frag) (mg : Str → Option Value) (base : Heap) (x f : Str) : Prop where
  ex : ∃ (C fI : Addr) (fd : FuncData), mg x = some (.ref C) ∧ OexC K C ∧ PySem.W.findIn K (.ref C) f = some none ∧ PySem.W.findIn K (.ref C) "__init__" = some (some (.ref fI)) ∧ PySem.W.typeIn K (.ref fI) = some (.type "function") ∧
    FnOk P w K mg base (L2N.CX P w) 1 fI fd ["self", f] (spI K f) ∧ Binds K fd ["self", f] []
section
variable {P : Program} {w : World} {K : PySem.W.Frag} {mg : Str → Option Value} {base : Heap} {qual f : Str} {params : Arguments} {scope : Scope} {fI : Addr} {fd : FuncData} {q1 q2 q3 q4 : Pos}
theorem init1 (F : FunD K "__init__" qual params [.Assign [.Attribute (.Name "self" q1) f q2] (.Name f q3) q4] scope [] [] fI fd) (S : FnScope ["self", f] ["self", f] scope) (hvs : scope.names.lookup ("self" : Str) = some .local) (hvf : scope.names.lookup f = some .local) (hd : (f == ("__debug__" : Str)) = false) (hcd : (f == ("__classdict__" : Str)) = false) : FnOk P w K mg base (L2N.CX P w) 1 fI fd ["self", f] (spI K f) := by
  obtain ⟨oc, od, dV, kV, doc, pm, an, cdv, ct, osl, rfl, lk, hcdv, _, _⟩ := F.ex
  refine fn_of lk hcdv S (fun vs H Q E ⟨a, C, v, e, _⟩ => by rw [e]; rfl) fun A outer s H vs Q E hr hsp => ?_
  obtain ⟨a, C, v, rfl, T, hno, ha, q⟩ := hsp
  refine ⟨_, pss_one (ps_ost (pv 0 (hv := .inl hvs)) (pv 1 (hv := .inl hvf) (hd := hd) (hcd := hcd))), ?_⟩
  refine ⟨v, rfl, .ref a, rfl, a, C, rfl, T, hno, .inl ⟨ha, fun dx h1 h2 => q dx h1 h2⟩⟩
end
section
variable {X : Cx} {W : WX} {k : Nat} {x f : Str} {p pos pos' : Pos} {e : Expr} {fe : SemE}
/-- an own exception class without fields -/
structure Exc0 (K : PySem.W.Frag) (mg : Str → Option Value) (x : Str) : Prop where
  ex : ∃ C : Addr, mg x = some (.ref C) ∧ PySem.W.excIn K C He.veBase "ValueError.__new__" = true ∧ PySem.W.keepIn K (.ref C) = true ∧ PySem.W.subIn K (.ref C) (.type "BaseException") = some true ∧ PySem.W.typeIn K (.ref C) = some (.type "type")
end
def lookF (ns : List Str) (ds : List D) (f : Str) : Option D := ((ns.zip ds).find? fun q => decide (q.1 = f)).map (·.2)
def opXf (cs : List Str) (f : Str) : D → Store → Option D := fun d _ => match d with
  | .exn c ns ds => if cs.contains c then lookF ns ds f else none
  | _ => none
section
variable {X : Cx} {W : WX} {e : Expr} {fe : SemE} {pos : Pos} {f : Str} {cs : List Str}
theorem lookF_rel {K : PySem.W.Frag} {F : Hp} {ι : List Addr} {f : Str} {d : D} : ∀ {fv : List (Str × V)} {ds : List D}, RelAll K F ι (fv.map (·.2)) ds → lookF (fv.map (·.1)) ds f = some d → ∃ v, fv.lookup f = some v ∧ Rel K F ι v d
  | [], _, _, h => by simp [lookF] at h
  | (g, v) :: fv, _, .cons (d := d') r rr, h => by
    unfold lookF at h
    simp only [List.map_cons, List.zip_cons_cons, List.find?_cons] at h
    by_cases e : g = f
    · subst e
      simp at h
      subst h
      exact ⟨v, by simp [List.lookup], r⟩
    · simp only [e, decide_false] at h
      obtain ⟨w, h1, h2⟩ := lookF_rel rr h
      have e2 : (f == g) = false := by simpa using Ne.symm e
      exact ⟨w, by simp [List.lookup, e2, h1], h2⟩
structure XfTbl (K : PySem.W.Frag) (cs : List Str) (f : Str) : Prop where
  ok : ∀ c ∈ cs, ∀ C, PySem.W.nsIn K mainGlobals c = some (some (.ref C)) → XfC K C ∧ PySem.W.findIn K (.ref C) f = some none
theorem xe_xattr (hX : XfTbl X.K cs f) (he : XE X W e fe) (hb : attributeBase e f X.env (eval e X.env) = eval e X.env := by rfl) :
    XE X W (.Attribute e f pos) (eUn (opXf cs f) fe) := by
  refine ⟨fun pins s σ H Q I h => ?_⟩
  obtain ⟨F, ι, ρ, S, sm, r, q⟩ := h
  have key : tE ⟨X.K, X.mg, W⟩ fe σ H fun v H1 => ∃ (a C dx : Addr) (fv : List (Str × V)) (w : V), v = .ref a ∧ H1 a = some (xo a C (some dx)) ∧ H1 dx = some (.xd fv) ∧ fv.lookup f = some w ∧ XfC X.K C ∧ PySem.W.findIn X.K (.ref C) f = some none ∧ Q w H1 := by
    refine ⟨F, ι, ρ, S, sm, r, post_bind (R := RV' X.K) q fun x S1 F1 ι1 v H1 x1 s1 rv q1 => ?_⟩
    obtain ⟨z, hz, q3⟩ := post_lift q1
    have rv : Rel X.K F1 ι1 v x := rv
    cases x with
    | exn c ns ds =>
      have hz : (if cs.contains c then lookF ns ds f else none) = some z := hz
      split at hz
      · next hc =>
        have hc : c ∈ cs := by simpa using hc
        cases rv with
        | exn0 h1 h2 => simp [lookF] at hz
        | @exn a C dx _ fv _ _ h1 h2 h3 h4 h5 =>
          subst h4
          obtain ⟨w, g1, g2⟩ := lookF_rel h5 hz
          obtain ⟨k1, k2⟩ := hX.ok c hc C h2
          exact ⟨a, C, dx, fv, w, rfl, s1.sub _ _ h1, s1.sub _ _ h3, g1, k1, k2, q3 F1 ι1 w H1 (Step.refl _ _ _) s1 g2⟩
      · cases hz
    | _ => cases hz
  refine attr_of hb (thn (he.run pins s σ H _ I key) fun u s1 hh => ?_)
  obtain ⟨x, H1, I1, rx, a, C, dx, fv, v, ex, ea, ed, l, T, hno, q⟩ := hh
  subst ex
  obtain rfl : u = Value.ref a := rx
  obtain ⟨oe, ho1, hz1, hz2, vs, hd⟩ := xo_at I1.hok ea
  have hx : ObjOk X.prog X.w H1 s1.heap dx (.xd fv) := I1.hok dx _ ed
  obtain ⟨mA, hns, hr⟩ := hx
  obtain ⟨od, ho, hl⟩ := lookIn_ns hns
  obtain ⟨u, hu, ru⟩ := RelO.some_of (v := v) (o := mA f) (by rw [← l]; exact hr f)
  have J : PySem.W.InstAt s1.heap a oe C (some od) := ⟨ho1, hz1, by unfold PySem.W.notCls; rw [hd] <;> rfl, by rw [hz2]; exact ho⟩
  exact HandSPX.exc_get I1.kIn J T.ga T.gg T.exC (PySem.W.findObj_own T.hdC hno rfl (by rw [hl, hu])) (handed_of ru) ⟨v, H1, I1.tok _, ru, q⟩
/-- isinstance of a caught one -/
def rIsX (K : PySem.W.Frag) : List V → Hp → VK → Prop := fun xs H Q => ∃ (a C : Addr) (d : Option Addr) (c : V) (cv : Value) (b : Bool), xs = [.ref a, c] ∧ (∀ u, RelV c u → u = cv) ∧ H a = some (xo a C d) ∧ (d = none ∨ ∃ dx fv, d = some dx ∧ H dx = some (.xd fv)) ∧ ExcC K C ∧ PySem.W.kitOne K (.ref C) cv = some b ∧ Q (.bl b) H
theorem call_isX : CallR X (.builtin "isinstance") (rIsX X.K) := by
  intro pins s σ H xs us Q I r h
  obtain ⟨a, C, d, c, cv, b, rfl, hcv, ha, hd, T, e, q⟩ := h
  cases r with
  | cons rx rr =>
    cases rr with
    | cons rt rr =>
      cases rr
      cases rx
      have ec := hcv _ rt
      subst ec
      obtain ⟨oe, ho1, hz1, hz2, vs, hv⟩ := xo_at I.hok ha
      have hcl : (PySem.W.clsIn X.K C).isSome = true := by
        obtain ⟨cd, hc, _⟩ := PySem.W.any_some T.hd
        rw [hc]; rfl
      have J : ∃ od, PySem.W.InstAt s.heap a oe C od := by
        rcases hd with rfl | ⟨dx, fv, rfl, hx⟩
        · exact ⟨none, ho1, hz1, by unfold PySem.W.notCls; rw [hv] <;> rfl, by rw [hz2]; trivial⟩
        · have hx : ObjOk X.prog X.w H s.heap dx (.xd fv) := I.hok dx _ hx
          obtain ⟨mA, hns, hr⟩ := hx
          obtain ⟨od, ho, hl⟩ := lookIn_ns hns
          exact ⟨some od, ho1, hz1, by unfold PySem.W.notCls; rw [hv] <;> rfl, by rw [hz2]; exact ho⟩
      obtain ⟨od, J⟩ := J
      exact PySem.W.kia_one (PySem.W.kitx_exc hcl T.hg T.hk T.hs T.ha T.hn T.ht T.hm) I.kIn J e (fun z => nomatch z) fun tk => ⟨.bl b, H, I.kept (t' := tk) fun _ _ z => z, rfl, q⟩
def opIsX (tbl : XTbl) (T : Str) : D → Store → Option D := fun d _ => match d with
  | .exn c _ _ => (tbl.at c).map fun anc => .bl (anc.contains T)
  | _ => none
structure IsTbl (K : PySem.W.Frag) (mg : Str → Option Value) (tbl : XTbl) (y : Str) : Prop where
  ex : ∃ CT, mg y = some (.ref CT) ∧ ∀ q ∈ tbl, ∀ C, PySem.W.nsIn K mainGlobals q.1 = some (some (.ref C)) → ExcC K C ∧ PySem.W.kitOne K (.ref C) (.ref CT) = some (q.2.contains y)
theorem xe_isX {a : Expr} {fe : SemE} {tbl : XTbl} {y : Str} {p1 p2 pos : Pos} (T : IsTbl X.K X.mg tbl y) (ha : XE X W a fe) (hg : Gl X "isinstance") (hm : X.mg "isinstance" = none) (hg2 : Gl X y)
    (hd2 : (y == ("__debug__" : Str)) = false := by decide) (hs : starEach [a, .Name y p2] X.env = (false, eval a X.env) :: starEach [.Name y p2] X.env := by rfl) (hs2 : starEach [.Name y p2] X.env = (false, eval (.Name y p2) X.env) :: starEach [] X.env := by rfl) (hpl : (backTo pos (starEach [.Name y p2] X.env)).any (·.1) = false := by rfl) :
    XE X W (.Call (.Name "isinstance" p1) [a, .Name y p2] [] pos) (eUn (opIsX tbl y) fe) := by
  obtain ⟨CT, hm2, hT⟩ := T.ex
  refine peI (pe_callB call_isX hg hm (by decide +kernel) (pa_cons ha (pa_cons (pe_glob (v := .ref CT) hg2 hm2 rfl hd2) pa_nil hs2) hs) (by decide) (by decide) hs hpl) fun σ H Q h => ?_
  obtain ⟨F, ι, ρ, S, s, r, q⟩ := h
  refine ⟨F, ι, ρ, S, s, r, post_bind (R := RV' X.K) q fun x S1 F1 ι1 v H1 x1 s1 rv q1 => ?_⟩
  obtain ⟨z, hz, q3⟩ := post_lift q1
  have rv : Rel X.K F1 ι1 v x := rv
  cases x with
  | exn c ns ds =>
    have hz : ((tbl.at c).map fun anc => D.bl (anc.contains y)) = some z := hz
    obtain ⟨anc, h1, rfl⟩ := Option.map_eq_some_iff.mp hz
    have hmem := XTbl.at_mem h1
    have hq := q3 F1 ι1 _ H1 (Step.refl _ _ _) s1 (.bl (anc.contains y))
    cases rv with
    | @exn0 a C _ g1 g2 =>
      obtain ⟨k1, k2⟩ := hT _ hmem C g2
      exact ⟨a, C, none, .ref CT, .ref CT, _, rfl, fun u hu => hu, s1.sub _ _ g1, .inl rfl, k1, k2, hq⟩
    | @exn a C dx _ fv _ _ g1 g2 g3 g4 g5 =>
      obtain ⟨k1, k2⟩ := hT _ hmem C g2
      exact ⟨a, C, some dx, .ref CT, .ref CT, _, rfl, fun u hu => hu, s1.sub _ _ g1, .inr ⟨dx, fv, rfl, s1.sub _ _ g3⟩, k1, k2, hq⟩
  | _ => cases hz
end
end Fk
set_option Elab.async false
set_option linter.all false
set_option maxRecDepth 100000
set_option maxHeartbeats 1000000
namespace Fk
open PySem PySem.Spec PyProof.Rows L2
def oexCls (K : PySem.W.Frag) (C : Addr) : Bool := match K.lookup C with
  | some ⟨.type "type", _, .cls cd, sl⟩ => (match cd.mro, sl.toList with
    | .ref C' :: bm, [_, _, _, _, some (.builtin n), _] => C' == C && n == "ValueError.__new__" && !cd.hasDel && (cd.hasDict && PySem.HandSPX.refsVE bm)
    | _, _ => false)
  | _ => false
theorem oexCls_ok {K : PySem.W.Frag} {C : Addr} (q : oexCls K C = true) : ∃ nm q N bs bm sn sub ab col dd k0 k1 k2 k3 k5, K.lookup C = some (excClassObj nm q C N bs bm true sn sub ab col dd k0 k1 k2 k3 k5 "ValueError.__new__") ∧ PySem.HandSPX.refsVE bm = true := by
  unfold oexCls at q
  split at q
  · rename_i dd cd sl ho
    split at q
    · rename_i C' bm k0 k1 k2 k3 n k5 hm hs
      simp only [Bool.and_eq_true, beq_iff_eq, Bool.not_eq_true'] at q
      obtain ⟨⟨⟨rfl, rfl⟩, hdel⟩, hh, ht⟩ := q
      obtain ⟨nm, bs, mro, ns, qn, hd, sn, sub, ab, col, del⟩ := cd
      dsimp only at hm hdel hh
      subst hm hdel hh
      have hsl : sl = #[k0, k1, k2, k3, some (.builtin "ValueError.__new__"), k5] := by
        obtain ⟨l⟩ := sl
        simp only at hs
        rw [hs]
      subst hsl
      exact ⟨nm, qn, ns, bs, bm, sn, sub, ab, col, dd, k0, k1, k2, k3, k5, ho, ht⟩
    · cases q
  · cases q
def eqV (a b : Option Value) : Bool := decide (a = b)
inductive Xc where
  | oex (c f : Str)
  | xf (c f : Str)
  | isx (c : Str)
  | kit (c t : Str) (b : Bool)
  | exm (c t : Str) (b : Bool)
  | lam (x : Str)
def Xc.ok (K : PySem.W.Frag) : Xc → Bool
  | .oex c f => oexCls K (He.ga K c) && (He.eqO (PySem.W.findIn K (.ref (He.ga K c)) "__setattr__") (some (some (.builtin "object.__setattr__"))) && (decide (PySem.W.subIn K (.ref (He.ga K c)) (.type "BaseException") = some true) && (eqV (PySem.W.typeIn K (.ref (He.ga K c))) (some (.type "type")) &&
      (PySem.W.keepIn K (.ref (He.ga K c)) && (He.eqO (PySem.W.findIn K (.ref (He.ga K c)) f) (some none) && (He.eqO (PySem.W.findIn K (.ref (He.ga K c)) "__init__") (some (some (.ref (He.ma K (He.ga K c) "__init__")))) && eqV (PySem.W.typeIn K (.ref (He.ma K (He.ga K c) "__init__"))) (some (.type "function"))))))))
  | .xf c f => xfB K (He.ga K c) && He.eqO (PySem.W.findIn K (.ref (He.ga K c)) f) (some none)
  | .isx c => He.eqO (PySem.W.findIn K (.ref (He.ga K c)) "__getattribute__") (some (some (.builtin "BaseException.__getattribute__"))) && (He.eqO (PySem.W.findIn K (.ref (He.ga K c)) "__getattr__") (some none) && (decide (PySem.W.subIn K (.ref (He.ga K c)) (.type "BaseException") = some true) &&
      (PySem.W.hasDictIn K (He.ga K c) && (He.eqO (PySem.W.findIn K (.ref (He.ga K c)) "__class__") (some (some (.builtin "object.__class__"))) && (He.eqO (PySem.W.specialIn K (.builtin "object.__class__") "__get__") (some (some (.builtin "getset_descriptor.__get__"))) &&
      (decide (PySem.W.takesIn K (.builtin "object.__class__") = some true) && decide (PySem.W.mroIn K (He.ga K c) (.type "object") = some true)))))))
  | .kit c t b => decide (PySem.W.kitOne K (.ref (He.ga K c)) (.ref (He.ga K t)) = some b)
  | .exm c t b => decide (PySem.W.exmOne K (.ref (He.ga K c)) (.ref (He.ga K t)) = some b)
  | .lam x => lamB K x
def xcs (l : List Xc) (K : PySem.W.Frag) : Bool := l.all fun x => x.ok K
/-- .. and which defs may make lambdas -/
def xct (tn : List Str) (l : List Xc) (K : PySem.W.Frag) : Bool := tbB tn K && xcs l K
section
variable {K : PySem.W.Frag} {mg : Str → Option Value} {P : Program} {w : World} {base : Heap} {c f t : Str} {l : List Xc}
theorem xcs_at (h : xcs l K = true) (i : Nat) {x : Xc} (e : l[i]? = some x) : x.ok K = true := List.all_eq_true.mp h x (List.mem_of_getElem? e)
theorem oex_ok (h : (Xc.oex c f).ok K = true) : OexC K (He.ga K c) ∧ PySem.W.findIn K (.ref (He.ga K c)) f = some none ∧ PySem.W.findIn K (.ref (He.ga K c)) "__init__" = some (some (.ref (He.ma K (He.ga K c) "__init__"))) ∧ PySem.W.typeIn K (.ref (He.ma K (He.ga K c) "__init__")) = some (.type "function") := by
  obtain ⟨h1, h⟩ := He.ba h
  obtain ⟨h2, h⟩ := He.ba h
  obtain ⟨h3, h⟩ := He.ba h
  obtain ⟨h4, h⟩ := He.ba h
  obtain ⟨h5, h⟩ := He.ba h
  obtain ⟨h6, h⟩ := He.ba h
  obtain ⟨h7, h8⟩ := He.ba h
  exact ⟨⟨oexCls_ok h1, He.eqO_ok h2, of_decide_eq_true h3, of_decide_eq_true h4, h5⟩, He.eqO_ok h6, He.eqO_ok h7, of_decide_eq_true h8⟩
theorem isx_ok (h : (Xc.isx c).ok K = true) : ExcC K (He.ga K c) := by
  obtain ⟨h1, h⟩ := He.ba h
  obtain ⟨h2, h⟩ := He.ba h
  obtain ⟨h3, h⟩ := He.ba h
  obtain ⟨h4, h⟩ := He.ba h
  obtain ⟨h5, h⟩ := He.ba h
  obtain ⟨h6, h⟩ := He.ba h
  obtain ⟨h7, h8⟩ := He.ba h
  exact ⟨He.eqO_ok h1, He.eqO_ok h2, of_decide_eq_true h3, h4, He.eqO_ok h5, He.eqO_ok h6, of_decide_eq_true h7, of_decide_eq_true h8⟩
theorem xf_ok (h : (Xc.xf c f).ok K = true) : XfC K (He.ga K c) ∧ PySem.W.findIn K (.ref (He.ga K c)) f = some none := by
  obtain ⟨h1, h2⟩ := He.ba h
  exact ⟨xfB_ok h1, He.eqO_ok h2⟩
/-- told of a table, entry by entry -/
def AllT {α : Type} (P : α → Prop) : List α → Prop
  | [] => True
  | q :: r => P q ∧ AllT P r
theorem AllT.all {α : Type} {P : α → Prop} : ∀ {l : List α}, AllT P l → ∀ q ∈ l, P q
  | [], _, q, h => nomatch h
  | x :: r, ⟨a, b⟩, q, h => by
    rcases List.mem_cons.mp h with rfl | h
    · exact a
    · exact AllT.all b q h
theorem ga_ns (h : (He.Fa.glo c).ok K = true) : PySem.W.nsIn K mainGlobals c = some (some (.ref (He.ga K c))) := He.eqO_ok h
theorem here_m {Q : Addr → Prop} (h : mg c = some (.ref (He.ga K c))) (q : Q (He.ga K c)) : ∀ C, mg c = some (.ref C) → Q C := fun C e => by rw [h] at e; cases e; exact q
theorem here_n {Q : Addr → Prop} (h : PySem.W.nsIn K mainGlobals c = some (some (.ref (He.ga K c)))) (q : Q (He.ga K c)) : ∀ C, PySem.W.nsIn K mainGlobals c = some (some (.ref C)) → Q C := fun C e => by rw [h] at e; cases e; exact q
theorem exc1_of {fI : Addr} {fd : FuncData} (hm : mg c = some (.ref (He.ga K c))) (h : (Xc.oex c f).ok K = true) (e : fI = He.ma K (He.ga K c) "__init__") (F : FnOk P w K mg base (L2N.CX P w) 1 fI fd ["self", f] (spI K f)) (hb : Binds K fd ["self", f] []) : Exc1 P w K mg base c f := by
  subst e
  obtain ⟨h1, h2, h3, h4⟩ := oex_ok h
  exact ⟨_, _, fd, hm, h1, h2, h3, h4, F, hb⟩
theorem exc0_of (hm : mg c = some (.ref (He.ga K c))) (h : (He.Fa.exc c).ok K = true) : Exc0 K mg c := by
  obtain ⟨h1, h2, h3, h4⟩ := He.exc_ok h
  exact ⟨_, hm, h1, h2, h3, h4⟩
end
def frTbl : XTbl := [("FrankError", ["FrankError"]), ("BadAnswers", ["BadAnswers", "FrankError"]), ("BadBatch", ["BadBatch", "FrankError"]), ("BadBelief", ["BadBelief", "FrankError"]), ("BadMark", ["BadMark", "FrankError"]), ("BadMenu", ["BadMenu", "FrankError"]), ("BadNumber", ["BadNumber", "FrankError"]), ("BadRow", ["BadRow", "FrankError"]), ("BadText", ["BadText", "FrankError"]), ("Busy", ["Busy", "FrankError"]), ("LastWord", ["LastWord", "FrankError"]), ("NoAnswer", ["NoAnswer", "FrankError"]), ("NoCell", ["NoCell", "FrankError"]), ("NotFrank", ["NotFrank", "FrankError"]), ("NothingToUndo", ["NothingToUndo", "FrankError"]), ("NoVersion", ["NoVersion", "FrankError"]), ("NoWord", ["NoWord", "FrankError"]), ("Rejected", ["Rejected", "FrankError"]), ("TooFew", ["TooFew", "FrankError"]), ("TooGreat", ["TooGreat", "FrankError"]), ("TooMany", ["TooMany", "FrankError"]), ("TooManyEdits", ["TooManyEdits", "FrankError"]), ("Unlike", ["Unlike", "FrankError"])]
def csGiven : List Str := ["BadAnswers", "BadBelief", "BadMark", "BadNumber", "BadRow", "BadText", "NoAnswer", "NoVersion", "NoWord"]
def csWord : List Str := ["NoCell", "NotFrank"]
def csLimit : List Str := ["TooMany"]
def csError : List Str := ["BadMenu"]
def csIndex : List Str := ["Rejected"]
def csWeights : List Str := ["NotFrank"]
def inC (s : Stmt) (j : Nat) : Stmt := match s with
  | .ClassDef _ _ _ b _ _ _ _ _ _ _ => b.getD j (.Pass ⟨0, 0, 0, 0⟩)
  | s => s
end Fk
set_option Elab.async false
set_option linter.all false
set_option maxRecDepth 100000
set_option maxHeartbeats 1000000
namespace Fk
open PySem PySem.Spec PyProof.Rows L2
def sumDA : List D → Store → Option D
  | [d], S => match dr S d with
    | .lst xs => (asInts xs).map fun ns => .int ns.sum
    | .tup xs => (asInts xs).map fun ns => .int ns.sum
    | _ => none
  | _, _ => none
section
end
end Fk
set_option Elab.async false
set_option linter.all false
set_option maxRecDepth 100000
set_option maxHeartbeats 2000000
namespace Fk.Z
open PySem PySem.Spec PyProof.Rows L2
def ItAt (k : Bool) (h : Heap) (it l : Addr) (i : Nat) : Prop := match k with
  | true => h.IsListIter it l i
  | false => h.IsTupleIter it l i
theorem ItAt.go {k : Bool} {h h' : Heap} {a l : Addr} {i : Nat} (x : ItAt k h a l i) (e : ∀ o, h.get? a = some o → h'.get? a = some o) : ItAt k h' a l i := by
  cases k with
  | true => exact Heap.IsListIter.at x e
  | false => exact Heap.IsTupleIter.at x e
section
end
section
end
def SqK (k : Bool) (K : PySem.W.Frag) (H : Hp) (a : Addr) (xs : List V) : Prop := match k with
  | true => SqL K H a xs
  | false => SqT K H a xs
section
variable {X : Cx} {pins : List (Addr × Obj)} {σ : L2.St} {H : Hp} {s : Shared} {k : Bool} {a : Addr} {xs ys : List V}
theorem SqK.inj (I : Inv X pins σ H s) (h : SqK k X.K H a xs) (g : SqK k X.K H a ys) : xs = ys := by
  cases k with
  | true => exact I.list_inj h g
  | false => exact I.tuple_inj h g
end
end Fk.Z
namespace Fk
open PySem PySem.Spec PyProof.Rows L2 Fk.Z
section
end
end Fk
set_option Elab.async false
set_option linter.all false
set_option maxRecDepth 100000
namespace Fk
open PySem PySem.Spec PyProof.Rows L2
abbrev EX := Str → List (Str × D) → Store → Prop
structure Out.wp {α : Type} (o : Out α) (Q : α → Store → Prop) (E : EX) : Prop where
  run : match o with
    | .ok a S => Q a S
    | .exc c fs S => E c fs S
    | .stuck => False
structure KS where
  nx : Env → Store → Prop
  rt : D → Store → Prop
  bk : Env → Store → Prop
  ct : Env → Store → Prop
  ex : Str → List (Str × D) → Env → Store → Prop
structure OutS.wp (o : OutS) (k : KS) : Prop where
  run : match o with
    | .nx ρ S => k.nx ρ S
    | .rt d S => k.rt d S
    | .bk ρ S => k.bk ρ S
    | .ct ρ S => k.ct ρ S
    | .exc c fs ρ S => k.ex c fs ρ S
    | .stuck => False
section
variable {α β : Type} {Q : α → Store → Prop} {E : EX} {ρ : Env} {S : Store} {k : KS}
theorem Out.wp.mono {o : Out α} {Q Q' : α → Store → Prop} {E E' : EX} (h : o.wp Q E) (hq : ∀ a S, Q a S → Q' a S) (he : ∀ c fs S, E c fs S → E' c fs S) : o.wp Q' E' := by
  cases o with
  | ok a S => exact ⟨hq _ _ h.run⟩
  | exc c fs S => exact ⟨he _ _ _ h.run⟩
  | stuck => exact h.run.elim
theorem Out.wp.conseq {o : Out α} {Q Q' : α → Store → Prop} {E : EX} (h : o.wp Q E) (hq : ∀ a S, Q a S → Q' a S) : o.wp Q' E := h.mono hq fun _ _ _ z => z
/-- no exception comes -/
theorem Out.wp.no {o : Out α} {Q Q' : α → Store → Prop} {E : EX} (h : o.wp Q fun _ _ _ => False) (hq : ∀ a S, Q a S → Q' a S) : o.wp Q' E := h.mono hq fun _ _ _ z => z.elim
@[simp] theorem wp_ok (a : α) : (Out.ok a S).wp Q E = Q a S := propext ⟨fun h => h.run, fun h => ⟨h⟩⟩
@[simp] theorem wp_exc (c : Str) (fs : List (Str × D)) : (Out.exc c fs S : Out α).wp Q E = E c fs S := propext ⟨fun h => h.run, fun h => ⟨h⟩⟩
@[simp] theorem wp_stuck : (Out.stuck : Out α).wp Q E = False := propext ⟨fun h => h.run, fun h => ⟨h⟩⟩
@[simp] theorem wp_bind (o : Out α) (f : α → Store → Out β) (Q : β → Store → Prop) : (o.bind f).wp Q E = o.wp (fun a S => (f a S).wp Q E) E := by cases o <;> simp
@[simp] theorem wp_lift (o : Option α) : (lift o S).wp Q E = ∃ a, o = some a ∧ Q a S := by cases o <;> simp [lift]
theorem wp_ite (c : Prop) [Decidable c] (a b : Out α) : (if c then a else b).wp Q E = if c then a.wp Q E else b.wp Q E := by split <;> rfl
@[simp] theorem wp_itestuck (c : Prop) [Decidable c] (a : Out α) : (if c then a else .stuck).wp Q E = (c ∧ a.wp Q E) := by split <;> simp_all
@[simp] theorem wpS_nx : (OutS.nx ρ S).wp k = k.nx ρ S := propext ⟨fun h => h.run, fun h => ⟨h⟩⟩
@[simp] theorem wpS_rt (d : D) : (OutS.rt d S).wp k = k.rt d S := propext ⟨fun h => h.run, fun h => ⟨h⟩⟩
@[simp] theorem wpS_bk : (OutS.bk ρ S).wp k = k.bk ρ S := propext ⟨fun h => h.run, fun h => ⟨h⟩⟩
@[simp] theorem wpS_ct : (OutS.ct ρ S).wp k = k.ct ρ S := propext ⟨fun h => h.run, fun h => ⟨h⟩⟩
@[simp] theorem wpS_exc (c : Str) (fs : List (Str × D)) : (OutS.exc c fs ρ S).wp k = k.ex c fs ρ S := propext ⟨fun h => h.run, fun h => ⟨h⟩⟩
@[simp] theorem wpS_stuck : OutS.stuck.wp k = False := propext ⟨fun h => h.run, fun h => ⟨h⟩⟩
@[simp] theorem wpS_toS (o : Out α) (f : α → Store → OutS) : (toS o ρ f).wp k = o.wp (fun a S => (f a S).wp k) (fun c fs S => k.ex c fs ρ S) := by cases o <;> simp [toS]
def kEx (k : KS) (ρ : Env) : EX := fun c fs S => k.ex c fs ρ S
@[simp] theorem kEx_eq (c : Str) (fs : List (Str × D)) : kEx k ρ c fs S = k.ex c fs ρ S := rfl
def kSeq (h : SemS) (k : KS) : KS := { k with nx := fun ρ S => (h ρ S).wp k }
@[simp] theorem kSeq_nx (h : SemS) : (kSeq h k).nx ρ S = (h ρ S).wp k := rfl
@[simp] theorem kSeq_rt (h : SemS) : (kSeq h k).rt = k.rt := rfl
@[simp] theorem kSeq_bk (h : SemS) : (kSeq h k).bk = k.bk := rfl
@[simp] theorem kSeq_ct (h : SemS) : (kSeq h k).ct = k.ct := rfl
@[simp] theorem kSeq_ex (h : SemS) : (kSeq h k).ex = k.ex := rfl
@[simp] theorem kEx_seq (h : SemS) : kEx (kSeq h k) ρ = kEx k ρ := rfl
@[simp] theorem wp_sNext : (sNext ρ S).wp k = k.nx ρ S := wpS_nx
def kAsg (i : Nat) (ρ : Env) (k : KS) (d : D) (S : Store) : Prop := k.nx (ρ.set i (some d)) S
@[simp] theorem kAsg_eq (i : Nat) (d : D) : kAsg i ρ k d S = k.nx (ρ.set i (some d)) S := rfl
@[simp] theorem wp_sAsg (i : Nat) (f : SemE) : (sAsg i f ρ S).wp k = (f ρ S).wp (kAsg i ρ k) (kEx k ρ) := by
  simp only [sAsg, wpS_toS, wpS_nx]
  rfl
def kExp (ρ : Env) (k : KS) (_ : D) (S : Store) : Prop := k.nx ρ S
@[simp] theorem kExp_eq (d : D) : kExp ρ k d S = k.nx ρ S := rfl
@[simp] theorem wp_sExp (f : SemE) : (sExp f ρ S).wp k = (f ρ S).wp (kExp ρ k) (kEx k ρ) := by
  simp only [sExp, wpS_toS, wpS_nx]
  rfl
@[simp] theorem wp_sRet (f : SemE) : (sRet f ρ S).wp k = (f ρ S).wp k.rt (kEx k ρ) := by
  simp only [sRet, wpS_toS, wpS_rt]
  rfl
@[simp] theorem wp_sRetN : (sRetN ρ S).wp k = k.rt .non S := wpS_rt _
@[simp] theorem wp_sSeq (g h : SemS) : (sSeq g h ρ S).wp k = (g ρ S).wp (kSeq h k) := by
  unfold sSeq
  cases g ρ S <;> simp
theorem wpS_ite (c : Prop) [Decidable c] (a b : OutS) : (if c then a else b).wp k = if c then a.wp k else b.wp k := by split <;> rfl
def kIf (g h : SemS) (ρ : Env) (k : KS) (b : Bool) (S : Store) : Prop := if b then (g ρ S).wp k else (h ρ S).wp k
@[simp] theorem kIf_t (g h : SemS) : kIf g h ρ k true S = (g ρ S).wp k := rfl
@[simp] theorem kIf_f (g h : SemS) : kIf g h ρ k false S = (h ρ S).wp k := rfl
@[simp] theorem wp_sIf (t : SemT) (g h : SemS) : (sIf t g h ρ S).wp k = (t ρ S).wp (kIf g h ρ k) (kEx k ρ) := by
  simp only [sIf, wpS_toS, wpS_ite]
  rfl
def kAsgT (g : SemG) (ρ : Env) (k : KS) (d : D) (S : Store) : Prop := ∃ ρ1, g d ρ S = some ρ1 ∧ k.nx ρ1 S
@[simp] theorem kAsgT_eq (g : SemG) (d : D) : kAsgT g ρ k d S = ∃ ρ1, g d ρ S = some ρ1 ∧ k.nx ρ1 S := rfl
@[simp] theorem wp_sAsgT (g : SemG) (f : SemE) : (sAsgT g f ρ S).wp k = (f ρ S).wp (kAsgT g ρ k) (kEx k ρ) := by
  simp only [sAsgT, wpS_toS]
  congr 1
  funext d S1
  rw [kAsgT_eq]
  cases g d ρ S1 <;> simp
def kPar (i j : Nat) (ρ : Env) (k : KS) (ds : List D) (S : Store) : Prop := match ds with
  | [d, e] => k.nx ((ρ.set i (some d)).set j (some e)) S
  | _ => False
@[simp] theorem kPar_eq (i j : Nat) (d e : D) : kPar i j ρ k [d, e] S = k.nx ((ρ.set i (some d)).set j (some e)) S := rfl
@[simp] theorem wp_sPar (i j : Nat) (fa : SemA) : (sPar i j fa ρ S).wp k = (fa ρ S).wp (kPar i j ρ k) (kEx k ρ) := by
  simp only [sPar, wpS_toS]
  congr 1
  funext ds S1
  match ds with
  | [] => simp [kPar]
  | [_] => simp [kPar]
  | [d, e] => simp [kPar]
  | _ :: _ :: _ :: _ => simp [kPar]
def kAug (i : Nat) (op : Int → Int → Int) (a : Int) (ρ : Env) (k : KS) (d : D) (S : Store) : Prop := ∃ b, d = .int b ∧ k.nx (ρ.set i (some (.int (op a b)))) S
@[simp] theorem kAug_eq (i : Nat) (op : Int → Int → Int) (a : Int) (d : D) : kAug i op a ρ k d S = ∃ b, d = .int b ∧ k.nx (ρ.set i (some (.int (op a b)))) S := rfl
@[simp] theorem wp_sAug (i : Nat) (op : Int → Int → Int) (f : SemE) : (sAug i op f ρ S).wp k = ∃ a, ρ[i]? = some (some (.int a)) ∧ (f ρ S).wp (kAug i op a ρ k) (kEx k ρ) := by
  unfold sAug
  split
  · next a e =>
    simp only [wpS_toS]
    apply propext
    constructor
    · intro h
      refine ⟨a, by simp [e], h.conseq fun d S1 hd => ?_⟩
      cases d <;> simp_all
    · rintro ⟨a', e', h⟩
      rw [e] at e'
      cases e'
      refine h.conseq fun d S1 ⟨b, hb, hk⟩ => ?_
      subst hb
      simpa using hk
  · next hn =>
    simp only [wpS_stuck, false_iff, eq_iff_iff, not_exists, not_and]
    intro a e
    exact absurd e (hn a)
def kSI1 (fo fi : SemE) (ρ : Env) (k : KS) (y : D) (S : Store) : Prop := (fo ρ S).wp (fun x S2 => (fi ρ S2).wp (fun i S3 => ∃ S4, setC x i y S3 = some S4 ∧ k.nx ρ S4) (kEx k ρ)) (kEx k ρ)
def kSI2 (fi : SemE) (ρ : Env) (k : KS) (y x : D) (S : Store) : Prop := (fi ρ S).wp (fun i S3 => ∃ S4, setC x i y S3 = some S4 ∧ k.nx ρ S4) (kEx k ρ)
def kSI3 (ρ : Env) (k : KS) (y x i : D) (S : Store) : Prop := ∃ S4, setC x i y S = some S4 ∧ k.nx ρ S4
@[simp] theorem kSI1_eq (fo fi : SemE) (y : D) : kSI1 fo fi ρ k y S = (fo ρ S).wp (kSI2 fi ρ k y) (kEx k ρ) := rfl
@[simp] theorem kSI2_eq (fi : SemE) (y x : D) : kSI2 fi ρ k y x S = (fi ρ S).wp (kSI3 ρ k y x) (kEx k ρ) := rfl
@[simp] theorem kSI3_eq (y x i : D) : kSI3 ρ k y x i S = ∃ S4, setC x i y S = some S4 ∧ k.nx ρ S4 := rfl
@[simp] theorem wp_sSetI (fo fi fe : SemE) : (sSetI fo fi fe ρ S).wp k = (fe ρ S).wp (kSI1 fo fi ρ k) (kEx k ρ) := by
  simp only [sSetI, wpS_toS]
  congr 1
  funext y S1
  simp only [kSI1]
  congr 1
  funext x S2
  congr 1
  funext i S3
  cases setC x i y S3 <;> simp
def kDP1 (fo fi : SemE) (ρ : Env) (k : KS) (y : D) (S : Store) : Prop := (fo ρ S).wp (fun x S2 => (fi ρ S2).wp (fun i S3 => ∃ S4, dputC x i y S3 = some S4 ∧ k.nx ρ S4) (kEx k ρ)) (kEx k ρ)
def kDP2 (fi : SemE) (ρ : Env) (k : KS) (y x : D) (S : Store) : Prop := (fi ρ S).wp (fun i S3 => ∃ S4, dputC x i y S3 = some S4 ∧ k.nx ρ S4) (kEx k ρ)
def kDP3 (ρ : Env) (k : KS) (y x i : D) (S : Store) : Prop := ∃ S4, dputC x i y S = some S4 ∧ k.nx ρ S4
@[simp] theorem kDP1_eq (fo fi : SemE) (y : D) : kDP1 fo fi ρ k y S = (fo ρ S).wp (kDP2 fi ρ k y) (kEx k ρ) := rfl
@[simp] theorem kDP2_eq (fi : SemE) (y x : D) : kDP2 fi ρ k y x S = (fi ρ S).wp (kDP3 ρ k y x) (kEx k ρ) := rfl
@[simp] theorem kDP3_eq (y x i : D) : kDP3 ρ k y x i S = ∃ S4, dputC x i y S = some S4 ∧ k.nx ρ S4 := rfl
@[simp] theorem wp_sDPut (fo fi fe : SemE) : (sDPut fo fi fe ρ S).wp k = (fe ρ S).wp (kDP1 fo fi ρ k) (kEx k ρ) := by
  simp only [sDPut, wpS_toS]
  congr 1
  funext y S1
  simp only [kDP1]
  congr 1
  funext x S2
  congr 1
  funext i S3
  cases dputC x i y S3 <;> simp
variable {f g h : SemE} {Q : D → Store → Prop} {x y d : D} {xs : List D} {b : Bool}
@[simp] theorem wp_eVar (i : Nat) : (eVar i ρ S).wp Q E = ∃ d, ρ[i]? = some (some d) ∧ Q d S := by
  unfold eVar
  split
  · next d e => simp only [wp_ok, e, Option.some.injEq, exists_eq_left']
  · next hn =>
    simp only [wp_stuck, eq_iff_iff, false_iff, not_exists, not_and]
    intro d e
    exact absurd e (hn d)
@[simp] theorem wp_eC (d : D) : (eC d ρ S).wp Q E = Q d S := wp_ok _
def kB1 {α : Type} (op : D → D → Store → Option α) (g : SemE) (ρ : Env) (Q : α → Store → Prop) (E : EX) (x : D) (S : Store) : Prop := (g ρ S).wp (fun y S2 => ∃ a, op x y S2 = some a ∧ Q a S2) E
def kB2 {α : Type} (op : D → D → Store → Option α) (x : D) (Q : α → Store → Prop) (y : D) (S : Store) : Prop := ∃ a, op x y S = some a ∧ Q a S
@[simp] theorem kB1_eq {α : Type} {Q : α → Store → Prop} (op : D → D → Store → Option α) : kB1 op g ρ Q E x S = (g ρ S).wp (kB2 op x Q) E := rfl
@[simp] theorem kB2_eq {α : Type} {Q : α → Store → Prop} (op : D → D → Store → Option α) : kB2 op x Q y S = ∃ a, op x y S = some a ∧ Q a S := rfl
@[simp] theorem wp_eBin {α : Type} {Q : α → Store → Prop} (op : D → D → Store → Option α) : (eBin op f g ρ S).wp Q E = (f ρ S).wp (kB1 op g ρ Q E) E := by
  simp only [eBin, wp_bind, wp_lift]
  rfl
def kU {α : Type} (op : D → Store → Option α) (Q : α → Store → Prop) (x : D) (S : Store) : Prop := ∃ a, op x S = some a ∧ Q a S
@[simp] theorem kU_eq {α : Type} {Q : α → Store → Prop} (op : D → Store → Option α) : kU op Q x S = ∃ a, op x S = some a ∧ Q a S := rfl
@[simp] theorem wp_eUn {α : Type} {Q : α → Store → Prop} (op : D → Store → Option α) : (eUn op f ρ S).wp Q E = (f ρ S).wp (kU op Q) E := by
  simp only [eUn, wp_bind, wp_lift]
  rfl
def kO {α : Type} (op : List D → Store → Option α) (Q : α → Store → Prop) (xs : List D) (S : Store) : Prop := ∃ a, op xs S = some a ∧ Q a S
@[simp] theorem kO_eq {α : Type} {Q : α → Store → Prop} (op : List D → Store → Option α) : kO op Q xs S = ∃ a, op xs S = some a ∧ Q a S := rfl
@[simp] theorem wp_eOps {α : Type} {Q : α → Store → Prop} (op : List D → Store → Option α) (fa : SemA) : (eOps op fa ρ S).wp Q E = (fa ρ S).wp (kO op Q) E := by
  simp only [eOps, wp_bind, wp_lift]
  rfl
@[simp] theorem wp_aNil {Q : List D → Store → Prop} : (aNil ρ S).wp Q E = Q [] S := wp_ok _
def kA1 (fa : SemA) (ρ : Env) (Q : List D → Store → Prop) (E : EX) (x : D) (S : Store) : Prop := (fa ρ S).wp (fun xs S2 => Q (x :: xs) S2) E
def kA2 (x : D) (Q : List D → Store → Prop) (xs : List D) (S : Store) : Prop := Q (x :: xs) S
@[simp] theorem kA1_eq (fa : SemA) {Q : List D → Store → Prop} : kA1 fa ρ Q E x S = (fa ρ S).wp (kA2 x Q) E := rfl
@[simp] theorem kA2_eq {Q : List D → Store → Prop} : kA2 x Q xs S = Q (x :: xs) S := rfl
@[simp] theorem wp_aCons (fa : SemA) {Q : List D → Store → Prop} : (aCons f fa ρ S).wp Q E = (f ρ S).wp (kA1 fa ρ Q E) E := by
  simp only [aCons, wp_bind, wp_ok]
  rfl
def kT (Q : D → Store → Prop) (xs : List D) (S : Store) : Prop := sz xs.length = true ∧ Q (.tup xs) S
@[simp] theorem kT_eq : kT Q xs S = (sz xs.length = true ∧ Q (.tup xs) S) := rfl
@[simp] theorem wp_eTup (fa : SemA) : (eTup fa ρ S).wp Q E = (fa ρ S).wp (kT Q) E := by
  simp only [eTup, wp_bind, wp_itestuck, wp_ok]
  rfl
def kD (Q : List D → Store → Prop) (xs : List D) (S : Store) : Prop := sz xs.length = true ∧ Q xs S
@[simp] theorem kD_eq {Q : List D → Store → Prop} : kD Q xs S = (sz xs.length = true ∧ Q xs S) := rfl
@[simp] theorem wp_lDisp (fa : SemA) {Q : List D → Store → Prop} : (lDisp fa ρ S).wp Q E = (fa ρ S).wp (kD Q) E := by
  simp only [lDisp, wp_bind, wp_itestuck, wp_ok]
  rfl
def kF (Q : D → Store → Prop) (xs : List D) (S : Store) : Prop := Q (.lst xs) S
@[simp] theorem kF_eq : kF Q xs S = Q (.lst xs) S := rfl
@[simp] theorem wp_frz (fa : SemA) : (frz fa ρ S).wp Q E = (fa ρ S).wp (kF Q) E := by
  simp only [frz, wp_bind, wp_ok]
  rfl
def kC (Q : D → Store → Prop) (xs : List D) (S : Store) : Prop := closedA S.length xs = true ∧ Q (.ref S.length) (S ++ [.lst true xs])
@[simp] theorem kC_eq : kC Q xs S = (closedA S.length xs = true ∧ Q (.ref S.length) (S ++ [.lst true xs])) := rfl
@[simp] theorem wp_cellL (fa : SemA) : (cellL fa ρ S).wp Q E = (fa ρ S).wp (kC Q) E := by
  simp only [cellL, wp_bind, wp_itestuck, wp_ok]
  rfl
@[simp] theorem wp_asB (d : D) {Q : Bool → Store → Prop} : (asB d S).wp Q E = ∃ b, d = .bl b ∧ Q b S := by cases d <;> simp [asB]
def kTB (Q : Bool → Store → Prop) (d : D) (S : Store) : Prop := ∃ b, d = .bl b ∧ Q b S
@[simp] theorem kTB_eq {Q : Bool → Store → Prop} : kTB Q d S = ∃ b, d = .bl b ∧ Q b S := rfl
@[simp] theorem wp_tOfE {Q : Bool → Store → Prop} : (tOfE f ρ S).wp Q E = (f ρ S).wp (kTB Q) E := by
  simp only [tOfE, wp_bind, wp_asB]
  rfl
def kAnd (u : SemT) (ρ : Env) (Q : Bool → Store → Prop) (E : EX) (b : Bool) (S : Store) : Prop := if b then (u ρ S).wp Q E else Q false S
@[simp] theorem kAnd_t (u : SemT) {Q : Bool → Store → Prop} : kAnd u ρ Q E true S = (u ρ S).wp Q E := rfl
@[simp] theorem kAnd_f (u : SemT) {Q : Bool → Store → Prop} : kAnd u ρ Q E false S = Q false S := rfl
@[simp] theorem wp_sAnd (t u : SemT) {Q : Bool → Store → Prop} : (sAnd t u ρ S).wp Q E = (t ρ S).wp (kAnd u ρ Q E) E := by
  simp only [sAnd, wp_bind, wp_ite, wp_ok]
  rfl
def kOr (u : SemT) (ρ : Env) (Q : Bool → Store → Prop) (E : EX) (b : Bool) (S : Store) : Prop := if b then Q true S else (u ρ S).wp Q E
@[simp] theorem kOr_t (u : SemT) {Q : Bool → Store → Prop} : kOr u ρ Q E true S = Q true S := rfl
@[simp] theorem kOr_f (u : SemT) {Q : Bool → Store → Prop} : kOr u ρ Q E false S = (u ρ S).wp Q E := rfl
@[simp] theorem wp_sOr (t u : SemT) {Q : Bool → Store → Prop} : (sOr t u ρ S).wp Q E = (t ρ S).wp (kOr u ρ Q E) E := by
  simp only [sOr, wp_bind, wp_ite, wp_ok]
  rfl
def kNot (Q : Bool → Store → Prop) (b : Bool) (S : Store) : Prop := Q (!b) S
@[simp] theorem kNot_eq {Q : Bool → Store → Prop} : kNot Q b S = Q (!b) S := rfl
@[simp] theorem wp_sNot (t : SemT) {Q : Bool → Store → Prop} : (sNot t ρ S).wp Q E = (t ρ S).wp (kNot Q) E := by
  simp only [sNot, wp_bind, wp_ok]
  rfl
def kVA (g : SemE) (ρ : Env) (Q : D → Store → Prop) (E : EX) (x : D) (S : Store) : Prop := match x with
  | .bl true => (g ρ S).wp Q E
  | .bl false => Q (.bl false) S
  | _ => False
@[simp] theorem kVA_t : kVA g ρ Q E (.bl true) S = (g ρ S).wp Q E := rfl
@[simp] theorem kVA_f : kVA g ρ Q E (.bl false) S = Q (.bl false) S := rfl
@[simp] theorem wp_vAnd : (vAnd f g ρ S).wp Q E = (f ρ S).wp (kVA g ρ Q E) E := by
  simp only [vAnd, wp_bind, wp_asB, wp_ite, wp_ok]
  congr 1
  funext x S1
  cases x with
  | bl b => cases b <;> simp
  | _ => simp [kVA]
def kVO (g : SemE) (ρ : Env) (Q : D → Store → Prop) (E : EX) (x : D) (S : Store) : Prop := match x with
  | .bl true => Q (.bl true) S
  | .bl false => (g ρ S).wp Q E
  | _ => False
@[simp] theorem kVO_t : kVO g ρ Q E (.bl true) S = Q (.bl true) S := rfl
@[simp] theorem kVO_f : kVO g ρ Q E (.bl false) S = (g ρ S).wp Q E := rfl
@[simp] theorem wp_vOr : (vOr f g ρ S).wp Q E = (f ρ S).wp (kVO g ρ Q E) E := by
  simp only [vOr, wp_bind, wp_asB, wp_ite, wp_ok]
  congr 1
  funext x S1
  cases x with
  | bl b => cases b <;> simp
  | _ => simp [kVO]
def kVN (Q : D → Store → Prop) (x : D) (S : Store) : Prop := ∃ b, x = .bl b ∧ Q (.bl (!b)) S
@[simp] theorem kVN_eq : kVN Q x S = ∃ b, x = .bl b ∧ Q (.bl (!b)) S := rfl
@[simp] theorem wp_vNot : (vNot f ρ S).wp Q E = (f ρ S).wp (kVN Q) E := by
  simp only [vNot, wp_bind, wp_asB, wp_ok]
  rfl
def kEI {α : Type} (f g : Env → Store → Out α) (ρ : Env) (Q : α → Store → Prop) (E : EX) (b : Bool) (S : Store) : Prop := if b then (f ρ S).wp Q E else (g ρ S).wp Q E
@[simp] theorem kEI_t {α : Type} {Q : α → Store → Prop} (f g : Env → Store → Out α) : kEI f g ρ Q E true S = (f ρ S).wp Q E := rfl
@[simp] theorem kEI_f {α : Type} {Q : α → Store → Prop} (f g : Env → Store → Out α) : kEI f g ρ Q E false S = (g ρ S).wp Q E := rfl
@[simp] theorem wp_eIf {α : Type} {Q : α → Store → Prop} (t : SemT) (f g : Env → Store → Out α) : (eIf t f g ρ S).wp Q E = (t ρ S).wp (kEI f g ρ Q E) E := by
  simp only [eIf, wp_bind, wp_ite]
  rfl
def kH1 (op op' : D → D → Store → Option D) (g h : SemE) (ρ : Env) (Q : D → Store → Prop) (E : EX) (x : D) (S : Store) : Prop := (g ρ S).wp (fun y S2 => ∃ z, op x y S2 = some z ∧ ∃ b, z = .bl b ∧ (if b then (h ρ S2).wp (fun w S5 => ∃ a, op' y w S5 = some a ∧ Q a S5) E else Q (.bl false) S2)) E
def kH2 (op op' : D → D → Store → Option D) (h : SemE) (ρ : Env) (Q : D → Store → Prop) (E : EX) (x y : D) (S : Store) : Prop := ∃ z, op x y S = some z ∧ ∃ b, z = .bl b ∧ (if b then (h ρ S).wp (kB2 op' y Q) E else Q (.bl false) S)
@[simp] theorem kH1_eq (op op' : D → D → Store → Option D) : kH1 op op' g h ρ Q E x S = (g ρ S).wp (kH2 op op' h ρ Q E x) E := rfl
@[simp] theorem kH2_eq (op op' : D → D → Store → Option D) : kH2 op op' h ρ Q E x y S = ∃ z, op x y S = some z ∧ ∃ b, z = .bl b ∧ (if b then (h ρ S).wp (kB2 op' y Q) E else Q (.bl false) S) := rfl
@[simp] theorem wp_eChain (op op' : D → D → Store → Option D) : (eChain op op' f g h ρ S).wp Q E = (f ρ S).wp (kH1 op op' g h ρ Q E) E := by
  simp only [eChain, wp_bind, wp_lift, wp_asB, wp_ite, wp_ok]
  rfl
@[simp] theorem wp_oNone {Q : Option Int → Store → Prop} : (oNone ρ S).wp Q E = Q none S := wp_ok _
def kOS (Q : Option Int → Store → Prop) (d : D) (S : Store) : Prop := ∃ i, d = .int i ∧ Q (some i) S
@[simp] theorem kOS_eq {Q : Option Int → Store → Prop} : kOS Q d S = ∃ i, d = .int i ∧ Q (some i) S := rfl
@[simp] theorem wp_oSome {Q : Option Int → Store → Prop} : (oSome f ρ S).wp Q E = (f ρ S).wp (kOS Q) E := by
  simp only [oSome, wp_bind]
  congr 1
  funext d S1
  cases d <;> simp [asI]
def kS1 {α : Type} (op : D → Option Int → Option Int → Store → Option α) (l u : SemO) (ρ : Env) (Q : α → Store → Prop) (E : EX) (x : D) (S : Store) : Prop := (l ρ S).wp (fun lo S2 => (u ρ S2).wp (fun hi S3 => ∃ a, op x lo hi S3 = some a ∧ Q a S3) E) E
def kS2 {α : Type} (op : D → Option Int → Option Int → Store → Option α) (u : SemO) (ρ : Env) (Q : α → Store → Prop) (E : EX) (x : D) (lo : Option Int) (S : Store) : Prop := (u ρ S).wp (fun hi S3 => ∃ a, op x lo hi S3 = some a ∧ Q a S3) E
def kS3 {α : Type} (op : D → Option Int → Option Int → Store → Option α) (Q : α → Store → Prop) (x : D) (lo hi : Option Int) (S : Store) : Prop := ∃ a, op x lo hi S = some a ∧ Q a S
@[simp] theorem kS1_eq {α : Type} {Q : α → Store → Prop} (op : D → Option Int → Option Int → Store → Option α) (l u : SemO) : kS1 op l u ρ Q E x S = (l ρ S).wp (kS2 op u ρ Q E x) E := rfl
@[simp] theorem kS2_eq {α : Type} {Q : α → Store → Prop} (op : D → Option Int → Option Int → Store → Option α) (u : SemO) (lo : Option Int) : kS2 op u ρ Q E x lo S = (u ρ S).wp (kS3 op Q x lo) E := rfl
@[simp] theorem kS3_eq {α : Type} {Q : α → Store → Prop} (op : D → Option Int → Option Int → Store → Option α) (lo hi : Option Int) : kS3 op Q x lo hi S = ∃ a, op x lo hi S = some a ∧ Q a S := rfl
@[simp] theorem wp_eSl {α : Type} {Q : α → Store → Prop} (op : D → Option Int → Option Int → Store → Option α) (l u : SemO) : (eSl op f l u ρ S).wp Q E = (f ρ S).wp (kS1 op l u ρ Q E) E := by
  simp only [eSl, wp_bind, wp_lift]
  rfl
def kCall (fs : FSem) (dd : List D) (Q : D → Store → Prop) (E : EX) (ds : List D) (S : Store) : Prop := (fs (ds ++ dd) S).wp Q E
@[simp] theorem kCall_eq (fs : FSem) (dd : List D) : kCall fs dd Q E xs S = (fs (xs ++ dd) S).wp Q E := rfl
@[simp] theorem wp_eCall (fs : FSem) (dd : List D) (fa : SemA) : (eCall fs dd fa ρ S).wp Q E = (fa ρ S).wp (kCall fs dd Q E) E := by
  simp only [eCall, wp_bind]
  rfl
def kFz (Q : D → Store → Prop) (E : EX) (d : D) (S : Store) : Prop := (fzO d S).wp Q E
@[simp] theorem kFz_eq : kFz Q E d S = (fzO d S).wp Q E := rfl
@[simp] theorem wp_eFz : (eFz f ρ S).wp Q E = (f ρ S).wp (kFz Q E) E := by
  simp only [eFz, wp_bind]
  rfl
def kAp1 (g : SemE) (ρ : Env) (Q : D → Store → Prop) (E : EX) (x : D) (S : Store) : Prop := isL S x = true ∧ (g ρ S).wp (fun y S2 => (appC x y S2).wp Q E) E
def kAp2 (Q : D → Store → Prop) (E : EX) (x y : D) (S : Store) : Prop := (appC x y S).wp Q E
@[simp] theorem kAp1_eq : kAp1 g ρ Q E x S = (isL S x = true ∧ (g ρ S).wp (kAp2 Q E x) E) := rfl
@[simp] theorem kAp2_eq : kAp2 Q E x y S = (appC x y S).wp Q E := rfl
@[simp] theorem wp_eApp : (eApp f g ρ S).wp Q E = (f ρ S).wp (kAp1 g ρ Q E) E := by
  simp only [eApp, wp_bind, wp_itestuck]
  rfl
def kEt1 (g : SemE) (ρ : Env) (Q : D → Store → Prop) (E : EX) (x : D) (S : Store) : Prop := isL S x = true ∧ (g ρ S).wp (fun y S2 => (extC x y S2).wp Q E) E
def kEt2 (Q : D → Store → Prop) (E : EX) (x y : D) (S : Store) : Prop := (extC x y S).wp Q E
@[simp] theorem kEt1_eq : kEt1 g ρ Q E x S = (isL S x = true ∧ (g ρ S).wp (kEt2 Q E x) E) := rfl
@[simp] theorem kEt2_eq : kEt2 Q E x y S = (extC x y S).wp Q E := rfl
@[simp] theorem wp_eExt : (eExt f g ρ S).wp Q E = (f ρ S).wp (kEt1 g ρ Q E) E := by
  simp only [eExt, wp_bind, wp_itestuck]
  rfl
def kIx1 (g : SemE) (ρ : Env) (Q : D → Store → Prop) (E : EX) (x : D) (S : Store) : Prop := isL S x = true ∧ (g ρ S).wp (fun y S2 => ∃ a, opIndex x y S2 = some a ∧ Q a S2) E
@[simp] theorem kIx1_eq : kIx1 g ρ Q E x S = (isL S x = true ∧ (g ρ S).wp (kB2 opIndex x Q) E) := rfl
@[simp] theorem wp_eIdx : (eIdx f g ρ S).wp Q E = (f ρ S).wp (kIx1 g ρ Q E) E := by
  simp only [eIdx, wp_bind, wp_itestuck, wp_lift]
  rfl
def kPop (Q : D → Store → Prop) (E : EX) (x : D) (S : Store) : Prop := (popC x S).wp Q E
@[simp] theorem kPop_eq : kPop Q E x S = (popC x S).wp Q E := rfl
@[simp] theorem wp_ePop : (ePop f ρ S).wp Q E = (f ρ S).wp (kPop Q E) E := by
  simp only [ePop, wp_bind]
  rfl
abbrev eNo : EX := fun _ _ _ => False
theorem wp_noX {α : Type} (o : Out α) {Q : α → Store → Prop} : (noX o).wp Q E = o.wp Q eNo := by cases o <;> simp [noX]
@[simp] theorem wp_pNil {Q : List (Key × D) → Store → Prop} : (pNil ρ S).wp Q E = Q [] S := wp_ok _
def kP1 (key : Key) (gp : SemP) (ρ : Env) (Q : List (Key × D) → Store → Prop) (E : EX) (x : D) (S : Store) : Prop := (gp ρ S).wp (fun xs S2 => Q ((key, x) :: xs) S2) E
def kP2 (key : Key) (x : D) (Q : List (Key × D) → Store → Prop) (kds : List (Key × D)) (S : Store) : Prop := Q ((key, x) :: kds) S
@[simp] theorem kP1_eq (key : Key) (gp : SemP) {Q : List (Key × D) → Store → Prop} : kP1 key gp ρ Q E x S = (gp ρ S).wp (kP2 key x Q) E := rfl
@[simp] theorem kP2_eq (key : Key) (kds : List (Key × D)) {Q : List (Key × D) → Store → Prop} : kP2 key x Q kds S = Q ((key, x) :: kds) S := rfl
@[simp] theorem wp_pCons (key : Key) (gp : SemP) {Q : List (Key × D) → Store → Prop} : (pCons key f gp ρ S).wp Q E = (f ρ S).wp (kP1 key gp ρ Q E) E := by
  simp only [pCons, wp_bind, wp_ok]
  rfl
@[simp] theorem wp_noXP (gp : SemP) {Q : List (Key × D) → Store → Prop} : (noXP gp ρ S).wp Q E = (gp ρ S).wp Q eNo := wp_noX _
def kDc (Q : D → Store → Prop) (kds : List (Key × D)) (S : Store) : Prop := kds.length ≤ 15 ∧ Q (.dct (mergeD kds)) S
@[simp] theorem kDc_eq (kds : List (Key × D)) : kDc Q kds S = (kds.length ≤ 15 ∧ Q (.dct (mergeD kds)) S) := rfl
@[simp] theorem wp_eDct (gp : SemP) : (eDct gp ρ S).wp Q E = (gp ρ S).wp (kDc Q) E := by
  simp only [eDct, wp_bind, wp_itestuck, wp_ok, decide_eq_true_eq]
  rfl
def kDcC (Q : D → Store → Prop) (kds : List (Key × D)) (S : Store) : Prop := (kds.length ≤ 15 ∧ closedV S.length (mergeD kds) = true) ∧ Q (.ref S.length) (S ++ [.dK (mergeD kds)])
@[simp] theorem kDcC_eq (kds : List (Key × D)) : kDcC Q kds S = ((kds.length ≤ 15 ∧ closedV S.length (mergeD kds) = true) ∧ Q (.ref S.length) (S ++ [.dK (mergeD kds)])) := rfl
@[simp] theorem wp_eDctC (gp : SemP) : (eDctC gp ρ S).wp Q E = (gp ρ S).wp (kDcC Q) E := by
  simp only [eDctC, wp_bind, wp_itestuck, wp_ok, Bool.and_eq_true, decide_eq_true_eq]
  rfl
def kIt (Q : List D → Store → Prop) (E : EX) (d : D) (S : Store) : Prop := (itOf d S).wp Q E
@[simp] theorem kIt_eq {Q : List D → Store → Prop} : kIt Q E d S = (itOf d S).wp Q E := rfl
@[simp] theorem wp_itSeq {Q : List D → Store → Prop} : (itSeq f ρ S).wp Q E = (f ρ S).wp (kIt Q E) E := by
  simp only [itSeq, wp_bind]
  rfl
def kR1 (Q : List D → Store → Prop) (ds : List D) (S : Store) : Prop := ∃ j, ds = [.int j] ∧ okR j = true ∧ Q (rng 0 j.toNat) S
@[simp] theorem kR1_eq {Q : List D → Store → Prop} : kR1 Q xs S = ∃ j, xs = [.int j] ∧ okR j = true ∧ Q (rng 0 j.toNat) S := rfl
@[simp] theorem wp_itR1 (fa : SemA) {Q : List D → Store → Prop} : (itR1 fa ρ S).wp Q E = (fa ρ S).wp (kR1 Q) E := by
  simp only [itR1, wp_bind]
  congr 1
  funext ds S1
  match ds with
  | [] => simp
  | [.int j] => simp
  | [.non] => simp
  | [.bl _] => simp
  | [.str _] => simp
  | [.tup _] => simp
  | [.lst _] => simp
  | [.dct _] => simp
  | [.ref _] => simp
  | [.scr _] => simp
  | [.exn _ _ _] => simp
  | _ :: _ :: _ => simp
def kR2 (Q : List D → Store → Prop) (ds : List D) (S : Store) : Prop := match ds with
  | [.int i, .int j] => (okR i = true ∧ okR j = true) ∧ Q (rng i (j - i).toNat) S
  | _ => False
@[simp] theorem kR2_eq {Q : List D → Store → Prop} (i j : Int) : kR2 Q [.int i, .int j] S = ((okR i = true ∧ okR j = true) ∧ Q (rng i (j - i).toNat) S) := rfl
@[simp] theorem wp_itR2 (fa : SemA) {Q : List D → Store → Prop} : (itR2 fa ρ S).wp Q E = (fa ρ S).wp (kR2 Q) E := by
  simp only [itR2, wp_bind]
  congr 1
  funext ds S1
  unfold kR2
  split <;> simp
def kZip (Q : List D → Store → Prop) (ds : List D) (S : Store) : Prop := match ds with
  | [.lst xs, .lst ys] => Q (zipL xs ys) S
  | [.tup xs, .tup ys] => Q (zipL xs ys) S
  | [.lst xs, .tup ys] => Q (zipL xs ys) S
  | [.tup xs, .lst ys] => Q (zipL xs ys) S
  | _ => False
@[simp] theorem kZip_lt {Q : List D → Store → Prop} (xs ys : List D) : kZip Q [.lst xs, .tup ys] S = Q (zipL xs ys) S := rfl
@[simp] theorem kZip_tl {Q : List D → Store → Prop} (xs ys : List D) : kZip Q [.tup xs, .lst ys] S = Q (zipL xs ys) S := rfl
@[simp] theorem kZip_l {Q : List D → Store → Prop} (xs ys : List D) : kZip Q [.lst xs, .lst ys] S = Q (zipL xs ys) S := rfl
@[simp] theorem kZip_t {Q : List D → Store → Prop} (xs ys : List D) : kZip Q [.tup xs, .tup ys] S = Q (zipL xs ys) S := rfl
@[simp] theorem wp_itZip (fa : SemA) {Q : List D → Store → Prop} : (itZip fa ρ S).wp Q E = (fa ρ S).wp (kZip Q) E := by
  simp only [itZip, wp_bind]
  congr 1
  funext ds S1
  unfold kZip
  split <;> simp
def kEn (Q : List D → Store → Prop) (ds : List D) (S : Store) : Prop := match ds with
  | [.lst xs] => Q (enumL xs) S
  | [.tup xs] => Q (enumL xs) S
  | _ => False
@[simp] theorem kEn_l {Q : List D → Store → Prop} (xs : List D) : kEn Q [.lst xs] S = Q (enumL xs) S := rfl
@[simp] theorem kEn_t {Q : List D → Store → Prop} (xs : List D) : kEn Q [.tup xs] S = Q (enumL xs) S := rfl
@[simp] theorem wp_itEnum (fa : SemA) {Q : List D → Store → Prop} : (itEnum fa ρ S).wp Q E = (fa ρ S).wp (kEn Q) E := by
  simp only [itEnum, wp_bind]
  congr 1
  funext ds S1
  unfold kEn
  split <;> simp
def kLC (gg : SemG) (t : SemT) (e : SemE) (ρ : Env) (Q : List D → Store → Prop) (E : EX) (xs : List D) (S : Store) : Prop := (compGo (compStep gg t e ρ) xs [] S).wp Q E
@[simp] theorem kLC_eq (gg : SemG) (t : SemT) (e : SemE) {Q : List D → Store → Prop} : kLC gg t e ρ Q E xs S = (compGo (compStep gg t e ρ) xs [] S).wp Q E := rfl
@[simp] theorem wp_lComp (it : SemA) (g : SemG) (t : SemT) (e : SemE) (vs : List Nat) {Q : List D → Store → Prop} : (lComp it g t e vs ρ S).wp Q E = (it ρ S).wp (kLC g t e (wipeD ρ vs) Q E) E := by
  simp only [lComp, wp_bind]
  rfl
def forB (g : SemG) (b : SemS) : D → Env → Store → OutS := fun x ρ S => match g x ρ S with
  | some ρ1 => b ρ1 S
  | none => .stuck
@[simp] theorem wp_forB (g : SemG) (b : SemS) (x : D) : (forB g b x ρ S).wp k = ∃ ρ1, g x ρ S = some ρ1 ∧ (b ρ1 S).wp k := by
  unfold forB
  cases g x ρ S <;> simp
def kFor (gg : SemG) (bb : SemS) (ρ : Env) (k : KS) (xs : List D) (S : Store) : Prop := (forL (forB gg bb) xs ρ S).wp k
@[simp] theorem kFor_eq (gg : SemG) (bb : SemS) : kFor gg bb ρ k xs S = (forL (forB gg bb) xs ρ S).wp k := rfl
@[simp] theorem wp_sFor (it : SemA) (g : SemG) (b : SemS) : (sFor it g b ρ S).wp k = (it ρ S).wp (kFor g b ρ k) (kEx k ρ) := by
  unfold sFor
  rw [wpS_toS]
  rfl
@[simp] theorem gN_eq (i : Nat) (d : D) : gN i d ρ S = some (ρ.set i (some d)) := rfl
def gcQ (n : Nat) (Q : D → Store → Prop) (d : D) (S : Store) : Prop := if closed n d then Q d (S.take n) else Q d S
def gcE (n : Nat) (E : EX) : EX := fun c fs S => if closedV n fs then E c fs (S.take n) else E c fs S
def KS.fn (n : Nat) (Q : D → Store → Prop) (E : EX) : KS := ⟨fun _ S => Q .non (S.take n), gcQ n Q, fun _ _ => False, fun _ _ => False, fun c fs _ S => gcE n E c fs S⟩
@[simp] theorem fn_nx (n : Nat) (Q : D → Store → Prop) (E : EX) : (KS.fn n Q E).nx ρ S = Q .non (S.take n) := rfl
@[simp] theorem fn_rt (n : Nat) (Q : D → Store → Prop) (E : EX) (d : D) : (KS.fn n Q E).rt d S = gcQ n Q d S := rfl
@[simp] theorem fn_bk (n : Nat) (Q : D → Store → Prop) (E : EX) : (KS.fn n Q E).bk ρ S = False := rfl
@[simp] theorem fn_ct (n : Nat) (Q : D → Store → Prop) (E : EX) : (KS.fn n Q E).ct ρ S = False := rfl
@[simp] theorem fn_ex (n : Nat) (Q : D → Store → Prop) (E : EX) (c : Str) (fs : List (Str × D)) : (KS.fn n Q E).ex c fs ρ S = gcE n E c fs S := rfl
theorem wp_fnD (n : Nat) (b : SemS) (ds : List D) : (fnD n b ds S).wp Q E = (b (startD n ds) S).wp (KS.fn S.length Q E) := by
  unfold fnD
  cases b (startD n ds) S with
  | nx ρ S1 => simp [endOf, gc, closed]
  | rt d S1 =>
    simp only [endOf, gc, wpS_rt, fn_rt, gcQ]
    split <;> simp
  | bk ρ S1 => simp [endOf, gc]
  | ct ρ S1 => simp [endOf, gc]
  | exc c fs ρ S1 =>
    simp only [endOf, gc, wpS_exc, fn_ex, gcE]
    split <;> simp
  | stuck => simp [endOf, gc]
theorem gcQ_cl {n : Nat} {d : D} (hc : closed n d = true) (h : Q d (S.take n)) : gcQ n Q d S := by
  unfold gcQ
  rw [if_pos hc]
  exact h
theorem rt_cl {n : Nat} {d : D} (hc : closed n d = true) (h : Q d (S.take n)) : (KS.fn n Q E).rt d S := gcQ_cl hc h
theorem wp_forL {b : D → Env → Store → OutS} {xs : List D} (I : List D → Env → Store → Prop) (h0 : I xs ρ S)
    (hs : ∀ x xs ρ S, I (x :: xs) ρ S → (b x ρ S).wp ⟨I xs, k.rt, k.nx, I xs, k.ex⟩) (hd : ∀ ρ S, I [] ρ S → k.nx ρ S) : (forL b xs ρ S).wp k := by
  induction xs generalizing ρ S with
  | nil => exact ⟨hd _ _ h0⟩
  | cons x xs ih =>
    have h1 := (hs x xs ρ S h0).run
    unfold forL
    cases e : b x ρ S with
    | nx ρ1 S1 => rw [e] at h1; exact ih h1
    | ct ρ1 S1 => rw [e] at h1; exact ih h1
    | bk ρ1 S1 => rw [e] at h1; exact ⟨h1⟩
    | rt d S1 => rw [e] at h1; exact ⟨h1⟩
    | exc c fs ρ1 S1 => rw [e] at h1; exact ⟨h1⟩
    | stuck => rw [e] at h1; exact h1.elim
theorem wp_whileN {t : SemT} {b : SemS} (I : Nat → Env → Store → Prop)
    (hs : ∀ n ρ S, I n ρ S → (t ρ S).wp (fun c S1 => if c then (b ρ S1).wp ⟨fun ρ' S' => ∃ m, m < n ∧ I m ρ' S', k.rt, k.nx, fun ρ' S' => ∃ m, m < n ∧ I m ρ' S', k.ex⟩ else k.nx ρ S1) (fun c fs S => k.ex c fs ρ S)) :
    ∀ (n : Nat) (ρ : Env) (S : Store), I n ρ S → ∃ N, (whileN t b N ρ S).wp k := by
  intro n
  induction n using Nat.strongRecOn with
  | ind n ih =>
    intro ρ S h
    have h1 := (hs n ρ S h).run
    cases e : t ρ S with
    | stuck => rw [e] at h1; exact h1.elim
    | exc c fs S1 =>
      rw [e] at h1
      refine ⟨1, ?_⟩
      unfold whileN
      rw [e]
      exact ⟨h1⟩
    | ok c S1 =>
      rw [e] at h1
      simp only at h1
      cases c with
      | false =>
        refine ⟨1, ?_⟩
        unfold whileN
        rw [e]
        exact ⟨h1⟩
      | true =>
        simp only [if_true] at h1
        have h1 := h1.run
        cases e2 : b ρ S1 with
        | nx ρ1 S2 =>
          rw [e2] at h1
          obtain ⟨m, hm, hI⟩ := h1
          obtain ⟨N, hN⟩ := ih m hm ρ1 S2 hI
          refine ⟨N + 1, ?_⟩
          unfold whileN
          rw [e]
          simp only [toS, if_true, e2]
          exact hN
        | ct ρ1 S2 =>
          rw [e2] at h1
          obtain ⟨m, hm, hI⟩ := h1
          obtain ⟨N, hN⟩ := ih m hm ρ1 S2 hI
          refine ⟨N + 1, ?_⟩
          unfold whileN
          rw [e]
          simp only [toS, if_true, e2]
          exact hN
        | bk ρ1 S2 =>
          rw [e2] at h1
          refine ⟨1, ?_⟩
          unfold whileN
          rw [e]
          simp only [toS, if_true, e2]
          exact ⟨h1⟩
        | rt d S2 =>
          rw [e2] at h1
          refine ⟨1, ?_⟩
          unfold whileN
          rw [e]
          simp only [toS, if_true, e2]
          exact ⟨h1⟩
        | exc c fs ρ1 S2 =>
          rw [e2] at h1
          refine ⟨1, ?_⟩
          unfold whileN
          rw [e]
          simp only [toS, if_true, e2]
          exact ⟨h1⟩
        | stuck => rw [e2] at h1; exact h1.elim
theorem wp_sWhile {t : SemT} {b : SemS} (I : Nat → Env → Store → Prop) (n : Nat) (h0 : I n ρ S)
    (hs : ∀ n ρ S, I n ρ S → (t ρ S).wp (fun c S1 => if c then (b ρ S1).wp ⟨fun ρ' S' => ∃ m, m < n ∧ I m ρ' S', k.rt, k.nx, fun ρ' S' => ∃ m, m < n ∧ I m ρ' S', k.ex⟩ else k.nx ρ S1) (fun c fs S => k.ex c fs ρ S)) : (sWhile t b ρ S).wp k := by
  obtain ⟨N, hN⟩ := wp_whileN I hs n ρ S h0
  rw [sWhile_eq rfl (fun z => by rw [z] at hN; exact hN.run)]
  exact hN
theorem wp_compGo {F : D → Store → Out (Option D)} {Q : List D → Store → Prop} (I : List D → List D → Store → Prop) {xs acc : List D} (h0 : I xs acc S)
    (hs : ∀ x xs acc S, I (x :: xs) acc S → (F x S).wp (fun o S' => match o with | some y => sz acc.length = true ∧ I xs (acc ++ [y]) S' | none => I xs acc S') E) (hd : ∀ acc S, I [] acc S → Q acc S) : (compGo F xs acc S).wp Q E := by
  induction xs generalizing acc S with
  | nil => exact ⟨hd _ _ h0⟩
  | cons x xs ih =>
    have h1 := hs x xs acc S h0
    unfold compGo
    rw [wp_bind]
    refine h1.conseq fun o S' ho => ?_
    cases o with
    | some y =>
      simp only [wp_itestuck]
      exact ⟨ho.1, ih ho.2⟩
    | none => exact ih ho
/-- a pure map -/
theorem compGo_map {F : D → Store → Out (Option D)} {h : D → D} {S : Store} : ∀ {xs acc : List D}, (∀ x ∈ xs, F x S = .ok (some (h x)) S) → acc.length + xs.length ≤ 4000000 → compGo F xs acc S = .ok (acc ++ xs.map h) S
  | [], acc, _, _ => by simp [compGo]
  | x :: xs, acc, hF, hl => by
    unfold compGo
    rw [hF x List.mem_cons_self]
    simp only [Out.ok_bind]
    rw [if_pos (show sz acc.length = true by simp [sz]; simp at hl; omega), compGo_map (fun y hy => hF y (List.mem_cons_of_mem _ hy)) (by simp at hl ⊢; omega)]
    simp
/-- a pure map with a test -/
theorem compGo_filter {F : D → Store → Out (Option D)} {p : D → Bool} {h : D → D} {S : Store} : ∀ {xs acc : List D}, (∀ x ∈ xs, F x S = .ok (if p x then some (h x) else none) S) → acc.length + xs.length ≤ 4000000 → compGo F xs acc S = .ok (acc ++ (xs.filter p).map h) S
  | [], acc, _, _ => by simp [compGo]
  | x :: xs, acc, hF, hl => by
    unfold compGo
    rw [hF x List.mem_cons_self]
    simp only [Out.ok_bind]
    cases e : p x with
    | true =>
      simp only [if_true]
      rw [if_pos (show sz acc.length = true by simp [sz]; simp at hl; omega), compGo_filter (fun y hy => hF y (List.mem_cons_of_mem _ hy)) (by simp at hl ⊢; omega)]
      simp [e]
    | false =>
      simp only [Bool.false_eq_true, if_false]
      rw [compGo_filter (fun y hy => hF y (List.mem_cons_of_mem _ hy)) (by simp at hl ⊢; omega)]
      simp [e]
def kCs (e : SemE) (ρ : Env) (Q : Option D → Store → Prop) (b : Bool) (S : Store) : Prop := if b then (e ρ S).wp (fun y S3 => Q (some y) S3) eNo else Q none S
def kCv (Q : Option D → Store → Prop) (y : D) (S : Store) : Prop := Q (some y) S
@[simp] theorem kCs_t (e : SemE) {Q : Option D → Store → Prop} : kCs e ρ Q true S = (e ρ S).wp (kCv Q) eNo := rfl
@[simp] theorem kCs_f (e : SemE) {Q : Option D → Store → Prop} : kCs e ρ Q false S = Q none S := rfl
@[simp] theorem kCv_eq {Q : Option D → Store → Prop} : kCv Q y S = Q (some y) S := rfl
@[simp] theorem wp_compStep (gg : SemG) (t : SemT) (e : SemE) (ρ : Env) (x : D) {Q : Option D → Store → Prop} : (compStep gg t e ρ x S).wp Q E = ∃ ρ1, gg x ρ S = some ρ1 ∧ (t ρ1 S).wp (kCs e ρ1 Q) eNo := by
  unfold compStep
  cases gg x ρ S with
  | none => simp
  | some ρ1 =>
    simp only [wp_bind, wp_noX, Option.some.injEq, exists_eq_left', wp_ite, wp_ok]
    rfl
@[simp] theorem wp_sYes {Q : Bool → Store → Prop} : (sYes ρ S).wp Q E = Q true S := wp_ok _
def kTry (tbl : XTbl) (hds : List (Str × Option Nat × SemS)) (k : KS) : KS := { k with ex := fun c fs ρ S => ∃ anc, tbl.at c = some anc ∧ (goH c fs anc hds ρ S).wp k }
@[simp] theorem kTry_nx (tbl : XTbl) (hds : List (Str × Option Nat × SemS)) : (kTry tbl hds k).nx = k.nx := rfl
@[simp] theorem kTry_rt (tbl : XTbl) (hds : List (Str × Option Nat × SemS)) : (kTry tbl hds k).rt = k.rt := rfl
@[simp] theorem kTry_bk (tbl : XTbl) (hds : List (Str × Option Nat × SemS)) : (kTry tbl hds k).bk = k.bk := rfl
@[simp] theorem kTry_ct (tbl : XTbl) (hds : List (Str × Option Nat × SemS)) : (kTry tbl hds k).ct = k.ct := rfl
@[simp] theorem kTry_ex (tbl : XTbl) (hds : List (Str × Option Nat × SemS)) (c : Str) (fs : List (Str × D)) : (kTry tbl hds k).ex c fs ρ S = ∃ anc, tbl.at c = some anc ∧ (goH c fs anc hds ρ S).wp k := rfl
@[simp] theorem wp_sTry (tbl : XTbl) (b : SemS) (hds : List (Str × Option Nat × SemS)) : (sTry tbl b hds ρ S).wp k = (b ρ S).wp (kTry tbl hds k) := by
  unfold sTry
  cases b ρ S with
  | exc c fs ρ1 S1 => cases h : tbl.at c <;> simp [h]
  | _ => simp
def kHd (i : Option Nat) (k : KS) : KS := ⟨fun ρ S => k.nx (unE i ρ) S, k.rt, fun ρ S => k.bk (unE i ρ) S, fun ρ S => k.ct (unE i ρ) S, fun _ _ _ _ => False⟩
@[simp] theorem kHd_nx (i : Option Nat) : (kHd i k).nx ρ S = k.nx (unE i ρ) S := rfl
@[simp] theorem kHd_rt (i : Option Nat) : (kHd i k).rt = k.rt := rfl
@[simp] theorem kHd_bk (i : Option Nat) : (kHd i k).bk ρ S = k.bk (unE i ρ) S := rfl
@[simp] theorem kHd_ct (i : Option Nat) : (kHd i k).ct ρ S = k.ct (unE i ρ) S := rfl
@[simp] theorem kHd_ex (i : Option Nat) (c : Str) (fs : List (Str × D)) : (kHd i k).ex c fs ρ S = False := rfl
@[simp] theorem unE_some (i : Nat) : unE (some i) ρ = ρ.set i none := rfl
@[simp] theorem unE_none : unE none ρ = ρ := rfl
@[simp] theorem inE_some (i : Nat) (d : D) : inE (some i) d ρ = ρ.set i (some d) := rfl
@[simp] theorem inE_none (d : D) : inE none d ρ = ρ := rfl
@[simp] theorem wp_goH_nil (c : Str) (fs : List (Str × D)) (anc : List Str) : (goH c fs anc [] ρ S).wp k = k.ex c fs ρ S := by
  unfold goH
  exact wpS_exc _ _
def kRs (c : Str) (fl : List Str) (ρ : Env) (k : KS) (ds : List D) (S : Store) : Prop := ds.length = fl.length ∧ k.ex c (fl.zip ds) ρ S
@[simp] theorem kRs_eq (c : Str) (fl : List Str) (ds : List D) : kRs c fl ρ k ds S = (ds.length = fl.length ∧ k.ex c (fl.zip ds) ρ S) := rfl
@[simp] theorem wp_sRaise (c : Str) (fl : List Str) (fa : SemA) : (sRaise c fl fa ρ S).wp k = (fa ρ S).wp (kRs c fl ρ k) (kEx k ρ) := by
  simp only [sRaise, wpS_toS, wpS_ite, wpS_exc, wpS_stuck]
  congr 1
  funext ds S1
  simp
end
end Fk
set_option Elab.async false
set_option linter.all false
set_option maxRecDepth 100000
namespace Fk
open PySem PySem.Spec PyProof.Rows L2
section
variable {S : Store} {P : D → Prop} {i j : Int} {xs ys : List D}
@[simp] theorem dr_int : dr S (.int i) = .int i := rfl
@[simp] theorem dr_bl {b : Bool} : dr S (.bl b) = .bl b := rfl
@[simp] theorem dr_non : dr S .non = .non := rfl
@[simp] theorem dr_str {x : Str} : dr S (.str x) = .str x := rfl
@[simp] theorem dr_tup : dr S (.tup xs) = .tup xs := rfl
@[simp] theorem dr_lst : dr S (.lst xs) = .lst xs := rfl
@[simp] theorem dr_dct {kvs : List (Key × D)} : dr S (.dct kvs) = .dct kvs := rfl
@[simp] theorem dr_scr : dr S (.scr xs) = .scr xs := rfl
@[simp] theorem add_int : opAddA (.int i) (.int j) S = some (.int (i + j)) := rfl
@[simp] theorem sub_int : opSubA (.int i) (.int j) S = some (.int (i - j)) := rfl
@[simp] theorem neg_int : opNeg (.int i) S = some (.int (-i)) := rfl
@[simp] theorem lt_int : opLt (.int i) (.int j) S = some (.bl (decide (i < j))) := rfl
@[simp] theorem le_int : opLe (.int i) (.int j) S = some (.bl (decide (i ≤ j))) := rfl
@[simp] theorem gt_int : opGt (.int i) (.int j) S = some (.bl (decide (j < i))) := rfl
@[simp] theorem ge_int : opGe (.int i) (.int j) S = some (.bl (decide (j ≤ i))) := rfl
@[simp] theorem int_int : Fk.intD [.int i] S = some (.int i) := rfl
@[simp] theorem int_bl {b : Bool} : Fk.intD [.bl b] S = some (.int (if b then 1 else 0)) := rfl
@[simp] theorem abs_int : absDA [.int i] S = some (.int (if i < 0 then -i else i)) := rfl
@[simp] theorem len_lst : lenD [.lst xs] S = some (.int xs.length) := rfl
@[simp] theorem len_tup : lenD [.tup xs] S = some (.int xs.length) := rfl
@[simp] theorem tup_lst : tupD [.lst xs] S = some (.tup xs) := rfl
@[simp] theorem tup_tup : tupD [.tup xs] S = some (.tup xs) := rfl
@[simp] theorem lst_lst : lstD [.lst xs] S = some xs := rfl
@[simp] theorem lst_tup : lstD [.tup xs] S = some xs := rfl
@[simp] theorem isN_eq (d : D) : opIsN d .non S = some (.bl (isNon d)) := rfl
@[simp] theorem notN_eq (d : D) : opNotN d .non S = some (.bl (!isNon d)) := rfl
@[simp] theorem isNon_non : isNon .non = true := rfl
@[simp] theorem isNon_int : isNon (.int i) = false := rfl
@[simp] theorem isNon_tup : isNon (.tup xs) = false := rfl
@[simp] theorem isNon_lst : isNon (.lst xs) = false := rfl
@[simp] theorem isNon_bl {b : Bool} : isNon (.bl b) = false := rfl
@[simp] theorem it_lst : itOf (.lst xs) S = .ok xs S := rfl
@[simp] theorem it_tup : itOf (.tup xs) S = .ok xs S := rfl
@[simp] theorem it_scr : itOf (.scr xs) S = .ok xs S := rfl
@[simp] theorem ex_mulI : (∃ a, opMulA (.int i) (.int j) S = some a ∧ P a) = (mulOk i j = true ∧ P (.int (i * j))) := by
  unfold opMulA orO opMul
  by_cases h : mulOk i j = true
  · simp [h, orO, opMul]
  · simp [h, orO, opMul, opMul0, opMulB]
@[simp] theorem ex_div : (∃ a, opDiv (.int i) (.int j) S = some a ∧ P a) = (divOk j = true ∧ P (.int (i / j))) := by
  unfold opDiv
  by_cases h : divOk j = true <;> simp [h]
@[simp] theorem ex_mod : (∃ a, opMod (.int i) (.int j) S = some a ∧ P a) = (0 < j ∧ P (.int (i % j))) := by
  unfold opMod
  by_cases h : 0 < j <;> simp [h]
@[simp] theorem ex_pow : (∃ a, opPow (.int i) (.int j) S = some a ∧ P a) = (powOk i j = true ∧ P (.int (i ^ j.toNat))) := by
  unfold opPow
  by_cases h : powOk i j = true <;> simp [h]
@[simp] theorem ex_addT : (∃ a, opAddA (.tup xs) (.tup ys) S = some a ∧ P a) = (sz (xs.length + ys.length) = true ∧ P (.tup (xs ++ ys))) := by
  unfold opAddA orO opAdd
  simp only [dr_tup]
  by_cases h : sz (xs.length + ys.length) = true <;> simp [h, opAddB]
@[simp] theorem ex_addL : (∃ a, opAddA (.lst xs) (.lst ys) S = some a ∧ P a) = (sz (xs.length + ys.length) = true ∧ P (.lst (xs ++ ys))) := by
  unfold opAddA orO opAdd
  simp only [dr_lst]
  by_cases h : sz (xs.length + ys.length) = true <;> simp [h, opAddB]
theorem shaped_int : SeqAt.shaped (.int i) = true := by simp [SeqAt.shaped, PyData.canLay0, PyData.depth]
theorem shaped_bl {b : Bool} : SeqAt.shaped (.bool b) = true := by simp [SeqAt.shaped, PyData.canLay0, PyData.depth]
theorem eqA_of {d e : D} (h : opEqS d e S = none) : opEqA d e S = opEq d e S := by unfold opEqA orO; rw [h]
theorem neA_of {d e : D} (h : opNeS d e S = none) : opNeA d e S = opNe d e S := by unfold opNeA orO; rw [h]
@[simp] theorem eq_int : opEqA (.int i) (.int j) S = some (.bl (decide (i = j))) := by
  rw [eqA_of rfl]
  simp [opEq, eqD, dat, shaped_int, PyData.eqv]
  by_cases h : i = j <;> simp [h]
@[simp] theorem ne_int : opNeA (.int i) (.int j) S = some (.bl (!decide (i = j))) := by
  rw [neA_of rfl]
  simp [opNe, neD, dat, shaped_int, PyData.eqv]
  by_cases h : i = j <;> simp [h]
@[simp] theorem eq_str {x y : Str} : opEqA (.str x) (.str y) S = some (.bl (decide (x = y))) := rfl
@[simp] theorem ne_str {x y : Str} : opNeA (.str x) (.str y) S = some (.bl (!decide (x = y))) := rfl
@[simp] theorem eq_tup0 : opEqA (.tup xs) (.tup []) S = some (.bl xs.isEmpty) := rfl
theorem mulOk_of {i j : Int} (a b : Nat) (hi : i.natAbs < 2 ^ a) (hj : j.natAbs < 2 ^ b) (h : a + b ≤ 1000000) : mulOk i j = true := by
  have l : ∀ {n k : Nat}, n < 2 ^ k → n.log2 ≤ k := fun {n k} hn => by
    by_cases h0 : n = 0
    · subst h0
      simp
    · exact Nat.le_of_lt ((Nat.log2_lt h0).mpr hn)
  have l2 : ∀ {n k : Nat}, n < 2 ^ k → n.log2 < k ∨ k = 0 ∨ n = 0 := fun {n k} hn => by
    by_cases h0 : n = 0
    · exact .inr (.inr h0)
    · exact .inl ((Nat.log2_lt h0).mpr hn)
  simp only [mulOk, decide_eq_true_eq]
  have h1 := l hi
  have h2 := l hj
  rcases l2 hi with q | q | q
  · omega
  · subst q
    have : i.natAbs = 0 := by simpa using hi
    rw [this]
    rcases l2 hj with q | q | q
    · simp; omega
    · simp; omega
    · rw [q]; simp
  · rw [q]
    rcases l2 hj with q | q | q
    · simp; omega
    · subst q
      have : j.natAbs = 0 := by simpa using hj
      rw [this]
      simp
    · rw [q]; simp
@[simp] theorem pow1018 : powOk 10 18 = true := by decide
@[simp] theorem pow1020 : powOk 10 20 = true := by decide
@[simp] theorem pow106 : powOk 10 6 = true := by decide
@[simp] theorem pow1012 : powOk 10 12 = true := by decide
@[simp] theorem pow1030 : powOk 10 30 = true := by decide
@[simp] theorem pow1039 : powOk 10 39 = true := by decide
@[simp] theorem sum_ints {ns : List Int} : sumDA [.lst (ns.map D.int)] S = some (.int ns.sum) := by simp [sumDA, asInts_map]
@[simp] theorem sum_intsT {ns : List Int} : sumDA [.tup (ns.map D.int)] S = some (.int ns.sum) := by simp [sumDA, asInts_map]
@[simp] theorem max_2 : maxD [.int i, .int j] S = some (.int (if j > i then j else i)) := rfl
@[simp] theorem min_2 : minD [.int i, .int j] S = some (.int (if j < i then j else i)) := rfl
theorem isi_eq (T : String) (d : D) (t : String) (b : Bool) (h : tyOf S d = some t) (hb : kitB t T = some b) : isiD T d S = some (.bl b) := by
  unfold isiD
  rw [h]
  simp [hb]
end
section
variable {S : Store} {i : Int} {b : Bool} {x : Str} {xs : List D} {kvs : List (Key × D)}
@[simp] theorem isi_int_non : isiD "int" .non S = some (.bl false) := isi_eq _ _ "NoneType" _ rfl (by decide +kernel)
@[simp] theorem isi_int_bl : isiD "int" (.bl b) S = some (.bl true) := isi_eq _ _ "bool" _ rfl (by decide +kernel)
@[simp] theorem isi_int_int : isiD "int" (.int i) S = some (.bl true) := isi_eq _ _ "int" _ rfl (by decide +kernel)
@[simp] theorem isi_int_str : isiD "int" (.str x) S = some (.bl false) := isi_eq _ _ "str" _ rfl (by decide +kernel)
@[simp] theorem isi_int_tup : isiD "int" (.tup xs) S = some (.bl false) := isi_eq _ _ "tuple" _ rfl (by decide +kernel)
@[simp] theorem isi_int_lst : isiD "int" (.lst xs) S = some (.bl false) := isi_eq _ _ "list" _ rfl (by decide +kernel)
@[simp] theorem isi_int_dct : isiD "int" (.dct kvs) S = some (.bl false) := isi_eq _ _ "dict" _ rfl (by decide +kernel)
@[simp] theorem isi_bool_non : isiD "bool" .non S = some (.bl false) := isi_eq _ _ "NoneType" _ rfl (by decide +kernel)
@[simp] theorem isi_bool_bl : isiD "bool" (.bl b) S = some (.bl true) := isi_eq _ _ "bool" _ rfl (by decide +kernel)
@[simp] theorem isi_bool_int : isiD "bool" (.int i) S = some (.bl false) := isi_eq _ _ "int" _ rfl (by decide +kernel)
@[simp] theorem isi_bool_str : isiD "bool" (.str x) S = some (.bl false) := isi_eq _ _ "str" _ rfl (by decide +kernel)
@[simp] theorem isi_bool_tup : isiD "bool" (.tup xs) S = some (.bl false) := isi_eq _ _ "tuple" _ rfl (by decide +kernel)
@[simp] theorem isi_bool_lst : isiD "bool" (.lst xs) S = some (.bl false) := isi_eq _ _ "list" _ rfl (by decide +kernel)
@[simp] theorem isi_bool_dct : isiD "bool" (.dct kvs) S = some (.bl false) := isi_eq _ _ "dict" _ rfl (by decide +kernel)
@[simp] theorem isi_str_non : isiD "str" .non S = some (.bl false) := isi_eq _ _ "NoneType" _ rfl (by decide +kernel)
@[simp] theorem isi_str_bl : isiD "str" (.bl b) S = some (.bl false) := isi_eq _ _ "bool" _ rfl (by decide +kernel)
@[simp] theorem isi_str_int : isiD "str" (.int i) S = some (.bl false) := isi_eq _ _ "int" _ rfl (by decide +kernel)
@[simp] theorem isi_str_str : isiD "str" (.str x) S = some (.bl true) := isi_eq _ _ "str" _ rfl (by decide +kernel)
@[simp] theorem isi_str_tup : isiD "str" (.tup xs) S = some (.bl false) := isi_eq _ _ "tuple" _ rfl (by decide +kernel)
@[simp] theorem isi_str_lst : isiD "str" (.lst xs) S = some (.bl false) := isi_eq _ _ "list" _ rfl (by decide +kernel)
@[simp] theorem isi_str_dct : isiD "str" (.dct kvs) S = some (.bl false) := isi_eq _ _ "dict" _ rfl (by decide +kernel)
@[simp] theorem isi_tuple_non : isiD "tuple" .non S = some (.bl false) := isi_eq _ _ "NoneType" _ rfl (by decide +kernel)
@[simp] theorem isi_tuple_bl : isiD "tuple" (.bl b) S = some (.bl false) := isi_eq _ _ "bool" _ rfl (by decide +kernel)
@[simp] theorem isi_tuple_int : isiD "tuple" (.int i) S = some (.bl false) := isi_eq _ _ "int" _ rfl (by decide +kernel)
@[simp] theorem isi_tuple_str : isiD "tuple" (.str x) S = some (.bl false) := isi_eq _ _ "str" _ rfl (by decide +kernel)
@[simp] theorem isi_tuple_tup : isiD "tuple" (.tup xs) S = some (.bl true) := isi_eq _ _ "tuple" _ rfl (by decide +kernel)
@[simp] theorem isi_tuple_lst : isiD "tuple" (.lst xs) S = some (.bl false) := isi_eq _ _ "list" _ rfl (by decide +kernel)
@[simp] theorem isi_tuple_dct : isiD "tuple" (.dct kvs) S = some (.bl false) := isi_eq _ _ "dict" _ rfl (by decide +kernel)
@[simp] theorem isi_list_non : isiD "list" .non S = some (.bl false) := isi_eq _ _ "NoneType" _ rfl (by decide +kernel)
@[simp] theorem isi_list_bl : isiD "list" (.bl b) S = some (.bl false) := isi_eq _ _ "bool" _ rfl (by decide +kernel)
@[simp] theorem isi_list_int : isiD "list" (.int i) S = some (.bl false) := isi_eq _ _ "int" _ rfl (by decide +kernel)
@[simp] theorem isi_list_str : isiD "list" (.str x) S = some (.bl false) := isi_eq _ _ "str" _ rfl (by decide +kernel)
@[simp] theorem isi_list_tup : isiD "list" (.tup xs) S = some (.bl false) := isi_eq _ _ "tuple" _ rfl (by decide +kernel)
@[simp] theorem isi_list_lst : isiD "list" (.lst xs) S = some (.bl true) := isi_eq _ _ "list" _ rfl (by decide +kernel)
@[simp] theorem isi_list_dct : isiD "list" (.dct kvs) S = some (.bl false) := isi_eq _ _ "dict" _ rfl (by decide +kernel)
@[simp] theorem isi_dict_non : isiD "dict" .non S = some (.bl false) := isi_eq _ _ "NoneType" _ rfl (by decide +kernel)
@[simp] theorem isi_dict_bl : isiD "dict" (.bl b) S = some (.bl false) := isi_eq _ _ "bool" _ rfl (by decide +kernel)
@[simp] theorem isi_dict_int : isiD "dict" (.int i) S = some (.bl false) := isi_eq _ _ "int" _ rfl (by decide +kernel)
@[simp] theorem isi_dict_str : isiD "dict" (.str x) S = some (.bl false) := isi_eq _ _ "str" _ rfl (by decide +kernel)
@[simp] theorem isi_dict_tup : isiD "dict" (.tup xs) S = some (.bl false) := isi_eq _ _ "tuple" _ rfl (by decide +kernel)
@[simp] theorem isi_dict_lst : isiD "dict" (.lst xs) S = some (.bl false) := isi_eq _ _ "list" _ rfl (by decide +kernel)
@[simp] theorem isi_dict_dct : isiD "dict" (.dct kvs) S = some (.bl true) := isi_eq _ _ "dict" _ rfl (by decide +kernel)
end
@[simp] theorem add_blint {b : Bool} {j : Int} {S : Store} : opAddA (.bl b) (.int j) S = some (.int (b2 b + j)) := rfl
@[simp] theorem sub_blint {b : Bool} {j : Int} {S : Store} : opSubA (.bl b) (.int j) S = some (.int (b2 b - j)) := rfl
@[simp] theorem sub_intbl {b : Bool} {j : Int} {S : Store} : opSubA (.int j) (.bl b) S = some (.int (j - b2 b)) := rfl
@[simp] theorem mul_blint {b : Bool} {j : Int} {S : Store} : opMulA (.bl b) (.int j) S = some (.int (b2 b * j)) := rfl
@[simp] theorem abs_bl {b : Bool} {S : Store} : absDA [.bl b] S = some (.int (b2 b)) := rfl
@[simp] theorem str_bl {b : Bool} {S : Store} : strDA [.bl b] S = some (.str (if b then "True" else "False")) := rfl
@[simp] theorem rev_tup {xs : List D} {S : Store} : opRev (.tup xs) S = some (.tup xs.reverse) := rfl
@[simp] theorem rev_lst {xs : List D} {S : Store} : opRev (.lst xs) S = some (.lst xs.reverse) := rfl
theorem atI_of {α : Type} {xs : List α} {i : Int} (h0 : 0 ≤ i) (h1 : i < xs.length) : ∃ x, x ∈ xs ∧ atI xs i = some x := by
  have hn : i.toNat < xs.length := by omega
  refine ⟨xs[i.toNat], List.getElem_mem _, ?_⟩
  unfold atI ixN
  rw [if_pos h0, if_pos h1]
  simp
theorem ix_tup {xs : List D} {i : Int} {S : Store} (h0 : 0 ≤ i) (h1 : i < xs.length) : ∃ x, x ∈ xs ∧ opIx (.tup xs) (.int i) S = some x := atI_of h0 h1
@[simp] theorem ix_lstE {xs : List D} {i : Int} {S : Store} : opIx (.lst xs) (.int i) S = atI xs i := rfl
@[simp] theorem ix_tupE {xs : List D} {i : Int} {S : Store} : opIx (.tup xs) (.int i) S = atI xs i := rfl
theorem atI_nat {α : Type} {xs : List α} (n : Nat) : atI xs (n : Int) = xs[n]? := by
  unfold atI ixN
  rw [if_pos (by omega)]
  by_cases h : (n : Int) < xs.length
  · rw [if_pos h]
    simp
  · rw [if_neg h, List.getElem?_eq_none (by omega)]
    rfl
@[simp] theorem atI_cons0 {α : Type} (x : α) (xs : List α) : atI (x :: xs) 0 = some x := atI_nat 0
theorem eq_of_wp {α : Type} {o : Out α} {v : α} {S : Store} (h : o.wp (fun a S' => a = v ∧ S' = S) fun _ _ _ => False) : o = .ok v S := by
  cases o with
  | ok a S1 => obtain ⟨rfl, rfl⟩ := h.run; rfl
  | exc c fs S1 => exact h.run.elim
  | stuck => exact h.run.elim
theorem cutD_take (xs : List D) (n : Nat) : cutD xs none (some (n : Int)) = xs.take n := by
  unfold cutD
  simp [HT.sIx]
  rw [if_neg (by omega)]
  omega
@[simp] theorem sl_tup {xs : List D} {lo hi : Option Int} {S : Store} : opSl (.tup xs) lo hi S = some (.tup (cutD xs lo hi)) := rfl
@[simp] theorem sl_lst {xs : List D} {lo hi : Option Int} {S : Store} : opSl (.lst xs) lo hi S = some (.lst (cutD xs lo hi)) := rfl
@[simp] theorem sl_scr {xs : List D} {lo hi : Option Int} {S : Store} : opSl (.scr xs) lo hi S = some (.lst (cutD xs lo hi)) := rfl
theorem log2_len {n : Nat} (h : n ≤ 4000000) : ((n : Int)).natAbs.log2 < 9000 := by
  simp only [Int.natAbs_natCast]
  by_cases h0 : n = 0
  · subst h0; decide
  · have : n < 2 ^ 22 := by omega
    have := (Nat.log2_lt h0).mpr this
    omega
theorem cellAt_of {S : Store} {n : Nat} {xs : List D} (h : S[n]? = some (.lst true xs)) : cellAt S (.ref n) = some (n, xs) := by
  show (match S[n]? with | some (.lst true xs) => some (n, xs) | _ => none) = _
  rw [h]
theorem dr_of {S : Store} {n : Nat} {b : Bool} {xs : List D} (h : S[n]? = some (.lst b xs)) : dr S (.ref n) = .lst xs := by
  rw [dr_ref, h]
  rfl
theorem isL_of {S : Store} {n : Nat} {b : Bool} {xs : List D} (h : S[n]? = some (.lst b xs)) : isL S (.ref n) = true := by
  show (match dr S (.ref n) with | .lst _ => true | _ => false) = true
  rw [dr_of h]
theorem appC_of {S : Store} {n : Nat} {xs : List D} {y : D} (h : S[n]? = some (.lst true xs)) (hs : xs.length ≤ 4000000) (hc : closed n y = true) : appC (.ref n) y S = .ok .non (S.set n (.lst true (xs ++ [y]))) := by
  unfold appC
  rw [cellAt_of h]
  simp [sz, hs, hc]
@[simp] theorem eq_blint {b : Bool} {j : Int} {S : Store} : opEqA (.bl b) (.int j) S = some (.bl (decide (b2 b = j))) := by
  rw [eqA_of rfl]
  simp [opEq, eqD, dat, shaped_int, shaped_bl, PyData.eqv, b2]
  by_cases h : (if b = true then (1 : Int) else 0) = j <;> simp [h]
@[simp] theorem closedA_comp {α : Type} (n : Nat) (f : α → Int) (ns : List α) : closedA n (ns.map (D.int ∘ f)) = true := closedA_mem.mpr fun x h => by
  obtain ⟨i, _, rfl⟩ := List.mem_map.mp h
  simp
@[simp] theorem closedA_fun {α : Type} (n : Nat) (f : α → Int) (ns : List α) : closedA n (ns.map fun x => D.int (f x)) = true := closedA_comp n f ns
@[simp] theorem gT2 {i j : Nat} {d e : D} {ρ : Env} {S : Store} : gT [gN i, gN j] (.tup [d, e]) ρ S = some ((ρ.set i (some d)).set j (some e)) := rfl
@[simp] theorem gT3 {i j k : Nat} {d e f : D} {ρ : Env} {S : Store} : gT [gN i, gN j, gN k] (.tup [d, e, f]) ρ S = some (((ρ.set i (some d)).set j (some e)).set k (some f)) := rfl
@[simp] theorem gT4 {i j k l : Nat} {d e f g : D} {ρ : Env} {S : Store} : gT [gN i, gN j, gN k, gN l] (.tup [d, e, f, g]) ρ S = some ((((ρ.set i (some d)).set j (some e)).set k (some f)).set l (some g)) := rfl
end Fk
set_option Elab.async false
set_option linter.all false
set_option maxRecDepth 100000
namespace Fk
open PySem PySem.Spec PyProof.Rows L2
def keyOk : Key → Bool
  | .inl i => decide (i.natAbs.log2 < 1900)
  | .inr _ => true
mutual
def plain (b : Nat) : D → Bool
  | .int i => decide (i.natAbs.log2 < b)
  | .tup xs => plainA b xs
  | .lst xs => plainA b xs
  | .dct kvs => plainK b kvs
  | .ref _ => false
  | .scr _ => false
  | .exn _ _ _ => false
  | _ => true
def plainA (b : Nat) : List D → Bool
  | [] => true
  | x :: xs => plain b x && plainA b xs
def plainK (b : Nat) : List (Key × D) → Bool
  | [] => true
  | (k, x) :: xs => keyOk k && plain b x && plainK b xs
end
mutual
def wt : D → Nat
  | .non => 4
  | .bl _ => 5
  | .int i => 3 + i.natAbs.log2
  | .str x => (reprText x).length
  | .tup xs => 3 + wtA xs
  | .lst xs => 3 + wtA xs
  | .dct kvs => 3 + wtK kvs
  | _ => 0
def wtA : List D → Nat
  | [] => 0
  | x :: xs => wt x + 2 + wtA xs
def wtK : List (Key × D) → Nat
  | [] => 0
  | (k, x) :: xs => (PyData.shown (keyD k)).length + 2 + wt x + 2 + wtK xs
end
mutual
def dep : D → Nat
  | .tup xs => depA xs + 1
  | .lst xs => depA xs + 1
  | .dct kvs => depK kvs + 1
  | _ => 0
def depA : List D → Nat
  | [] => 0
  | x :: xs => max (dep x) (depA xs)
def depK : List (Key × D) → Nat
  | [] => 0
  | (_, x) :: xs => max (dep x) (depK xs)
end
mutual
def toP : D → PyData
  | .non => .none
  | .bl b => .bool b
  | .int i => .int i
  | .str x => .str x
  | .tup xs => .tuple (toPA xs)
  | .lst xs => .list (toPA xs)
  | .dct kvs => .dict (toPK kvs)
  | _ => .none
def toPA : List D → List PyData
  | [] => []
  | x :: xs => toP x :: toPA xs
def toPK : List (Key × D) → List (PyData × PyData)
  | [] => []
  | (k, x) :: xs => (keyD k, toP x) :: toPK xs
end
theorem int_len {i : Int} (h : i.natAbs.log2 < 1900) : (PyData.shown (.int i)).length ≤ 3 + i.natAbs.log2 := by
  have := int_text_length_le (a := i) (k := i.natAbs.log2 + 1) (by omega) (by omega)
  show (Str.ofString (toString i)).length ≤ _
  have e := PySem.ofString_length (toString i)
  omega
theorem textFrom_le : ∀ (ts : List Str) (k : Nat) (acc : Str), (textFrom k acc ts).length ≤ acc.length + piled ts
  | [], k, acc => by simp [textFrom, piled]
  | t :: ts, k, acc => by
    have ih := textFrom_le ts (k + 1) (acc ++ (if k > 0 then ", " else "" : String) ++ t)
    unfold textFrom
    refine Nat.le_trans ih ?_
    rw [strLen_append, strLen_append, piled_cons]
    have : ((if k > 0 then ", " else "" : String) : Str).length ≤ 2 := by split <;> decide
    omega
theorem join_le (ts : List Str) : (Str.join ", " ts).length ≤ piled ts := by
  by_cases h : ts = []
  · subst h; decide
  · have := join_length_add ts h
    omega
theorem tupleText_le (ts : List Str) : (tupleText ts).length ≤ 3 + piled ts := by
  unfold tupleText
  rw [strLen_append, strLen_append]
  have h1 := join_le ts
  have h2 : ((if ts.length == 1 then ",)" else ")" : String) : Str).length ≤ 2 := by split <;> decide
  have h3 : ("(" : Str).length = 1 := rfl
  omega
theorem listText_le (ts : List Str) : (listText ts).length ≤ 2 + piled ts := by
  unfold listText
  rw [strLen_append]
  have h1 := textFrom_le ts 0 "["
  have h2 : ("[" : Str).length = 1 := rfl
  have h3 : ("]" : Str).length = 1 := rfl
  omega
theorem dictText_le (ts : List Str) : (dictText ts).length ≤ 2 + piled ts := by
  unfold dictText
  rw [strLen_append, strLen_append]
  have h1 := join_le ts
  have h2 : ("{" : Str).length = 1 := rfl
  have h3 : ("}" : Str).length = 1 := rfl
  omega
mutual
theorem plain_dat {b : Nat} (hb : b ≤ 1900) : ∀ {d : D}, plain b d = true → dat d = some (toP d) ∧ (toP d).showable = true ∧ (toP d).shown.length ≤ wt d ∧ (toP d).depth ≤ dep d
  | .non, _ => by simp [dat, toP, PyData.showable, wt, PyData.depth]; decide
  | .bl b, _ => by cases b <;> simp [dat, toP, PyData.showable, wt, PyData.depth] <;> decide
  | .int i, h => by
    have h' : i.natAbs.log2 < 1900 := by
      have : i.natAbs.log2 < b := by simpa [plain] using h
      omega
    refine ⟨by simp [dat, toP], by simp [toP, PyData.showable]; omega, by simpa [toP, wt] using int_len h', by simp [toP, PyData.depth]⟩
  | .str x, _ => by simp [dat, toP, PyData.showable, wt, PyData.depth, PyData.shown]
  | .tup xs, h => by
    obtain ⟨h1, h2, h3, h4⟩ := plain_datA hb (xs := xs) (by simpa [plain] using h)
    refine ⟨by simp [dat, toP, h1], by simp [toP, PyData.showable, h2], ?_, by simp [toP, PyData.depth, dep]; omega⟩
    simp only [toP, PyData.shown, wt]
    have := tupleText_le (PyData.shownAll (toPA xs))
    omega
  | .lst xs, h => by
    obtain ⟨h1, h2, h3, h4⟩ := plain_datA hb (xs := xs) (by simpa [plain] using h)
    refine ⟨by simp [dat, toP, h1], by simp [toP, PyData.showable, h2], ?_, by simp [toP, PyData.depth, dep]; omega⟩
    simp only [toP, PyData.shown, wt]
    have := listText_le (PyData.shownAll (toPA xs))
    omega
  | .dct kvs, h => by
    obtain ⟨h1, h2, h3, h4⟩ := plain_datK hb (xs := kvs) (by simpa [plain] using h)
    refine ⟨by simp [dat, toP, h1], by simp [toP, PyData.showable, h2], ?_, by simp [toP, PyData.depth, dep]; omega⟩
    simp only [toP, PyData.shown, wt]
    have := dictText_le (PyData.shownKv (toPK kvs))
    omega
  | .ref _, h => by simp [plain] at h
  | .scr _, h => by simp [plain] at h
  | .exn _ _ _, h => by simp [plain] at h
theorem plain_datA {b : Nat} (hb : b ≤ 1900) : ∀ {xs : List D}, plainA b xs = true → datAll xs = some (toPA xs) ∧ PyData.showableAll (toPA xs) = true ∧ piled (PyData.shownAll (toPA xs)) ≤ wtA xs ∧ PyData.depthAll (toPA xs) ≤ depA xs
  | [], _ => by simp [datAll, toPA, PyData.showableAll, PyData.shownAll, piled, wtA, PyData.depthAll, depA]
  | x :: xs, h => by
    have h' : plain b x = true ∧ plainA b xs = true := by simpa [plainA] using h
    obtain ⟨a1, a2, a3, a4⟩ := plain_dat hb h'.1
    obtain ⟨b1, b2, b3, b4⟩ := plain_datA hb h'.2
    refine ⟨by simp [datAll, toPA, a1, b1], by simp [toPA, PyData.showableAll, a2, b2], ?_, by simp [toPA, PyData.depthAll, depA]; omega⟩
    simp only [toPA, PyData.shownAll, piled_cons, wtA]
    omega
theorem plain_datK {b : Nat} (hb : b ≤ 1900) : ∀ {xs : List (Key × D)}, plainK b xs = true → datKV xs = some (toPK xs) ∧ PyData.showableKv (toPK xs) = true ∧ piled (PyData.shownKv (toPK xs)) ≤ wtK xs ∧ PyData.depthKv (toPK xs) ≤ depK xs
  | [], _ => by simp [datKV, toPK, PyData.showableKv, PyData.shownKv, piled, wtK, PyData.depthKv, depK]
  | (k, x) :: xs, h => by
    have h' : (keyOk k = true ∧ plain b x = true) ∧ plainK b xs = true := by simpa [plainK] using h
    obtain ⟨a1, a2, a3, a4⟩ := plain_dat hb h'.1.2
    obtain ⟨b1, b2, b3, b4⟩ := plain_datK hb h'.2
    have hk : (keyD k).showable = true ∧ (keyD k).depth = 0 := by
      cases k with
      | inl i =>
        have := h'.1.1
        simp [keyOk] at this
        exact ⟨by simp [keyD, PyData.showable]; omega, by simp [keyD, PyData.depth]⟩
      | inr y => exact ⟨by simp [keyD, PyData.showable], by simp [keyD, PyData.depth]⟩
    refine ⟨by simp [datKV, toPK, a1, b1], by simp [toPK, PyData.showableKv, a2, b2, hk.1], ?_, by simp [toPK, PyData.depthKv, depK, hk.2]; omega⟩
    simp only [toPK, PyData.shownKv, piled_cons, wtK, strLen_append]
    have : ((": " : String) : Str).length = 2 := rfl
    omega
end
/-- repr of plain data -/
theorem repr_plain {b : Nat} (hb : b ≤ 1900) {d : D} {S : Store} (h : plain b d = true) (hw : wt d ≤ 16000000) (hd : dep d ≤ 60) : reprD [d] S = some (.str (toP d).shown) := by
  obtain ⟨h1, h2, h3, h4⟩ := plain_dat hb h
  have e : dr S d = d := by cases d <;> first | rfl | simp [plain] at h
  show (dat (dr S d)).bind _ = _
  rw [e, h1]
  simp [h2]
  omega
mutual
theorem plain_closed {b : Nat} (n : Nat) : ∀ {d : D}, plain b d = true → closed n d = true
  | .non, _ => by simp
  | .bl _, _ => by simp
  | .int _, _ => by simp
  | .str _, _ => by simp
  | .tup xs, h => by simp only [closed_tup]; exact plain_closedA n (by simpa [plain] using h)
  | .lst xs, h => by simp only [closed_lst]; exact plain_closedA n (by simpa [plain] using h)
  | .dct kvs, h => by simp only [closed]; exact plain_closedK n (by simpa [plain] using h)
  | .ref _, h => by simp [plain] at h
  | .scr _, h => by simp [plain] at h
  | .exn _ _ _, h => by simp [plain] at h
theorem plain_closedA {b : Nat} (n : Nat) : ∀ {xs : List D}, plainA b xs = true → closedA n xs = true
  | [], _ => by simp
  | x :: xs, h => by
    have h' : plain b x = true ∧ plainA b xs = true := by simpa [plainA] using h
    simp [plain_closed n h'.1, plain_closedA n h'.2]
theorem plain_closedK {b : Nat} (n : Nat) : ∀ {xs : List (Key × D)}, plainK b xs = true → closedK n xs = true
  | [], _ => by simp [closedK]
  | (k, x) :: xs, h => by
    have h' : (keyOk k = true ∧ plain b x = true) ∧ plainK b xs = true := by simpa [plainK] using h
    simp [closedK, plain_closed n h'.1.2, plain_closedK n h'.2]
end
theorem plainA_iff {b : Nat} {xs : List D} : plainA b xs = true ↔ ∀ x ∈ xs, plain b x = true := by
  induction xs with
  | nil => simp [plainA]
  | cons x xs ih => simp [plainA, ih]
theorem plainA_append (b : Nat) (xs ys : List D) : plainA b (xs ++ ys) = (plainA b xs && plainA b ys) := by
  induction xs with
  | nil => simp [plainA]
  | cons x xs ih => simp [plainA, ih, Bool.and_assoc]
theorem wtA_append (xs ys : List D) : wtA (xs ++ ys) = wtA xs + wtA ys := by
  induction xs with
  | nil => simp [wtA]
  | cons x xs ih => simp [wtA, ih]; omega
theorem depA_append (xs ys : List D) : depA (xs ++ ys) = max (depA xs) (depA ys) := by
  induction xs with
  | nil => simp [depA]
  | cons x xs ih => simp only [List.cons_append, depA, ih]; omega
theorem wtA_len (xs : List D) : xs.length ≤ wtA xs := by
  induction xs with
  | nil => simp [wtA]
  | cons x xs ih => simp [wtA]; omega
theorem wtA_mem {xs : List D} {x : D} (h : x ∈ xs) : wt x + 2 ≤ wtA xs := by
  induction xs with
  | nil => cases h
  | cons y xs ih =>
    rcases List.mem_cons.mp h with rfl | h
    · simp [wtA]
    · have := ih h
      simp [wtA]
      omega
theorem depA_mem {xs : List D} {x : D} (h : x ∈ xs) : dep x ≤ depA xs := by
  induction xs with
  | nil => cases h
  | cons y xs ih =>
    rcases List.mem_cons.mp h with rfl | h
    · simp [depA]; omega
    · have := ih h
      simp [depA]
      omega
theorem wtA_sub {xs ys : List D} (h : xs.Sublist ys) : wtA xs ≤ wtA ys := by
  induction h with
  | slnil => simp
  | cons _ _ ih => simp [wtA]; omega
  | cons_cons _ _ ih => simp [wtA]; omega
theorem depA_sub {xs ys : List D} (h : xs.Sublist ys) : depA xs ≤ depA ys := by
  induction h with
  | slnil => simp
  | cons _ _ ih => simp [depA]; omega
  | cons_cons _ _ ih => simp [depA]; omega
theorem plainA_sub {b : Nat} {xs ys : List D} (h : xs.Sublist ys) (hp : plainA b ys = true) : plainA b xs = true := plainA_iff.mpr fun x hx => plainA_iff.mp hp x (h.subset hx)
/-- good data: plain, its ints of so many bits, so heavy, so deep -/
structure Gd (b w k : Nat) (d : D) : Prop where
  p : plain b d = true
  w : wt d ≤ w
  k : dep d ≤ k
structure GdA (b w k : Nat) (xs : List D) : Prop where
  p : plainA b xs = true
  w : wtA xs ≤ w
  k : depA xs ≤ k
section
variable {b b' w k w' k' n : Nat} {d : D} {xs ys : List D}
theorem Gd.mono (h : Gd b w k d) (hw : w ≤ w') (hk : k ≤ k') : Gd b w' k' d := ⟨h.p, Nat.le_trans h.w hw, Nat.le_trans h.k hk⟩
theorem GdA.mono (h : GdA b w k xs) (hw : w ≤ w') (hk : k ≤ k') : GdA b w' k' xs := ⟨h.p, Nat.le_trans h.w hw, Nat.le_trans h.k hk⟩
theorem GdA.nil : GdA b w k [] := ⟨by simp [plainA], by simp [wtA], by simp [depA]⟩
theorem GdA.one (h : Gd b w k d) : GdA b (w + 2) k [d] := ⟨by simp [plainA, h.p], by have := h.w; simp [wtA]; omega, by have := h.k; simp [depA]; omega⟩
theorem GdA.cons (h : Gd b w k d) (g : GdA b w' k xs) : GdA b (w + 2 + w') k (d :: xs) := ⟨by simp [plainA, h.p, g.p], by have := h.w; have := g.w; simp [wtA]; omega, by have := h.k; have := g.k; simp [depA]; omega⟩
theorem GdA.append (h : GdA b w k xs) (g : GdA b w' k ys) : GdA b (w + w') k (xs ++ ys) := ⟨by rw [plainA_append, h.p, g.p]; rfl, by rw [wtA_append]; have := h.w; have := g.w; omega, by rw [depA_append]; have := h.k; have := g.k; omega⟩
theorem GdA.sub (h : GdA b w k ys) (s : xs.Sublist ys) : GdA b w k xs := ⟨plainA_sub s h.p, Nat.le_trans (wtA_sub s) h.w, Nat.le_trans (depA_sub s) h.k⟩
theorem GdA.mem (h : GdA b w k xs) {x : D} (hx : x ∈ xs) : Gd b w k x := ⟨plainA_iff.mp h.p x hx, by have := wtA_mem hx; have := h.w; omega, by have := depA_mem hx; have := h.k; omega⟩
theorem GdA.len (h : GdA b w k xs) : xs.length ≤ w := Nat.le_trans (wtA_len xs) h.w
theorem GdA.tup (h : GdA b w k xs) : Gd b (w + 3) (k + 1) (.tup xs) := ⟨by simp [plain, h.p], by have := h.w; simp [wt]; omega, by have := h.k; simp [dep]; omega⟩
theorem GdA.lst (h : GdA b w k xs) : Gd b (w + 3) (k + 1) (.lst xs) := ⟨by simp [plain, h.p], by have := h.w; simp [wt]; omega, by have := h.k; simp [dep]; omega⟩
theorem Gd.lstA (h : Gd b w (k + 1) (.lst xs)) : GdA b (w - 3) k xs := ⟨by simpa [plain] using h.p, by have := h.w; simp [wt] at this; omega, by have := h.k; simp [dep] at this; omega⟩
theorem Gd.repr {S : Store} (h : Gd b w k d) (hb : b ≤ 1900 := by decide) (hw : w ≤ 16000000 := by decide) (hk : k ≤ 60 := by decide) : reprD [d] S = some (.str (toP d).shown) := repr_plain hb h.p (Nat.le_trans h.w hw) (Nat.le_trans h.k hk)
theorem Gd.closed (h : Gd b w k d) : closed n d = true := plain_closed n h.p
theorem GdA.closed (h : GdA b w k xs) : closedA n xs = true := plain_closedA n h.p
theorem Gd.ofLog {i : Int} (h1 : i.natAbs.log2 < b) (h2 : i.natAbs.log2 + 3 ≤ w) : Gd b w k (.int i) := ⟨by simpa [plain] using h1, by simp [wt]; omega, by simp [dep]⟩
theorem Gd.int {i : Int} (hb : 0 < b) (h : i.natAbs < 2 ^ b) (hw : b + 2 ≤ w) : Gd b w k (.int i) := by
  have hl : i.natAbs.log2 < b := by
    by_cases h0 : i.natAbs = 0
    · rw [h0]; simpa using hb
    · exact (Nat.log2_lt h0).mpr h
  exact Gd.ofLog hl (by omega)
theorem Gd.bl {c : Bool} (hw : 5 ≤ w) : Gd b w k (.bl c) := ⟨by simp [plain], by simp [wt]; omega, by simp [dep]⟩
end
def gdB (b w k : Nat) (d : D) : Bool := plain b d && (decide (wt d ≤ w) && decide (dep d ≤ k))
theorem gdB_ok {b w k : Nat} {d : D} (h : gdB b w k d = true) : Gd b w k d := by
  simp only [gdB, Bool.and_eq_true, decide_eq_true_eq] at h
  exact ⟨h.1, h.2.1, h.2.2⟩
theorem gdB_all {b w k : Nat} {xs : List D} (h : xs.all (gdB b w k) = true) : ∀ x ∈ xs, Gd b w k x := fun x hx => gdB_ok (List.all_eq_true.mp h x hx)
end Fk
set_option Elab.async false
set_option linter.all false
set_option maxRecDepth 100000
set_option maxHeartbeats 1000000
namespace Fk
open PySem PySem.Spec PyProof.Rows L2
end Fk
set_option Elab.async false
set_option linter.all false
set_option maxRecDepth 100000
set_option maxHeartbeats 1000000
namespace Fk
open PySem PySem.Spec PyProof.Rows L2
abbrev tI (ns : List Int) : D := .tup (ns.map D.int)
@[simp] theorem zip_tI (xs ys : List Int) : zipL (xs.map D.int) (ys.map D.int) = (xs.zip ys).map fun p => .tup [.int p.1, .int p.2] := by
  unfold zipL
  rw [List.zip_map, List.map_map]
  rfl
end Fk
set_option Elab.async false
set_option linter.all false
set_option maxRecDepth 100000
set_option maxHeartbeats 1000000
noncomputable section
namespace Fk
open PySem PySem.Spec PyProof.Rows L2
open Classical in
def compGoK (n : Nat) (all : List D) (f : D → Store → Out (Option D)) : List D → List D → Store → Out (List D)
  | [], acc, S => if S[n]? = some (.lst true all) then .ok acc S else .stuck
  | x :: xs, acc, S => if S[n]? = some (.lst true all) then (f x S).bind fun o S1 => match o with
    | some y => if sz acc.length then compGoK n all f xs (acc ++ [y]) S1 else .stuck
    | none => compGoK n all f xs acc S1
    else .stuck
def lCKc (g : SemG) (t : SemT) (e : SemE) (vs : List Nat) (ρ : Env) (n : Nat) (S : Store) : Option Cell → Out (List D)
  | some (.lst true xs) => compGoK n xs (compStep g t e (wipeD ρ vs)) xs [] S
  | _ => .stuck
def lCK (g : SemG) (t : SemT) (e : SemE) (vs : List Nat) (ρ : Env) : D → Store → Out (List D)
  | .ref n, S => lCKc g t e vs ρ n S S[n]?
  | _, _ => .stuck
def lCompK (f : SemE) (g : SemG) (t : SemT) (e : SemE) (vs : List Nat) : SemA := fun ρ S => (f ρ S).bind (lCK g t e vs ρ)
section
end
def kLK (g : SemG) (t : SemT) (e : SemE) (vs : List Nat) (ρ : Env) (Q : List D → Store → Prop) (E : EX) (d : D) (S : Store) : Prop := (lCK g t e vs ρ d S).wp Q E
@[simp] theorem wp_lCompK (f : SemE) (g : SemG) (t : SemT) (e : SemE) (vs : List Nat) {ρ : Env} {S : Store} {Q : List D → Store → Prop} {E : EX} : (lCompK f g t e vs ρ S).wp Q E = (f ρ S).wp (kLK g t e vs ρ Q E) E := by
  simp only [lCompK, wp_bind]
  rfl
end Fk
set_option Elab.async false
set_option linter.all false
set_option maxRecDepth 100000
set_option maxHeartbeats 4000000
namespace Fk
open PySem PySem.Spec PyProof.Rows L2
def okL (i : Int) : Bool := decide (-4000000 ≤ i ∧ i ≤ 4000000)
def lR1 (d : D) (S : Store) : Out (List D) := match d with
  | .int n => if okL n then .ok (rng 0 n.toNat) S else .stuck
  | _ => .stuck
def lRg1 (f : SemE) : SemA := fun ρ S => (f ρ S).bind lR1
def lR2 (d e : D) (S : Store) : Out (List D) := match d, e with
  | .int m, .int n => if okL m && okL n then .ok (rng m (n - m).toNat) S else .stuck
  | _, _ => .stuck
def lRg2 (f g : SemE) : SemA := fun ρ S => (f ρ S).bind fun d S1 => (g ρ S1).bind (lR2 d)
section
end
section
variable {E : EX} {ρ : Env} {S : Store} {f g : SemE} {Q : List D → Store → Prop} {d e : D}
def kLg1 (Q : List D → Store → Prop) (d : D) (S : Store) : Prop := ∃ n, d = .int n ∧ okL n = true ∧ Q (rng 0 n.toNat) S
@[simp] theorem kLg1_eq : kLg1 Q d S = ∃ n, d = .int n ∧ okL n = true ∧ Q (rng 0 n.toNat) S := rfl
@[simp] theorem wp_lRg1 : (lRg1 f ρ S).wp Q E = (f ρ S).wp (kLg1 Q) E := by
  simp only [lRg1, wp_bind]
  congr 1
  funext d S1
  cases d <;> simp [lR1, kLg1]
def kLg2 (Q : List D → Store → Prop) (d e : D) (S : Store) : Prop := ∃ m n, d = .int m ∧ e = .int n ∧ (okL m && okL n) = true ∧ Q (rng m (n - m).toNat) S
@[simp] theorem kLg2_eq : kLg2 Q d e S = ∃ m n, d = .int m ∧ e = .int n ∧ (okL m && okL n) = true ∧ Q (rng m (n - m).toNat) S := rfl
def kLg3 (g : SemE) (ρ : Env) (Q : List D → Store → Prop) (E : EX) (d : D) (S : Store) : Prop := (g ρ S).wp (kLg2 Q d) E
@[simp] theorem kLg3_eq : kLg3 g ρ Q E d S = (g ρ S).wp (kLg2 Q d) E := rfl
@[simp] theorem wp_lRg2 : (lRg2 f g ρ S).wp Q E = (f ρ S).wp (kLg3 g ρ Q E) E := by
  simp only [lRg2, wp_bind]
  congr 1
  funext d S1
  rw [kLg3_eq]
  congr 1
  funext e S2
  unfold lR2 kLg2
  cases d <;> cases e <;> simp
end
def opIsB : D → D → Store → Option D := fun d e _ => match d, e with
  | .bl a, .bl b => some (.bl (decide (a = b)))
  | _, _ => none
def opNotB : D → D → Store → Option D := fun d e _ => match d, e with
  | .bl a, .bl b => some (.bl (!decide (a = b)))
  | _, _ => none
section
end
@[simp] theorem isB_eq {a b : Bool} {S : Store} : opIsB (.bl a) (.bl b) S = some (.bl (decide (a = b))) := rfl
@[simp] theorem notB_eq {a b : Bool} {S : Store} : opNotB (.bl a) (.bl b) S = some (.bl (!decide (a = b))) := rfl
end Fk
set_option Elab.async false
set_option linter.all false
set_option maxRecDepth 100000
set_option maxHeartbeats 0
noncomputable section
namespace Sm
open PySem PySem.Spec PyProof.Rows L2 Fk
def g__law_opened : SemS :=
    (sSeq (sAsg 1 (frz (lComp (itSeq (eSl opSl (eVar 0) oNone (oSome (eC (.int 63))))) (gN 4) sYes (eOps absDA (aCons (eVar 4) aNil)) [4])))
    (sSeq (sAsg 2 (frz (lComp (itSeq (eVar 1)) (gN 4) (tOfE (eBin opLt (eVar 4) (eBin opPow (eC (.int 10)) (eC (.int 18))))) (eVar 4) [4])))
    (sSeq (sAsg 3 (cellL (lComp (itSeq (eVar 1)) (gN 4) (tOfE (eBin opGe (eVar 4) (eBin opPow (eC (.int 10)) (eC (.int 18))))) (eVar 4) [4])))
    (sRet (eDctC (noXP (pCons (.inr "great") (eVar 3) (pCons (.inr "small") (eBin opAddA (eVar 2) (eBin opMulA (frz (lDisp (aCons (eC (.int 211)) aNil))) (eOps intD (aCons (eBin opEqA (eVar 2) (frz (lDisp aNil))) aNil)))) (pCons (.inr "turn") (eC (.int 0)) pNil)))))))))
def f__law_opened : FSem := fnD 5 g__law_opened
def g__law_draw : SemS :=
    (sSeq (sAsg 2 (eBin opDget (eVar 0) (eC (.str "great"))))
    (sSeq (sWhile (tOfE (eBin opNeA (eVar 2) (frz (lDisp aNil))))
   (sSeq (sIf (tOfE (eBin opGt (eBin opIx (eVar 2) (eUn opNeg (eC (.int 1)))) (eC (.int 0)))) (sSeq (sAsg 3 (eBin opMod (eOps intD (aCons (eBin opIx (eVar 2) (eUn opNeg (eC (.int 1)))) aNil)) (eVar 1)))
    (sSeq (sSetI (eVar 2) (eUn opNeg (eC (.int 1))) (eBin opDiv (eOps intD (aCons (eBin opIx (eVar 2) (eUn opNeg (eC (.int 1)))) aNil)) (eVar 1)))
    (sRet (eVar 3)))) sNext)
    (sExp (ePop (eVar 2)))))
    (sSeq (sDPut (eVar 0) (eC (.str "turn")) (eBin opAddA (eBin opDget (eVar 0) (eC (.str "turn"))) (eC (.int 1))))
    (sSeq (sAsg 4 (eBin opIx (eBin opDget (eVar 0) (eC (.str "small"))) (eBin opMod (eOps intD (aCons (eBin opDget (eVar 0) (eC (.str "turn"))) aNil)) (eOps lenD (aCons (eBin opDget (eVar 0) (eC (.str "small"))) aNil)))))
    (sSeq (sAsg 5 (eBin opAddA (eBin opMulA (eVar 4) (eC (.int 6364136223846793005))) (eBin opMulA (eBin opDget (eVar 0) (eC (.str "turn"))) (eC (.int 1442695040888963407)))))
    (sSeq (sAsg 5 (eBin opMod (eOps intD (aCons (eVar 5) aNil)) (eC (.int 18446744073709551557))))
    (sSeq (sAsg 5 (eBin opMod (eOps intD (aCons (eBin opMulA (eVar 5) (eBin opAddA (eBin opDiv (eVar 5) (eC (.int 4294967296))) (eC (.int 17)))) aNil)) (eC (.int 18446744073709551557))))
    (sRet (eBin opMod (eOps intD (aCons (eBin opDiv (eVar 5) (eC (.int 65536))) aNil)) (eVar 1))))))))))
def f__law_draw : FSem := fnD 6 g__law_draw
def g__law_one : SemS :=
    (sRet (eBin opIx (eVar 1) (eCall f__law_draw [] (aCons (eVar 0) (aCons (eOps lenD (aCons (eVar 1) aNil)) aNil)))))
def f__law_one : FSem := fnD 2 g__law_one
def g__law_mark : SemS :=
    (sSeq (sAsg 1 (eCall f__law_draw [] (aCons (eVar 0) (aCons (eC (.int 8)) aNil))))
    (sSeq (sIf (tOfE (eBin opLt (eVar 1) (eC (.int 6)))) (sRet (eBin opSubA (eCall f__law_draw [] (aCons (eVar 0) (aCons (eC (.int 9)) aNil))) (eC (.int 4)))) sNext)
    (sRet (eIf (tOfE (eBin opEqA (eVar 1) (eC (.int 6)))) (eBin opSubA (eCall f__law_draw [] (aCons (eVar 0) (aCons (eBin opAddA (eBin opMulA (eC (.int 2)) (eBin opPow (eC (.int 10)) (eC (.int 6)))) (eC (.int 1))) aNil))) (eBin opPow (eC (.int 10)) (eC (.int 6)))) (eCall f__law_one [] (aCons (eVar 0) (aCons (frz (lDisp (aCons (eBin opPow (eC (.int 10)) (eC (.int 6))) (aCons (eUn opNeg (eBin opPow (eC (.int 10)) (eC (.int 6)))) aNil)))) aNil)))))))
def f__law_mark : FSem := fnD 2 g__law_mark
def g__law_row : SemS :=
    (sRet (eOps tupD (aCons (frz (lComp (itR1 (aCons (eVar 1) aNil)) (gN 2) sYes (eCall f__law_mark [] (aCons (eVar 0) aNil)) [2])) aNil)))
def f__law_row : FSem := fnD 3 g__law_row
def g__law_whole : SemS :=
    (sRet (vAnd (eUn (isiD "int") (eVar 0)) (vAnd (vNot (eUn (isiD "bool") (eVar 0))) (eChain opLe opLe (eVar 1) (eVar 0) (eVar 2)))))
def f__law_whole : FSem := fnD 3 g__law_whole
end Sm
end
set_option Elab.async false
set_option linter.all false
set_option maxRecDepth 100000
set_option maxHeartbeats 1000000
noncomputable section
namespace Sp
open PySem PySem.Spec PyProof.Rows L2 Fk Sm
def st (g sm : List Int) (t : Int) (T : Store) : Store := .lst true (g.map D.int) :: .dK [(.inr "great", .ref 0), (.inr "small", .lst (sm.map D.int)), (.inr "turn", .int t)] :: T
def Bx (n : Nat) (T S : Store) : Prop := ∃ g sm t, S = st g sm t T ∧ (∀ x ∈ g, 0 ≤ x) ∧ sm ≠ [] ∧ (∀ x ∈ sm, 0 ≤ x ∧ x < 10 ^ 18) ∧ 0 ≤ t ∧ t ≤ n ∧ sm.length ≤ 64
theorem Bx.mono {n m : Nat} {T S : Store} (h : Bx n T S) (hm : n ≤ m) : Bx m T S := by
  obtain ⟨g, sm, t, e, h1, h2, h3, h4, h5, h6⟩ := h
  exact ⟨g, sm, t, e, h1, h2, h3, h4, by omega, h6⟩
theorem Bx.len {n : Nat} {T S : Store} (h : Bx n T S) : S.length = T.length + 2 := by
  obtain ⟨g, sm, t, rfl, _⟩ := h
  rfl
section
variable {g sm : List Int} {t : Int} {T : Store}
theorem get_great : opDget (.ref 1) (.str "great") (st g sm t T) = some (.ref 0) := rfl
theorem get_small : opDget (.ref 1) (.str "small") (st g sm t T) = some (.lst (sm.map D.int)) := rfl
theorem get_turn : opDget (.ref 1) (.str "turn") (st g sm t T) = some (.int t) := rfl
theorem put_turn {u : Int} : dputC (.ref 1) (.str "turn") (.int u) (st g sm t T) = some (st g sm u T) := rfl
theorem datInts : ∀ g : List Int, datAll (g.map D.int) = some (g.map PyData.int)
  | [] => by simp [datAll]
  | i :: g => by simp [datAll, dat, datInts g]
theorem layInts : ∀ g : List Int, PyData.canLayAll0 (g.map PyData.int) = true
  | [] => by simp [PyData.canLayAll0]
  | i :: g => by simp [PyData.canLayAll0, PyData.canLay0, layInts g]
theorem depInts : ∀ g : List Int, PyData.depthAll (g.map PyData.int) = 0
  | [] => by simp [PyData.depthAll]
  | i :: g => by simp [PyData.depthAll, PyData.depth, depInts g]
theorem shInts (g : List Int) : SeqAt.shaped (.list (g.map PyData.int)) = true := by
  simp [SeqAt.shaped, PyData.canLay0, layInts, PyData.depth, depInts]
theorem ne_great : opNeA (.ref 0) (.lst []) (st g sm t T) = some (.bl (!g.isEmpty)) := by
  have e1 : dr (st g sm t T) (.ref 0) = .lst (g.map D.int) := rfl
  have e2 : dr (st g sm t T) (.lst []) = .lst [] := rfl
  rw [neA_of rfl]
  unfold opNe neD
  rw [e1, e2]
  simp only [dat, datInts, datAll, Option.map_some, Option.bind_some]
  have e3 : SeqAt.shaped (.list []) = true := shInts []
  rw [shInts, e3]
  simp only [Bool.and_self, if_true, Option.map_some]
  cases g <;> simp [PyData.eqv, PyData.eqvAll]
theorem ixN_last (n : Nat) : ixN (n + 1) (-1) = some n := by
  unfold ixN
  rw [if_neg (by decide), if_pos (by omega)]
  congr 1
  omega
theorem ix_great {x : Int} : opIx (.ref 0) (.int (-1)) (st (g ++ [x]) sm t T) = some (.int x) := by
  have e1 : dr (st (g ++ [x]) sm t T) (.ref 0) = .lst ((g ++ [x]).map D.int) := rfl
  unfold opIx
  rw [e1]
  simp [atI, ixN_last]
theorem set_great {x y : Int} : setC (.ref 0) (.int (-1)) (.int y) (st (g ++ [x]) sm t T) = some (st (g ++ [y]) sm t T) := by
  unfold setC
  have e1 : cellAt (st (g ++ [x]) sm t T) (.ref 0) = some (0, (g ++ [x]).map D.int) := rfl
  rw [e1]
  simp [ixN_last, st]
theorem pop_great {x : Int} : popC (.ref 0) (st (g ++ [x]) sm t T) = .ok (.int x) (st g sm t T) := by
  unfold popC
  have e1 : cellAt (st (g ++ [x]) sm t T) (.ref 0) = some (0, (g ++ [x]).map D.int) := rfl
  rw [e1]
  simp [st]
end
theorem draw {n : Nat} {T S : Store} {m : Int} {E : EX} (h : Bx n T S) (hn : n ≤ 10 ^ 30) (h1 : 1 ≤ m) (h2 : m.natAbs.log2 < 9000) : (f__law_draw [.ref 1, .int m] S).wp (fun r S' => ∃ d, r = .int d ∧ 0 ≤ d ∧ d < m ∧ Bx (n + 1) T S') E := by
  obtain ⟨g, sm, t, rfl, hg, hs, hs2, ht, htn, hl⟩ := h
  unfold f__law_draw
  rw [wp_fnD]
  simp [g__law_draw, startD, get_great]
  refine wp_sWhile (fun n ρ S => ∃ g', n = g'.length ∧ ρ = [some (.ref 1), some (.int m), some (.ref 0), none, none, none] ∧ S = st g' sm t T ∧ ∀ x ∈ g', 0 ≤ x) g.length ⟨g, rfl, rfl, rfl, hg⟩ ?_
  rintro _ _ _ ⟨g', rfl, rfl, rfl, hg'⟩
  rcases List.eq_nil_or_concat g' with rfl | ⟨g1, x, rfl⟩
  · have hp : 0 < (sm.length : Int) := by
      have : sm.length ≠ 0 := fun z => hs (List.eq_nil_of_length_eq_zero z)
      omega
    obtain ⟨y, hy, hix⟩ := atI_of (xs := sm.map D.int) (Int.emod_nonneg (t + 1) (Int.ne_of_gt hp)) (by rw [List.length_map]; exact Int.emod_lt_of_pos _ hp)
    obtain ⟨z, hz, rfl⟩ := List.mem_map.mp hy
    simp [ne_great, get_turn, put_turn, get_small, hix, sz, divOk, hp]
    have z1 := hs2 z hz
    have q0 : 0 ≤ (z * 6364136223846793005 + (t + 1) * 1442695040888963407) % 18446744073709551557 := Int.emod_nonneg _ (by decide)
    have q1 : (z * 6364136223846793005 + (t + 1) * 1442695040888963407) % 18446744073709551557 < 18446744073709551557 := Int.emod_lt_of_pos _ (by decide)
    generalize (z * 6364136223846793005 + (t + 1) * 1442695040888963407) % 18446744073709551557 = w at q0 q1 ⊢
    refine ⟨by omega, mulOk_of 64 64 (by omega) (by decide) (by decide), mulOk_of 128 64 (by omega) (by decide) (by decide), by decide +kernel, mulOk_of 65 65 (by omega) (by omega) (by decide), by decide +kernel, by omega, ?_⟩
    refine gcQ_cl (closed_int _ _) ⟨_, rfl, Int.emod_nonneg _ (by omega), Int.emod_lt_of_pos _ (by omega), ?_⟩
    refine ⟨[], sm, t + 1, by simp [st], by simp, hs, hs2, by omega, by omega, hl⟩
  · rw [List.concat_eq_append] at hg' ⊢
    have hx : 0 ≤ x := hg' x (by simp)
    have hg1 : ∀ y ∈ g1, 0 ≤ y := fun y hy => hg' y (by simp [hy])
    simp [ne_great, ix_great, pop_great, sz, divOk]
    by_cases h0 : 0 < x
    · refine .inr ⟨h0, by omega, ⟨by omega, h2⟩, _, set_great, ?_⟩
      refine gcQ_cl (closed_int _ _) ⟨_, rfl, Int.emod_nonneg _ (by omega), Int.emod_lt_of_pos _ (by omega), ?_⟩
      refine ⟨g1 ++ [x / m], sm, t, by simp [st], ?_, hs, hs2, ht, by omega, hl⟩
      intro y hy
      rcases List.mem_append.mp hy with hy | hy
      · exact hg1 y hy
      · simp at hy
        subst hy
        exact Int.ediv_nonneg hx (by omega)
    · exact .inl ⟨by omega, g1.length, by omega, g1, rfl, rfl, hg1⟩
theorem Bx.take {n : Nat} {T U S : Store} (h : Bx n (T ++ U) S) {k : Nat} (hk : k = T.length + 2) : Bx n T (S.take k) := by
  obtain ⟨g, sm, t, rfl, h1⟩ := h
  subst hk
  exact ⟨g, sm, t, by simp [st], h1⟩
theorem Bx.take0 {n : Nat} {T S : Store} (h : Bx n T S) {k : Nat} (hk : k = T.length + 2) : Bx n T (S.take k) := Bx.take (U := []) (by simpa using h) hk
theorem Bx.put {n : Nat} {T S : Store} (h : Bx n T S) (U : Store) : Bx n (T ++ U) (S ++ U) := by
  obtain ⟨g, sm, t, rfl, h1⟩ := h
  exact ⟨g, sm, t, by simp [st], h1⟩
theorem Bx.at {n : Nat} {T S : Store} (h : Bx n T S) (i : Nat) : S[i + 2]? = T[i]? := by
  obtain ⟨g, sm, t, rfl, h1⟩ := h
  rfl
theorem Bx.set {n : Nat} {T S : Store} (h : Bx n T S) (i : Nat) (c : Cell) : Bx n (T.set i c) (S.set (i + 2) c) := by
  obtain ⟨g, sm, t, rfl, h1⟩ := h
  exact ⟨g, sm, t, by simp [st], h1⟩
/-- one of a list, frozen or a cell -/
theorem oneD {n : Nat} {T S : Store} {xs : List D} {d : D} {E : EX} (h : Bx n T S) (hn : n ≤ 10 ^ 30) (hd : ∀ m S', Bx m T S' → dr S' d = .lst xs) (hx : xs ≠ []) (hl : xs.length ≤ 4000000) (hc : ∀ x ∈ xs, closed S.length x = true) : (f__law_one [.ref 1, d] S).wp (fun r S' => r ∈ xs ∧ Bx (n + 1) T S') E := by
  unfold f__law_one
  rw [wp_fnD]
  have h0 : xs.length ≠ 0 := fun z => hx (List.eq_nil_of_length_eq_zero z)
  have e1 : lenD [d] S = some (.int xs.length) := by
    show (match dr S d with | .lst xs => _ | .tup xs => _ | .scr xs => _ | .str x => _ | .dct kvs => _ | _ => _) = _
    rw [hd _ _ h]
  simp [g__law_one, startD, e1]
  refine (draw h hn (by omega) (log2_len hl)).no fun r S' ⟨i, e, d0, d1, hB⟩ => ?_
  subst e
  obtain ⟨y, hy, hix⟩ := atI_of d0 d1
  refine ⟨y, ?_, rt_cl (hc y hy) ⟨hy, ?_⟩⟩
  · unfold opIx
    rw [hd _ _ hB]
    exact hix
  · exact hB.take0 h.len
theorem one {n : Nat} {T S : Store} {xs : List D} {E : EX} (h : Bx n T S) (hn : n ≤ 10 ^ 30) (hx : xs ≠ []) (hl : xs.length ≤ 4000000) (hc : ∀ x ∈ xs, closed S.length x = true) : (f__law_one [.ref 1, .lst xs] S).wp (fun r S' => r ∈ xs ∧ Bx (n + 1) T S') E :=
  oneD h hn (fun _ _ _ => rfl) hx hl hc
theorem mulL (xs : List D) (k : Int) (S : Store) (h : 0 ≤ k ∧ k ≤ 100 ∧ xs.length ≤ 1000) : opMulA (.lst xs) (.int k) S = some (.lst (List.replicate k.toNat xs).flatten) := by
  unfold opMulA orO opMul
  simp [h]
theorem eqL0 (xs : List Int) (S : Store) : opEqA (.lst (xs.map D.int)) (.lst []) S = some (.bl xs.isEmpty) := by
  rw [eqA_of rfl]
  unfold opEq eqD
  simp only [dr_lst, dat, datInts, datAll, Option.map_some, Option.bind_some]
  have e3 : SeqAt.shaped (.list []) = true := shInts []
  rw [shInts, e3]
  simp only [Bool.and_self, if_true, Option.map_some]
  cases xs <;> simp [PyData.eqv, PyData.eqvAll]
theorem cAbs (ρ : Fk.Env) (h : 4 < ρ.length) (ns : List Int) (S : Store) (hl : ns.length ≤ 4000000) : compGo (compStep (gN 4) sYes (eOps absDA (aCons (eVar 4) aNil)) ρ) (ns.map D.int) [] S = .ok ((ns.map fun i => if i < 0 then -i else i).map D.int) S := by
  rw [compGo_map (h := fun d => match d with | .int i => .int (if i < 0 then -i else i) | d => d)]
  · simp
  · intro x hx
    obtain ⟨i, _, rfl⟩ := List.mem_map.mp hx
    exact eq_of_wp (by simp [sYes, h])
  · simpa using hl
theorem cLt (ρ : Fk.Env) (h : 4 < ρ.length) (ns : List Int) (S : Store) (hl : ns.length ≤ 4000000) : compGo (compStep (gN 4) (tOfE (eBin opLt (eVar 4) (eBin opPow (eC (.int 10)) (eC (.int 18))))) (eVar 4) ρ) (ns.map D.int) [] S = .ok ((ns.filter fun i => decide (i < 10 ^ 18)).map D.int) S := by
  rw [compGo_filter (p := fun d => match d with | .int i => decide (i < 10 ^ 18) | _ => false) (h := id)]
  · simp [List.filter_map, Function.comp_def]
  · intro x hx
    obtain ⟨i, _, rfl⟩ := List.mem_map.mp hx
    refine eq_of_wp ?_
    by_cases hi : i < 10 ^ 18 <;> simp [powOk, h, hi] <;> omega
  · simpa using hl
theorem cGe (ρ : Fk.Env) (h : 4 < ρ.length) (ns : List Int) (S : Store) (hl : ns.length ≤ 4000000) : compGo (compStep (gN 4) (tOfE (eBin opGe (eVar 4) (eBin opPow (eC (.int 10)) (eC (.int 18))))) (eVar 4) ρ) (ns.map D.int) [] S = .ok ((ns.filter fun i => decide (10 ^ 18 ≤ i)).map D.int) S := by
  rw [compGo_filter (p := fun d => match d with | .int i => decide (10 ^ 18 ≤ i) | _ => false) (h := id)]
  · simp [List.filter_map, Function.comp_def]
  · intro x hx
    obtain ⟨i, _, rfl⟩ := List.mem_map.mp hx
    refine eq_of_wp ?_
    by_cases hi : 10 ^ 18 ≤ i <;> simp [powOk, h, hi] <;> omega
  · simpa using hl
theorem opened (ns : List Int) (hl : ns.length ≤ 63) : (f__law_opened [.scr (ns.map D.int)] []).wp (fun r S' => r = .ref 1 ∧ Bx 0 [] S') fun _ _ _ => False := by
  unfold f__law_opened
  rw [wp_fnD]
  have e1 : Fk.cutD (ns.map D.int) none (some 63) = ns.map D.int := by
    rw [show (63 : Int) = ((63 : Nat) : Int) from rfl, cutD_take]
    exact List.take_of_length_le (by simpa using hl)
  generalize hm : (ns.map fun i => if i < 0 then -i else i) = ms
  have hms : ∀ i ∈ ms, 0 ≤ i := fun i hi => by
    rw [← hm] at hi
    obtain ⟨j, _, rfl⟩ := List.mem_map.mp hi
    split <;> omega
  have hml : ms.length ≤ 63 := by rw [← hm]; simpa using hl
  simp only [g__law_opened, startD, List.map, List.length, List.replicate, List.cons_append, List.nil_append]
  simp [e1]
  rw [cAbs _ (by simp [wipeD_length]) _ _ (by omega), hm]
  simp
  rw [cLt _ (by simp [wipeD_length]) _ _ (by omega)]
  generalize hb : (ms.filter fun i => decide (i < 10 ^ 18)) = sm
  have hsm : ∀ x ∈ sm, 0 ≤ x ∧ x < 10 ^ 18 := fun x hx => by
    rw [← hb] at hx
    simp at hx
    exact ⟨hms x hx.1, by simpa using hx.2⟩
  have hsl : sm.length ≤ 63 := by
    rw [← hb]
    exact Nat.le_trans (List.length_filter_le _ _) hml
  simp
  rw [cGe _ (by simp [wipeD_length]) _ _ (by omega)]
  generalize hb2 : (ms.filter fun i => decide (10 ^ 18 ≤ i)) = gr
  have hgr : ∀ x ∈ gr, 0 ≤ x := fun x hx => by
    rw [← hb2] at hx
    simp at hx
    exact hms x hx.1
  clear hb hb2 hm hms hml
  have mg : ∀ a b c : D, mergeD [(.inr "great", a), (.inr "small", b), (.inr "turn", c)] = [(.inr "great", a), (.inr "small", b), (.inr "turn", c)] := fun _ _ _ => rfl
  have big : ∃ sm' : List Int, sm' ≠ [] ∧ (∀ x ∈ sm', 0 ≤ x ∧ x < 10 ^ 18) ∧ sm'.length ≤ 64 ∧ ∃ a, opMulA (D.lst [D.int 211]) (D.int (if sm.isEmpty then 1 else 0)) [Cell.lst true (gr.map D.int)] = some a ∧ opAddA (.lst (sm.map D.int)) a [Cell.lst true (gr.map D.int)] = some (.lst (sm'.map D.int)) := by
    cases sm with
    | nil => exact ⟨[211], by simp, by simp, by simp, _, mulL _ _ _ (by simp), rfl⟩
    | cons x r => exact ⟨x :: r, by simp, hsm, by omega, _, mulL _ _ _ (by simp), by simp only [List.length_cons] at hsl; simp [opAddA, orO, opAdd, show sz (r.length + 1) = true by simp [sz]; omega]⟩
  obtain ⟨sm', hs1, hs2, hs3, a, ha, hb⟩ := big
  have ha' : opMulA (D.lst [D.int 211]) (D.int (if sm = [] then 1 else 0)) [Cell.lst true (gr.map D.int)] = some a := by simpa using ha
  simp [eqL0, mg, sz, ha', hb]
  refine ⟨by simp [closedV, closed], ?_⟩
  unfold gcQ
  simp [closed]
  exact ⟨gr, sm', 0, rfl, hgr, hs1, hs2, by decide, by decide, hs3⟩
variable {n : Nat} {T S : Store} {E : EX}
theorem mark (h : Bx n T S) (hn : n ≤ 10 ^ 29) : (f__law_mark [.ref 1] S).wp (fun r S' => ∃ i, r = .int i ∧ i.natAbs ≤ 1000000 ∧ Bx (n + 2) T S') E := by
  unfold f__law_mark
  rw [wp_fnD]
  simp [g__law_mark, startD]
  refine (draw h (by omega) (by decide) (by decide +kernel)).no fun r S' ⟨d, e, d0, d1, hB⟩ => ?_
  subst e
  by_cases h6 : d < 6
  · simp [h6]
    refine (draw hB (by omega) (by decide) (by decide +kernel)).no fun r S' ⟨d, e, d0, d1, hB⟩ => ?_
    subst e
    simp
    exact gcQ_cl (closed_int _ _) ⟨_, rfl, by omega, hB.take0 h.len⟩
  · simp [h6]
    by_cases h7 : d = 6
    · simp [h7, powOk, mulOk]
      refine ⟨by decide +kernel, (draw hB (by omega) (by decide) (by decide +kernel)).no fun r S' ⟨d, e, d0, d1, hB⟩ => ?_⟩
      subst e
      simp [powOk]
      exact gcQ_cl (closed_int _ _) ⟨_, rfl, by omega, hB.take0 h.len⟩
    · simp [h7, powOk, sz]
      refine (one hB (by omega) (by simp) (by simp) (by simp)).no fun r S' ⟨hr, hB⟩ => ?_
      simp at hr
      rcases hr with rfl | rfl
      · exact rt_cl (closed_int _ _) ⟨_, rfl, by decide, hB.take0 h.len⟩
      · exact rt_cl (closed_int _ _) ⟨_, rfl, by decide, hB.take0 h.len⟩
def rowD (is : List Int) : D := .tup (is.map D.int)
def RowOk (m : Nat) (is : List Int) : Prop := is.length = m ∧ ∀ i ∈ is, i.natAbs ≤ 1000000
theorem row (h : Bx n T S) (m : Nat) (hm : m ≤ 8) (hn : n ≤ 10 ^ 28) : (f__law_row [.ref 1, .int m] S).wp (fun r S' => ∃ is, r = rowD is ∧ RowOk m is ∧ Bx (n + 20) T S') E := by
  unfold f__law_row
  rw [wp_fnD]
  simp [g__law_row, startD, okR]
  refine ⟨by omega, wp_compGo (fun xs acc S => ∃ is : List Int, acc = is.map D.int ∧ is.length + xs.length = m ∧ (∀ i ∈ is, i.natAbs ≤ 1000000) ∧ Bx (n + 2 * is.length) T S) ⟨[], rfl, by simp [rng], by simp, by simpa using h⟩ ?_ ?_⟩
  · rintro x xs acc S ⟨is, rfl, hl, hb, hB⟩
    simp only [List.length_cons] at hl
    simp [wipeD, sYes]
    refine (mark hB (by omega)).no fun r S' ⟨i, e, hi, hB'⟩ => ?_
    subst e
    refine ⟨by simp [sz]; omega, is ++ [i], by simp, by simp; omega, ?_, hB'.mono (by simp; omega)⟩
    intro j hj
    rcases List.mem_append.mp hj with hj | hj
    · exact hb j hj
    · simp at hj; subst hj; exact hi
  · rintro acc S ⟨is, rfl, hl, hb, hB⟩
    simp at hl
    try simp
    exact gcQ_cl (by simp) ⟨is, rfl, ⟨hl, hb⟩, (hB.mono (by omega)).take0 h.len⟩
end Sp
end
set_option Elab.async false
set_option linter.all false
set_option maxRecDepth 100000
set_option maxHeartbeats 1000000
noncomputable section
namespace Sp
open PySem PySem.Spec PyProof.Rows L2 Fk Sm
variable {n : Nat} {T S : Store} {E : EX}
def Gf (a : Nat) (ns : List Int) : Nat := ns.foldl (fun a n => Nat.gcd a n.natAbs) a
def G (ns : List Int) : Nat := Gf 0 ns
def nn : D → Bool
  | .int i => decide (0 ≤ i)
  | _ => false
theorem whole {b w k : Nat} {x : D} (hx : Gd b w k x) : f__law_whole [x, .int 0, x] S = .ok (.bl (nn x)) S := by
  refine eq_of_wp ?_
  unfold f__law_whole
  rw [wp_fnD]
  cases x with
  | ref m => exact absurd hx.p (by simp [Fk.plain])
  | scr xs => exact absurd hx.p (by simp [Fk.plain])
  | exn _ _ _ => exact absurd hx.p (by simp [Fk.plain])
  | int i =>
    by_cases hi : 0 ≤ i
    · simp [g__law_whole, startD, hi, nn]
      exact gcQ_cl (by simp) ⟨by simp, by simp⟩
    · simp [g__law_whole, startD, hi, nn]
      exact gcQ_cl (by simp) ⟨by simp, by simp⟩
  | _ =>
    simp [g__law_whole, startD, nn]
    exact gcQ_cl (by simp) ⟨by simp, by simp⟩
variable {n : Nat} {T S : Store} {E : EX}
end Sp
end
set_option Elab.async false
set_option linter.all false
set_option maxRecDepth 100000
set_option maxHeartbeats 1000000
noncomputable section
namespace Sp
open PySem PySem.Spec PyProof.Rows L2 Fk Sm
end Sp
end
set_option Elab.async false
set_option linter.all false
set_option maxRecDepth 100000
set_option maxHeartbeats 1000000
noncomputable section
namespace Sp
open PySem PySem.Spec PyProof.Rows L2 Fk Sm
end Sp
end
set_option Elab.async false
set_option linter.all false
set_option maxRecDepth 100000
set_option maxHeartbeats 1000000
namespace Fk
open PySem PySem.Spec PyProof.Rows L2 LamX
/-- what has become of the tracked heap when a lambda was made -/
def Made (H : Hp) (P c : Addr) (q : Str) (H1 : Hp) : Prop := H1 = H ∨ ∃ ps more, H P = some (.tbl ps) ∧ H c = none ∧ H1 = upd (upd H P (.tbl (ps ++ more))) c (CodeO c q)
theorem Made.tab {H H1 : Hp} {P c P2 : Addr} {q q2 : Str} (m : Made H P c q H1) (hne : P2 ≠ P) (t : TabS H P2 q2) : TabS H1 P2 q2 := by
  rcases m with rfl | ⟨ps, more, tP, nc, rfl⟩
  · exact t
  · obtain ⟨ps2, a1, a2, a3⟩ := t
    refine ⟨ps2, by rw [upd_ne (ne_of_none a1 nc), upd_ne hne]; exact a1, a2, fun pos v hv => ?_⟩
    obtain ⟨d, e1, e2⟩ := a3 pos v hv
    refine ⟨d, e1, ?_⟩
    rw [upd_ne (ne_of_none e2 nc), upd_ne (ne_of e2 tP (codeO_ne ps))]
    exact e2
section
end
section
end
end Fk
set_option Elab.async false
set_option linter.all false
set_option maxRecDepth 100000
set_option maxHeartbeats 1000000
namespace Fk
open PySem PySem.Spec PyProof.Rows L2
def asKs : List D → Option (List Key)
  | [] => some []
  | d :: r => match keyOf d, asKs r with
    | some k, some ks => some (k :: ks)
    | _, _ => none
def keyT : Key → D
  | .inl i => .int i
  | .inr x => .str x
theorem CellOk.nt {K : PySem.W.Frag} {mg : Str → Option Value} {F H : Hp} {ι : List Addr} {a : Addr} {c : Cell} (sub : Same F H) (h : CellOk K mg F ι H a c) : ∀ xs, H a ≠ some (.tup xs) := by
  intro xs z
  cases c with
  | lst b ds =>
    cases b with
    | true => obtain ⟨vs, h, _⟩ := h; rw [h] at z; cases z
    | false => obtain ⟨vs, h, _⟩ := h; rw [sub _ _ h] at z; cases z
  | dK kds => obtain ⟨vs, h, _⟩ := h; rw [h] at z; cases z
  | dT kds => obtain ⟨vs, h, _⟩ := h; rw [h] at z; cases z
  | ins c fs => obtain ⟨_, _, _, _, h, _⟩ := h; rw [h] at z; cases z
  | fT kds => obtain ⟨_, _, h, _⟩ := h; rw [sub _ _ h] at z; cases z
  | fK kds => obtain ⟨_, _, h, _⟩ := h; rw [sub _ _ h] at z; cases z
section
variable {X : Cx} {W : WX} {o e : Expr} {f g : SemE} {pos : Pos}
def eNewT : SemE := fun _ S => .ok (.ref S.length) (S ++ [.dT []])
def tputC (x k y : D) (S : Store) : Option Store := match x, k with
  | .ref n, .tup ds => (match S[n]?, asKs ds with
    | some (.dT kds), some ks => if sz kds.length && closed n y then some (S.set n (.dT (putD kds ks y))) else none
    | _, _ => none)
  | _, _ => none
def sTPut (fo fi fe : SemE) : SemS := fun ρ S => toS (fe ρ S) ρ fun y S1 => toS (fo ρ S1) ρ fun x S2 => toS (fi ρ S2) ρ fun i S3 => match tputC x i y S3 with
  | some S4 => .nx ρ S4
  | none => .stuck
end
section
variable {ρ : Env} {S : Store} {k : KS} {Q : D → Store → Prop} {E : EX}
@[simp] theorem wp_eNewT : (eNewT ρ S).wp Q E = Q (.ref S.length) (S ++ [.dT []]) := wp_ok _
def kTP1 (fo fi : SemE) (ρ : Env) (k : KS) (y : D) (S : Store) : Prop := (fo ρ S).wp (fun x S2 => (fi ρ S2).wp (fun i S3 => ∃ S4, tputC x i y S3 = some S4 ∧ k.nx ρ S4) (kEx k ρ)) (kEx k ρ)
def kTP2 (fi : SemE) (ρ : Env) (k : KS) (y x : D) (S : Store) : Prop := (fi ρ S).wp (fun i S3 => ∃ S4, tputC x i y S3 = some S4 ∧ k.nx ρ S4) (kEx k ρ)
def kTP3 (ρ : Env) (k : KS) (y x i : D) (S : Store) : Prop := ∃ S4, tputC x i y S = some S4 ∧ k.nx ρ S4
@[simp] theorem kTP1_eq (fo fi : SemE) (y : D) : kTP1 fo fi ρ k y S = (fo ρ S).wp (kTP2 fi ρ k y) (kEx k ρ) := rfl
@[simp] theorem kTP2_eq (fi : SemE) (y x : D) : kTP2 fi ρ k y x S = (fi ρ S).wp (kTP3 ρ k y x) (kEx k ρ) := rfl
@[simp] theorem kTP3_eq (y x i : D) : kTP3 ρ k y x i S = ∃ S4, tputC x i y S = some S4 ∧ k.nx ρ S4 := rfl
@[simp] theorem wp_sTPut (fo fi fe : SemE) : (sTPut fo fi fe ρ S).wp k = (fe ρ S).wp (kTP1 fo fi ρ k) (kEx k ρ) := by
  unfold sTPut kTP1
  simp only [wpS_toS]
  congr 1
  funext y S1
  congr 1
  funext x S2
  congr 1
  funext i S3
  cases tputC x i y S3 <;> simp
@[simp] theorem asKs_ints : ∀ ns : List Int, asKs (ns.map D.int) = some (ns.map Sum.inl)
  | [] => rfl
  | n :: ns => by rw [List.map_cons, asKs, asKs_ints ns]; rfl
@[simp] theorem keyT_ints (ns : List Int) : (ns.map (Sum.inl : Int → Key)).map keyT = ns.map D.int := by
  rw [List.map_map]
  rfl
end
end Fk
set_option Elab.async false
set_option linter.all false
set_option maxRecDepth 100000
set_option maxHeartbeats 4000000
namespace Fk
open PySem PySem.Spec PyProof.Rows L2
section
end
section
variable {P : Program} {w : World} {K : PySem.W.Frag} {mg : Str → Option Value} {base : Heap} {x y qual : Str} {params : Arguments} {body : List Stmt} {scope : Scope} {kws : List (Str × V)} {f : Addr} {fd : FuncData} {ps : List Str} {k : Nat} {fs : FSem} {dvs : List V} {dd : List D}
theorem Fn.allN (F : FunD K x qual params body scope [] kws f fd) (hm : mg y = Option.some (.ref f)) (G : FnG P w K mg base k f fd ps (spD K mg ps.length fs))
    (h : ∀ (kV doc pm : Value) (an : Option Addr) (cdv ct : Value) (us : List Value), us.length = ps.length → bindArgs (PySem.W.fnOf x qual params body scope .none kV doc pm an cdv ct) ⟨us, []⟩ = pure (ps.zip us)) : Fn P w K mg base k y ps [] fs :=
  ⟨f, fd, [], [], hm, F.kp, G, F.bindsN h, .nil, fun _ _ _ => .nil⟩
end
end Fk
set_option Elab.async false
set_option linter.all false
set_option maxRecDepth 100000
set_option maxHeartbeats 4000000
namespace Fk
open PySem PySem.Spec PyProof.Rows L2
def comp2Go (g : SemG) (t : SemT) (it1 : SemA) (g1 : SemG) (t1 : SemT) (e : SemE) (vs1 : List Nat) (ρ : Env) : List D → List D → Store → Out (List D)
  | [], acc, S => .ok acc S
  | x :: xs, acc, S => match g x ρ S with
    | some ρ1 => (noX (t ρ1 S)).bind fun b S2 => if b then (noX (it1 ρ1 S2)).bind fun ys S3 => (compGo (compStep g1 t1 e (wipeD ρ1 vs1)) ys acc S3).bind fun acc' S4 => comp2Go g t it1 g1 t1 e vs1 ρ xs acc' S4
      else comp2Go g t it1 g1 t1 e vs1 ρ xs acc S2
    | none => .stuck
def lComp2 (it : SemA) (g : SemG) (t : SemT) (it1 : SemA) (g1 : SemG) (t1 : SemT) (e : SemE) (vs vs1 : List Nat) : SemA := fun ρ S => (it ρ S).bind fun xs S1 => comp2Go g t it1 g1 t1 e vs1 (wipeD ρ vs) xs [] S1
section
end
section
variable {S : Store}
def kLC2 (g : SemG) (t : SemT) (it1 : SemA) (g1 : SemG) (t1 : SemT) (e : SemE) (vs1 : List Nat) (ρ : Env) (Q : List D → Store → Prop) (E : EX) (xs : List D) (S : Store) : Prop := (comp2Go g t it1 g1 t1 e vs1 ρ xs [] S).wp Q E
@[simp] theorem kLC2_eq {g : SemG} {t : SemT} {it1 : SemA} {g1 : SemG} {t1 : SemT} {e : SemE} {vs1 : List Nat} {ρ : Env} {Q : List D → Store → Prop} {E : EX} {xs : List D} : kLC2 g t it1 g1 t1 e vs1 ρ Q E xs S = (comp2Go g t it1 g1 t1 e vs1 ρ xs [] S).wp Q E := rfl
@[simp] theorem wp_lComp2 {it : SemA} {g : SemG} {t : SemT} {it1 : SemA} {g1 : SemG} {t1 : SemT} {e : SemE} {vs vs1 : List Nat} {ρ : Env} {Q : List D → Store → Prop} {E : EX} : (lComp2 it g t it1 g1 t1 e vs vs1 ρ S).wp Q E = (it ρ S).wp (kLC2 g t it1 g1 t1 e vs1 (wipeD ρ vs) Q E) E := by
  simp only [lComp2, wp_bind]
  rfl
end
end Fk
set_option Elab.async false
set_option linter.all false
set_option maxRecDepth 100000
set_option maxHeartbeats 4000000
namespace Fk
open PySem PySem.Spec PyProof.Rows L2
def sft (c : Int) (ns : List Int) : List Int := ns.map (· + c)
def TOk (h : Heap) (d : Nat) (c B : Int) (vs : List Value) : Prop := ∀ v, v ∈ vs → ∃ ns, TS.TupInts h v ns ∧ ns.length = d ∧ TS.Bd B (sft c ns)
theorem TOk.keeps {h h' : Heap} {d : Nat} {c B : Int} {vs : List Value} (x : TOk h d c B vs) (k : ∀ b o, h.get? b = some o → o.cls = .type "tuple" → h'.get? b = some o) : TOk h' d c B vs := fun v hv =>
  let ⟨ns, t, r⟩ := x v hv; ⟨ns, t.keeps k, r⟩
section
end
section
end
end Fk
set_option Elab.async false
set_option linter.all false
set_option maxRecDepth 100000
set_option maxHeartbeats 4000000
namespace Fk
open PySem PySem.Spec PyProof.Rows L2
section
end
end Fk
set_option Elab.async false
set_option linter.all false
set_option maxRecDepth 100000
set_option maxHeartbeats 4000000
namespace Fk
open PySem PySem.Spec PyProof.Rows L2
section
end
end Fk
set_option Elab.async false
set_option linter.all false
set_option maxRecDepth 100000
set_option maxHeartbeats 4000000
namespace Fk
open PySem PySem.Spec PyProof.Rows L2
def gU (gs : List SemG) : SemG := fun d ρ S => match d with
  | .lst ds => if ds.length = gs.length then (gs.zip ds).foldl (fun o q => o.bind fun ρ' => q.1 q.2 ρ' S) (some ρ) else none
  | _ => none
@[simp] theorem gU_lst {gs : List SemG} {ds : List D} {ρ : Env} {S : Store} : gU gs (.lst ds) ρ S = gT gs (.tup ds) ρ S := rfl
section
end
end Fk
set_option Elab.async false
set_option linter.all false
set_option maxRecDepth 100000
set_option maxHeartbeats 1000000
namespace Fk
open PySem PySem.Spec PyProof.Rows L2
section
end
end Fk
set_option Elab.async false
set_option linter.all false
set_option maxRecDepth 100000
namespace Fk
open PySem PySem.Spec PyProof.Rows L2
end Fk
set_option Elab.async false
set_option linter.all false
set_option maxRecDepth 100000
namespace Fk
open PySem PySem.Spec PyProof.Rows L2
def opMulL : D → D → Store → Option (List D) := fun d e _ => match d, e with
  | .lst xs, .int k => if decide (0 ≤ k ∧ k ≤ 100 ∧ xs.length ≤ 1000) then some (List.replicate k.toNat xs).flatten else none
  | _, _ => none
@[simp] theorem ex_mulL {xs : List D} {k : Int} {S : Store} {P : List D → Prop} : (∃ a, opMulL (.lst xs) (.int k) S = some a ∧ P a) = ((0 ≤ k ∧ k ≤ 100 ∧ xs.length ≤ 1000) ∧ P (List.replicate k.toNat xs).flatten) := by
  unfold opMulL
  by_cases h : 0 ≤ k ∧ k ≤ 100 ∧ xs.length ≤ 1000 <;> simp [h]
def gSetC (fo fi : SemE) (y : D) (k : Store → OutS) : SemS := fun ρ S => toS (fo ρ S) ρ fun x S2 => toS (fi ρ S2) ρ fun i S3 => match setC x i y S3 with
  | some S4 => k S4
  | none => .stuck
def sSet2 (fo fi fo' fi' fe : SemE) : SemS := fun ρ S => toS (fe ρ S) ρ fun d S1 => match d with
  | .tup [y, z] => gSetC fo fi y (fun S2 => gSetC fo' fi' z (fun S3 => .nx ρ S3) ρ S2) ρ S1
  | _ => .stuck
section
end
section
variable {ρ : Env} {S : Store} {k : KS}
def kT2 (fo fi fo' fi' : SemE) (ρ : Env) (k : KS) (d : D) (S : Store) : Prop := ∃ y z, d = .tup [y, z] ∧ (fo ρ S).wp (fun x S2 => (fi ρ S2).wp (fun i S3 => ∃ S4, setC x i y S3 = some S4 ∧
  (fo' ρ S4).wp (fun x S5 => (fi' ρ S5).wp (fun i S6 => ∃ S7, setC x i z S6 = some S7 ∧ k.nx ρ S7) (kEx k ρ)) (kEx k ρ)) (kEx k ρ)) (kEx k ρ)
def kT21 (fi fo' fi' : SemE) (ρ : Env) (k : KS) (y z x : D) (S : Store) : Prop := (fi ρ S).wp (fun i S3 => ∃ S4, setC x i y S3 = some S4 ∧
  (fo' ρ S4).wp (fun x S5 => (fi' ρ S5).wp (fun i S6 => ∃ S7, setC x i z S6 = some S7 ∧ k.nx ρ S7) (kEx k ρ)) (kEx k ρ)) (kEx k ρ)
def kT22 (fo' fi' : SemE) (ρ : Env) (k : KS) (y z x i : D) (S : Store) : Prop := ∃ S4, setC x i y S = some S4 ∧
  (fo' ρ S4).wp (fun x S5 => (fi' ρ S5).wp (fun i S6 => ∃ S7, setC x i z S6 = some S7 ∧ k.nx ρ S7) (kEx k ρ)) (kEx k ρ)
def kT23 (fi' : SemE) (ρ : Env) (k : KS) (z x : D) (S : Store) : Prop := (fi' ρ S).wp (fun i S6 => ∃ S7, setC x i z S6 = some S7 ∧ k.nx ρ S7) (kEx k ρ)
@[simp] theorem kT2_eq (fo fi fo' fi' : SemE) (y z : D) : kT2 fo fi fo' fi' ρ k (.tup [y, z]) S = (fo ρ S).wp (kT21 fi fo' fi' ρ k y z) (kEx k ρ) := by
  apply propext
  constructor
  · rintro ⟨y, z, e, h⟩; cases e; exact h
  · intro h; exact ⟨y, z, rfl, h⟩
@[simp] theorem kT21_eq (fi fo' fi' : SemE) (y z x : D) : kT21 fi fo' fi' ρ k y z x S = (fi ρ S).wp (kT22 fo' fi' ρ k y z x) (kEx k ρ) := rfl
@[simp] theorem kT22_eq (fo' fi' : SemE) (y z x i : D) : kT22 fo' fi' ρ k y z x i S = ∃ S4, setC x i y S = some S4 ∧ (fo' ρ S4).wp (kT23 fi' ρ k z) (kEx k ρ) := rfl
@[simp] theorem kT23_eq (fi' : SemE) (z x : D) : kT23 fi' ρ k z x S = (fi' ρ S).wp (fun i S6 => ∃ S7, setC x i z S6 = some S7 ∧ k.nx ρ S7) (kEx k ρ) := rfl
theorem wp_gSetC (fo fi : SemE) (y : D) (g : Store → OutS) : (gSetC fo fi y g ρ S).wp k = (fo ρ S).wp (fun x S2 => (fi ρ S2).wp (fun i S3 => ∃ S4, setC x i y S3 = some S4 ∧ (g S4).wp k) (kEx k ρ)) (kEx k ρ) := by
  simp only [gSetC, wpS_toS]
  congr 1
  funext x S2
  congr 1
  funext i S3
  cases setC x i y S3 <;> simp
@[simp] theorem wp_sSet2 (fo fi fo' fi' fe : SemE) : (sSet2 fo fi fo' fi' fe ρ S).wp k = (fe ρ S).wp (kT2 fo fi fo' fi' ρ k) (kEx k ρ) := by
  simp only [sSet2, wpS_toS]
  congr 1
  funext d S1
  apply propext
  constructor
  · intro h
    match d, h with
    | .tup [y, z], h =>
      refine ⟨y, z, rfl, ?_⟩
      simpa only [wp_gSetC, wpS_nx] using h
  · rintro ⟨y, z, rfl, h⟩
    simpa only [wp_gSetC, wpS_nx] using h
end
end Fk
set_option Elab.async false
set_option linter.all false
set_option maxRecDepth 100000
set_option maxHeartbeats 0
noncomputable section
namespace Sm
open PySem PySem.Spec PyProof.Rows L2 Fk
end Sm
end
set_option Elab.async false
set_option linter.all false
set_option maxRecDepth 100000
set_option maxHeartbeats 1000000
namespace Fk
open PySem PySem.Spec PyProof.Rows L2
section
end
end Fk
set_option Elab.async false
set_option linter.all false
set_option maxRecDepth 100000
set_option maxHeartbeats 1000000
namespace Fk
open PySem PySem.Spec PyProof.Rows L2
end Fk
set_option Elab.async false
set_option linter.all false
set_option maxRecDepth 100000
set_option maxHeartbeats 1000000
namespace Fk
open PySem PySem.Spec PyProof.Rows L2
section
end
section
variable {X : Cx} {W : WX} {e : Expr} {td : TE} {apos cpos : Pos} {elts : List Expr} {kk : Nat} {tpos : Pos}
/-- what is yielded -/
def itmD (kds : List (List Key × D)) : List D := kds.map fun q => D.tup [.tup (q.1.map keyT), q.2]
def itItems (fo : SemE) : SemA := fun ρ S => (fo ρ S).bind fun x S1 => match x with
  | .ref n => match S1[n]? with
    | some (.dT kds) => .ok (itmD kds) (S1.set n (.fT kds))
    | some (.fT kds) => .ok (itmD kds) S1
    | _ => .stuck
  | _ => .stuck
end
section
variable {ρ : Env} {S : Store} {E : EX}
def kItm (Q : List D → Store → Prop) (x : D) (S : Store) : Prop := match x with
  | .ref n => (match S[n]? with
    | some (.dT kds) => Q (itmD kds) (S.set n (.fT kds))
    | some (.fT kds) => Q (itmD kds) S
    | _ => False)
  | _ => False
@[simp] theorem wp_itItems (f : SemE) {Q : List D → Store → Prop} : (itItems f ρ S).wp Q E = (f ρ S).wp (kItm Q) E := by
  simp only [itItems, wp_bind]
  congr 1
  funext x S1
  unfold kItm
  cases x <;> simp
  split <;> simp_all
end
end Fk
set_option Elab.async false
set_option linter.all false
set_option maxRecDepth 100000
set_option maxHeartbeats 4000000
namespace Fk
open PySem PySem.Spec PyProof.Rows L2
section
end
end Fk
set_option Elab.async false
set_option linter.all false
set_option maxRecDepth 100000
set_option maxHeartbeats 4000000
namespace Fk
open PySem PySem.Spec PyProof.Rows L2
section
end
end Fk
set_option Elab.async false
set_option linter.all false
set_option maxRecDepth 100000
set_option maxHeartbeats 4000000
namespace Fk
open PySem PySem.Spec PyProof.Rows L2
def evP : List (SemE × SemE) → Env → Store → Out (List (D × D))
  | [], _, S => .ok [] S
  | (f, g) :: r, ρ, S => (f ρ S).bind fun x S1 => (g ρ S1).bind fun y S2 => (evP r ρ S2).bind fun ps S3 => .ok ((x, y) :: ps) S3
def ksD : List (D × D) → Option (List (List Key × D))
  | [] => some []
  | (.tup ds, y) :: r => match asKs ds, ksD r with
    | some k, some ks => some ((k, y) :: ks)
    | _, _ => none
  | _ => none
def putAll (kds : List (List Key × D)) (ks : List (List Key × D)) : List (List Key × D) := ks.foldl (fun acc q => putD acc q.1 q.2) kds
def dispC (n : Nat) (qs : List (D × D)) (S : Store) : Option Store := match S[n]?, ksD qs with
  | some (.dT []), some ks => if decide (ks.length ≤ 15) && closedV n ks then some (S.set n (.dT (putAll [] ks))) else none
  | _, _ => none
def eDispT (ps : List (SemE × SemE)) : SemE := fun ρ S => (evP ps ρ (S ++ [.dT []])).bind fun qs S1 => match dispC S.length qs S1 with
  | some S2 => .ok (.ref S.length) S2
  | none => .stuck
section
end
section
variable {ρ : Env} {S : Store} {E : EX}
@[simp] theorem wp_evP0 {Q : List (D × D) → Store → Prop} : (evP [] ρ S).wp Q E = Q [] S := by
  simp only [evP, wp_ok]
@[simp] theorem wp_evP (f g : SemE) (r : List (SemE × SemE)) {Q : List (D × D) → Store → Prop} : (evP ((f, g) :: r) ρ S).wp Q E = (f ρ S).wp (fun x S1 => (g ρ S1).wp (fun y S2 => (evP r ρ S2).wp (fun ps S3 => Q ((x, y) :: ps) S3) E) E) E := by
  simp only [evP, wp_bind, wp_ok]
def kDT (n : Nat) (Q : D → Store → Prop) (qs : List (D × D)) (S : Store) : Prop := ∃ S2, dispC n qs S = some S2 ∧ Q (.ref n) S2
@[simp] theorem wp_eDispT (ps : List (SemE × SemE)) {Q : D → Store → Prop} : (eDispT ps ρ S).wp Q E = (evP ps ρ (S ++ [.dT []])).wp (kDT S.length Q) E := by
  simp only [eDispT, wp_bind]
  congr 1
  funext qs S1
  unfold kDT
  cases dispC S.length qs S1 <;> simp
end
end Fk
set_option Elab.async false
set_option linter.all false
set_option maxRecDepth 100000
set_option maxHeartbeats 0
noncomputable section
namespace Sm
open PySem PySem.Spec PyProof.Rows L2 Fk
end Sm
end
set_option Elab.async false
set_option linter.all false
set_option maxRecDepth 100000
set_option maxHeartbeats 1000000
namespace Fk
open PySem PySem.Spec PySem.Calls PyProof.Rows
section
variable {pr : Program} {wo : World} {U : Around} {X : Value → Shared → Prop} {st : Shared}
/-- the heap with the list that the items of a tuple went into -/
abbrev gone (st : Shared) (us : List Value) : Heap := (st.heap.push (seqObj "list" #[] 0)).update st.heap.objs.size (Obj.mapSeq (· ++ us.toArray))
end
end Fk
namespace Fk
open PySem PySem.Spec PyProof.Rows L2
section
end
end Fk
set_option Elab.async false
set_option linter.all false
set_option maxRecDepth 100000
set_option maxHeartbeats 1000000
namespace Fk
open PySem PySem.Spec PyProof.Rows L2
def kdK : Cell → Option (List (Key × D))
  | .dK kds => some kds
  | .fK kds => some kds
  | _ => none
section
variable {X : Cx} {W : WX} {o e : Expr} {f g : SemE} {pos apos cpos : Pos}
/-- d.get(k, x) -/
def getD2 (x k z : D) (S : Store) : Option D := match x with
  | .ref n => (match S[n]?.bind kdK, keyOf k with
    | some kds, some k => some ((lookD kds k).getD z)
    | _, _ => none)
  | _ => none
def isDc (x : D) (S : Store) : Bool := match x with
  | .ref n => (S[n]?.bind kdK).isSome
  | _ => false
def eGet2 (fo fk fz : SemE) : SemE := fun ρ S => (fo ρ S).bind fun x S1 => if isDc x S1 then (fk ρ S1).bind fun k S2 => (fz ρ S2).bind fun z S3 => match getD2 x k z S3 with
  | some d => .ok d S3
  | none => .stuck
  else .stuck
end
section
end
section
variable {X : Cx} {W : WX} {e tg : Expr} {td : TE}
def keysD (kds : List (Key × D)) : List D := kds.map fun q => keyT q.1
def itKeys (fo : SemE) : SemA := fun ρ S => (fo ρ S).bind fun x S1 => match x with
  | .ref n => match S1[n]? with
    | some (.dK kds) => .ok (keysD kds) (S1.set n (.fK kds))
    | some (.fK kds) => .ok (keysD kds) S1
    | _ => .stuck
  | _ => .stuck
end
section
variable {ρ : Env} {S : Store} {E : EX}
def kKys (Q : List D → Store → Prop) (x : D) (S : Store) : Prop := match x with
  | .ref n => (match S[n]? with
    | some (.dK kds) => Q (keysD kds) (S.set n (.fK kds))
    | some (.fK kds) => Q (keysD kds) S
    | _ => False)
  | _ => False
@[simp] theorem wp_itKeys (f : SemE) {Q : List D → Store → Prop} : (itKeys f ρ S).wp Q E = (f ρ S).wp (kKys Q) E := by
  simp only [itKeys, wp_bind]
  congr 1
  funext x S1
  unfold kKys
  cases x <;> simp
  split <;> simp_all
def kG2a (fk fz : SemE) (ρ : Env) (Q : D → Store → Prop) (E : EX) (x : D) (S : Store) : Prop := isDc x S = true ∧ (fk ρ S).wp (fun k S2 => (fz ρ S2).wp (fun z S3 => ∃ d, getD2 x k z S3 = some d ∧ Q d S3) E) E
@[simp] theorem wp_eGet2 (fo fk fz : SemE) {Q : D → Store → Prop} : (eGet2 fo fk fz ρ S).wp Q E = (fo ρ S).wp (kG2a fk fz ρ Q E) E := by
  simp only [eGet2, wp_bind]
  congr 1
  funext x S1
  unfold kG2a
  cases h : isDc x S1 with
  | false => simp
  | true =>
    simp only [if_true, true_and, wp_bind]
    congr 1
    funext k S2
    congr 1
    funext z S3
    cases getD2 x k z S3 <;> simp
end
end Fk
set_option Elab.async false
set_option linter.all false
set_option maxRecDepth 100000
set_option maxHeartbeats 4000000
namespace Fk
open PySem PySem.Spec PyProof.Rows L2
section
end
end Fk
set_option Elab.async false
set_option linter.all false
set_option maxRecDepth 100000
set_option maxHeartbeats 4000000
namespace Fk
open PySem PySem.Spec PyProof.Rows L2
section
end
section
end
section
variable {X : Cx} {W : WX} {pos : Pos}
def eNewK : SemE := fun _ S => .ok (.ref S.length) (S ++ [.dK []])
end
section
variable {ρ : Env} {S : Store} {Q : D → Store → Prop} {E : EX}
@[simp] theorem wp_eNewK : (eNewK ρ S).wp Q E = Q (.ref S.length) (S ++ [.dK []]) := wp_ok _
end
end Fk
set_option Elab.async false
set_option linter.all false
set_option maxRecDepth 100000
set_option maxHeartbeats 2000000
namespace Fk.Z3
open PySem PySem.Spec PyProof.Rows L2
section
variable {prog : Program} {w : World} {A : Around} {E : Value → Shared → Prop} {s : Shared}
variable {n l1 l2 l3 k : Nat} {f0 : Value} {f1 : Bool} {xs ys zs : Array Value} {x y u : Value}
/-- all cells but these stand as they stood -/
def Kp (n : Nat) (h h' : Heap) : Prop := ∀ c o, c ≠ n + 5 → c ≠ n + 4 → c ≠ n → c ≠ n + 1 → c ≠ n + 2 → h.get? c = some o → h'.get? c = some o
end
end Fk.Z3
set_option Elab.async false
set_option linter.all false
set_option maxRecDepth 100000
set_option maxHeartbeats 2000000
namespace Fk.Z3
open PySem PySem.Spec PyProof.Rows L2
section
end
end Fk.Z3
namespace Fk
open PySem PySem.Spec PyProof.Rows L2 Fk.Z3
def zip3L : List D → List D → List D → List D
  | x :: xs, y :: ys, z :: zs => .tup [x, y, z] :: zip3L xs ys zs
  | _, _, _ => []
def itZip3 (fa : SemA) : SemA := fun ρ S => (fa ρ S).bind fun ds S1 => match ds with
  | [.tup xs, .tup ys, .tup zs] => if xs.length = ys.length ∧ ys.length = zs.length then .ok (zip3L xs ys zs) S1 else .stuck
  | _ => .stuck
section
variable {X : Cx} {W : WX}
variable {ρ : Env} {S : Store} {E : EX}
def kZip3 (Q : List D → Store → Prop) (ds : List D) (S : Store) : Prop := match ds with
  | [.tup xs, .tup ys, .tup zs] => (xs.length = ys.length ∧ ys.length = zs.length) ∧ Q (zip3L xs ys zs) S
  | _ => False
@[simp] theorem kZip3_t {Q : List D → Store → Prop} (xs ys zs : List D) : kZip3 Q [.tup xs, .tup ys, .tup zs] S = ((xs.length = ys.length ∧ ys.length = zs.length) ∧ Q (zip3L xs ys zs) S) := rfl
@[simp] theorem wp_itZip3 (fa : SemA) {Q : List D → Store → Prop} : (itZip3 fa ρ S).wp Q E = (fa ρ S).wp (kZip3 Q) E := by
  simp only [itZip3, wp_bind]
  congr 1
  funext ds S1
  unfold kZip3
  split
  · split
    · next h => simp [h]
    · next h => simp [h]
  · simp
end
end Fk
set_option Elab.async false
set_option linter.all false
set_option maxRecDepth 100000
set_option maxHeartbeats 2000000
namespace Fk
open PySem PySem.Spec PyProof.Rows L2
section
end
end Fk
set_option Elab.async false
set_option linter.all false
set_option maxRecDepth 100000
set_option maxHeartbeats 2000000
namespace Fk
open PySem PySem.Spec PyProof.Rows L2
def opRvT : D → Store → Option D := fun d _ => match d with
  | .tup (_ :: xs) => some (.tup xs.reverse)
  | _ => none
@[simp] theorem rvT_cons {x : D} {xs : List D} {S : Store} : opRvT (.tup (x :: xs)) S = some (.tup xs.reverse) := rfl
section
end
section
end
end Fk
set_option Elab.async false
set_option linter.all false
set_option maxRecDepth 100000
set_option maxHeartbeats 0
noncomputable section
namespace Sm
open PySem PySem.Spec PyProof.Rows L2 Fk
end Sm
end
set_option Elab.async false
set_option linter.all false
set_option maxRecDepth 100000
namespace Fk
open PySem PySem.Spec PyProof.Rows L2
def gTPutC (fo fi : SemE) (y : D) (k : Store → OutS) : SemS := fun ρ S => toS (fo ρ S) ρ fun x S2 => toS (fi ρ S2) ρ fun i S3 => match tputC x i y S3 with
  | some S4 => k S4
  | none => .stuck
def sTPut2 (fo fi fo' fi' fe : SemE) : SemS := fun ρ S => toS (fe ρ S) ρ fun d S1 => match d with
  | .tup [y, z] => gTPutC fo fi y (fun S2 => gTPutC fo' fi' z (fun S3 => .nx ρ S3) ρ S2) ρ S1
  | _ => .stuck
section
end
section
variable {ρ : Env} {S : Store} {k : KS}
def kTT2 (fo fi fo' fi' : SemE) (ρ : Env) (k : KS) (d : D) (S : Store) : Prop := ∃ y z, d = .tup [y, z] ∧ (fo ρ S).wp (fun x S2 => (fi ρ S2).wp (fun i S3 => ∃ S4, tputC x i y S3 = some S4 ∧
  (fo' ρ S4).wp (fun x S5 => (fi' ρ S5).wp (fun i S6 => ∃ S7, tputC x i z S6 = some S7 ∧ k.nx ρ S7) (kEx k ρ)) (kEx k ρ)) (kEx k ρ)) (kEx k ρ)
def kTT21 (fi fo' fi' : SemE) (ρ : Env) (k : KS) (y z x : D) (S : Store) : Prop := (fi ρ S).wp (fun i S3 => ∃ S4, tputC x i y S3 = some S4 ∧
  (fo' ρ S4).wp (fun x S5 => (fi' ρ S5).wp (fun i S6 => ∃ S7, tputC x i z S6 = some S7 ∧ k.nx ρ S7) (kEx k ρ)) (kEx k ρ)) (kEx k ρ)
def kTT22 (fo' fi' : SemE) (ρ : Env) (k : KS) (y z x i : D) (S : Store) : Prop := ∃ S4, tputC x i y S = some S4 ∧
  (fo' ρ S4).wp (fun x S5 => (fi' ρ S5).wp (fun i S6 => ∃ S7, tputC x i z S6 = some S7 ∧ k.nx ρ S7) (kEx k ρ)) (kEx k ρ)
def kTT23 (fi' : SemE) (ρ : Env) (k : KS) (z x : D) (S : Store) : Prop := (fi' ρ S).wp (fun i S6 => ∃ S7, tputC x i z S6 = some S7 ∧ k.nx ρ S7) (kEx k ρ)
@[simp] theorem kTT2_eq (fo fi fo' fi' : SemE) (y z : D) : kTT2 fo fi fo' fi' ρ k (.tup [y, z]) S = (fo ρ S).wp (kTT21 fi fo' fi' ρ k y z) (kEx k ρ) := by
  apply propext
  constructor
  · rintro ⟨y, z, e, h⟩; cases e; exact h
  · intro h; exact ⟨y, z, rfl, h⟩
@[simp] theorem kTT21_eq (fi fo' fi' : SemE) (y z x : D) : kTT21 fi fo' fi' ρ k y z x S = (fi ρ S).wp (kTT22 fo' fi' ρ k y z x) (kEx k ρ) := rfl
@[simp] theorem kTT22_eq (fo' fi' : SemE) (y z x i : D) : kTT22 fo' fi' ρ k y z x i S = ∃ S4, tputC x i y S = some S4 ∧ (fo' ρ S4).wp (kTT23 fi' ρ k z) (kEx k ρ) := rfl
@[simp] theorem kTT23_eq (fi' : SemE) (z x : D) : kTT23 fi' ρ k z x S = (fi' ρ S).wp (fun i S6 => ∃ S7, tputC x i z S6 = some S7 ∧ k.nx ρ S7) (kEx k ρ) := rfl
theorem wp_gTPutC (fo fi : SemE) (y : D) (g : Store → OutS) : (gTPutC fo fi y g ρ S).wp k = (fo ρ S).wp (fun x S2 => (fi ρ S2).wp (fun i S3 => ∃ S4, tputC x i y S3 = some S4 ∧ (g S4).wp k) (kEx k ρ)) (kEx k ρ) := by
  simp only [gTPutC, wpS_toS]
  congr 1
  funext x S2
  congr 1
  funext i S3
  cases tputC x i y S3 <;> simp
@[simp] theorem wp_sTPut2 (fo fi fo' fi' fe : SemE) : (sTPut2 fo fi fo' fi' fe ρ S).wp k = (fe ρ S).wp (kTT2 fo fi fo' fi' ρ k) (kEx k ρ) := by
  simp only [sTPut2, wpS_toS]
  congr 1
  funext d S1
  apply propext
  constructor
  · intro h
    match d, h with
    | .tup [y, z], h =>
      refine ⟨y, z, rfl, ?_⟩
      simpa only [wp_gTPutC, wpS_nx] using h
  · rintro ⟨y, z, rfl, h⟩
    simpa only [wp_gTPutC, wpS_nx] using h
end
end Fk
set_option Elab.async false
set_option linter.all false
set_option maxRecDepth 100000
namespace Fk
open PySem PySem.Spec PyProof.Rows L2
section
end
section
variable {X : Cx} {W : WX} {a b c e : Expr} {f g h i : SemE} {pos : Pos}
def eChain3 (op op' op2 : D → D → Store → Option D) (f g h i : SemE) : SemE := fun ρ S => (f ρ S).bind fun x S1 => (g ρ S1).bind fun y S2 => (lift (op x y S2) S2).bind fun z S3 => (asB z S3).bind fun k S4 =>
  if k then (h ρ S4).bind fun w S5 => (lift (op' y w S5) S5).bind fun z2 S6 => (asB z2 S6).bind fun k2 S7 => if k2 then (i ρ S7).bind fun w2 S8 => lift (op2 w w2 S8) S8 else .ok (.bl false) S7 else .ok (.bl false) S4
variable {ρ : Env} {S : Store} {Q : D → Store → Prop} {E : EX}
def kC3c (op2 : D → D → Store → Option D) (i : SemE) (ρ : Env) (Q : D → Store → Prop) (E : EX) (op' : D → D → Store → Option D) (y w : D) (S : Store) : Prop := ∃ z, op' y w S = some z ∧ ∃ b, z = .bl b ∧ (if b then (i ρ S).wp (kB2 op2 w Q) E else Q (.bl false) S)
def kC3b (op op' op2 : D → D → Store → Option D) (h i : SemE) (ρ : Env) (Q : D → Store → Prop) (E : EX) (x y : D) (S : Store) : Prop := ∃ z, op x y S = some z ∧ ∃ b, z = .bl b ∧ (if b then (h ρ S).wp (kC3c op2 i ρ Q E op' y) E else Q (.bl false) S)
def kC3a (op op' op2 : D → D → Store → Option D) (g h i : SemE) (ρ : Env) (Q : D → Store → Prop) (E : EX) (x : D) (S : Store) : Prop := (g ρ S).wp (kC3b op op' op2 h i ρ Q E x) E
@[simp] theorem kC3a_eq (op op' op2 : D → D → Store → Option D) (x : D) : kC3a op op' op2 g h i ρ Q E x S = (g ρ S).wp (kC3b op op' op2 h i ρ Q E x) E := rfl
@[simp] theorem kC3b_eq (op op' op2 : D → D → Store → Option D) (x y : D) : kC3b op op' op2 h i ρ Q E x y S = ∃ z, op x y S = some z ∧ ∃ b, z = .bl b ∧ (if b then (h ρ S).wp (kC3c op2 i ρ Q E op' y) E else Q (.bl false) S) := rfl
@[simp] theorem kC3c_eq (op' op2 : D → D → Store → Option D) (y w : D) : kC3c op2 i ρ Q E op' y w S = ∃ z, op' y w S = some z ∧ ∃ b, z = .bl b ∧ (if b then (i ρ S).wp (kB2 op2 w Q) E else Q (.bl false) S) := rfl
@[simp] theorem wp_eChain3 (op op' op2 : D → D → Store → Option D) : (eChain3 op op' op2 f g h i ρ S).wp Q E = (f ρ S).wp (kC3a op op' op2 g h i ρ Q E) E := by
  simp only [eChain3, wp_bind, wp_lift, wp_asB, wp_ite, wp_ok]
  rfl
end
end Fk
set_option Elab.async false
set_option linter.all false
set_option maxRecDepth 100000
namespace Fk
open PySem PySem.Spec PyProof.Rows L2
section
variable {X : Cx} {W : WX} {a b o i e : Expr} {f g : SemE} {pos : Pos}
variable {S : Store}
def opInS : D → D → Store → Option D := fun d e _ => match d, e with
  | .str i, .str j => some (.bl (!(Builtin.Str.occurrences j i 0 j.length 1).isEmpty))
  | _, _ => none
def opNinS : D → D → Store → Option D := fun d e _ => match d, e with
  | .str i, .str j => some (.bl (!(!(Builtin.Str.occurrences j i 0 j.length 1).isEmpty)))
  | _, _ => none
@[simp] theorem inS_at {i j : Str} : opInS (.str i) (.str j) S = some (.bl (!(Builtin.Str.occurrences j i 0 j.length 1).isEmpty)) := rfl
@[simp] theorem ninS_at {i j : Str} : opNinS (.str i) (.str j) S = some (.bl (!(!(Builtin.Str.occurrences j i 0 j.length 1).isEmpty))) := rfl
end
end Fk
set_option Elab.async false
set_option linter.all false
set_option maxRecDepth 100000
namespace Fk
open PySem PySem.Spec PyProof.Rows L2
def lexB (ns ms : List Int) : Bool := Ob.lexAt (fun j => decide (ns.getD j 0 = ms.getD j 0)) (fun j => decide (ns.getD j 0 ≤ ms.getD j 0)) (decide (ns.length ≤ ms.length)) 0 (min ns.length ms.length)
def opLeT : D → D → Store → Option D := fun d e _ => match d, e with
  | .tup xs, .tup ys => (match asInts xs, asInts ys with
    | some ns, some ms => some (.bl (lexB ns ms))
    | _, _ => none)
  | _, _ => none
section
variable {X : Cx}
def opLeA := orO opLe opLeT
@[simp] theorem leA_int {i j : Int} {S : Store} : opLeA (.int i) (.int j) S = some (.bl (decide (i ≤ j))) := rfl
end
end Fk
set_option Elab.async false
set_option linter.all false
set_option maxRecDepth 100000
set_option maxHeartbeats 1000000
namespace Fk
open PySem PySem.Spec PyProof.Rows L2
end Fk
set_option Elab.async false
set_option linter.all false
set_option maxRecDepth 100000
set_option maxHeartbeats 1000000
namespace Fk
open PySem PySem.Spec PyProof.Rows L2
section
end
end Fk
set_option Elab.async false
set_option linter.all false
set_option maxRecDepth 100000
set_option maxHeartbeats 1000000
namespace Fk
open PySem PySem.Spec PyProof.Rows L2
section
end
end Fk
set_option Elab.async false
set_option linter.all false
set_option maxRecDepth 100000
set_option maxHeartbeats 1000000
namespace Fk
open PySem PySem.Spec PyProof.Rows L2 CwR
section
end
section
end
section
open Builtin Builtin.Str
end
section
end
end Fk
set_option Elab.async false
set_option linter.all false
set_option maxRecDepth 100000
set_option maxHeartbeats 4000000
namespace Fk
open PySem PySem.Spec PyProof.Rows L2
section
end
end Fk
set_option Elab.async false
set_option linter.all false
set_option maxRecDepth 100000
set_option maxHeartbeats 2000000
namespace Fk
open PySem PySem.Spec PyProof.Rows L2
/-- the defs of a method, class by class -/
abbrev MT := List (Str × FSem)
/-- a def that is called with n written arguments -/
structure FnB (P : Program) (w : World) (K : PySem.W.Frag) (mg : Str → Option Value) (base : Heap) (k : Nat) (g : Addr) (n : Nat) (f : FSem) : Prop where
  run : ∀ (A : Around) (outer : List PySem.Env) (s : Shared) (H : Hp) (us : List Value) (vs : List V) (Q : VK) (E : XK), A.guards = some [] → Room k A → Env0 P w K mg base A outer s H → K.In s.heap → Vals vs us → spD K mg n f vs H Q E →
    codeAny (model P w) A (.call (.ref g) ⟨us, []⟩) (CR (L2N.CX P w) outer P w H s Q E) s
theorem FnB.mono {P : Program} {w : World} {K : PySem.W.Frag} {mg : Str → Option Value} {base : Heap} {j k n : Nat} {g : Addr} {f : FSem} (h : FnB P w K mg base j g n f) (hj : j ≤ k) : FnB P w K mg base k g n f :=
  ⟨fun A outer s H us vs Q E hG hr => h.run A outer s H us vs Q E hG (hr.mono hj)⟩
/-- the defs of a method, class by class: n parameters -/
structure MtO (P : Program) (w : World) (K : PySem.W.Frag) (mg : Str → Option Value) (base : Heap) (m : Str) (n k : Nat) (c : Str) (f : FSem) : Prop where
  ex : ∃ C g, mg c = some (.ref C) ∧ Cls K C ∧ Meth K C m g ∧ PySem.W.fnIn K g = true ∧ FnB P w K mg base k g n f
section
variable {P : Program} {w : World} {K : PySem.W.Frag} {mg : Str → Option Value} {base : Heap} {m : Str} {n k j : Nat} {c : Str} {f : FSem} {mt : MT}
theorem MtO.mono (h : MtO P w K mg base m n j c f) (hj : j ≤ k) : MtO P w K mg base m n k c f := by
  obtain ⟨C, g, h1, h2, h3, h4, h5⟩ := h.ex
  exact ⟨C, g, h1, h2, h3, h4, h5.mono hj⟩
end
section
end
end Fk
set_option Elab.async false
set_option linter.all false
set_option maxRecDepth 100000
set_option maxHeartbeats 2000000
namespace OwX
open PySem PySem.Spec PyProof.Rows
section
end
end OwX
namespace Fk
open PySem PySem.Spec PyProof.Rows L2
section
end
end Fk
set_option Elab.async false
set_option linter.all false
set_option maxRecDepth 100000
set_option maxHeartbeats 2000000
namespace Fk
open PySem PySem.Spec PyProof.Rows L2
def putFD (f : Str) (d : D) : List (Str × D) → List (Str × D)
  | [] => [(f, d)]
  | (g, x) :: r => if g = f then (g, d) :: r else (g, x) :: putFD f d r
section
variable {X : Cx} {W : WX} {k n : Nat} {mt : MT} {m f : Str} {e o : Expr} {es : List Expr} {fe fo : SemE} {fa : SemA} {pos pos' apos p : Pos} {x : Str}
def setF (cls : List Str) (f : Str) (x y : D) (S : Store) : Option Store := match x with
  | .ref n => (match S[n]? with
    | some (.ins c fs) => if decide (c ∈ cls) && decide (fs.length < 1000) && closed n y then some (S.set n (.ins c (putFD f y fs))) else none
    | _ => none)
  | _ => none
end
end Fk
set_option Elab.async false
set_option linter.all false
set_option maxRecDepth 100000
set_option maxHeartbeats 2000000
namespace Fk
open PySem PySem.Spec PyProof.Rows L2
section
variable {X : Cx} {W : WX} {k n : Nat} {mt : MT} {m f : Str} {e o : Expr} {es : List Expr} {fe fo : SemE} {fa : SemA} {pos pos' apos p : Pos} {x c : Str} {fs : FSem}
def tyNames : List String := ["NoneType", "bool", "int", "str", "tuple", "list", "dict"]
end
end Fk
set_option Elab.async false
set_option linter.all false
set_option maxRecDepth 100000
set_option maxHeartbeats 2000000
namespace Fk
open PySem PySem.Spec PyProof.Rows L2
structure RoomU (k : Nat) (A : Around) : Prop where
  dp : A.depth + 3 * k + 5 < recursionLimit
  un : A.units + 16 * k + 200 < cLine
theorem RoomU.mono {j k : Nat} {A : Around} (r : RoomU k A) (h : j ≤ k) : RoomU j A := ⟨by have := r.dp; omega, by have := r.un; omega⟩
theorem RoomU.deeper {k : Nat} {A : Around} (r : RoomU (k + 1) A) (env : PySem.Env) : RoomU k (A.deeper env) :=
  ⟨by have := r.dp; show A.depth + 1 + 3 * k + 5 < _; omega, by have := r.un; show A.units + 3 + 16 * k + 200 < _; omega⟩
theorem RoomU.depth {k : Nat} {A : Around} (r : RoomU k A) : A.depth < recursionLimit := by have := r.dp; omega
structure FnU (P : Program) (w : World) (K : PySem.W.Frag) (mg : Str → Option Value) (base : Heap) (k : Nat) (f : Addr) (fd : FuncData) (ps : List Str) (sp : Sp) : Prop where
  len : ∀ vs H Q E, sp vs H Q E → vs.length = ps.length
  run : ∀ (A : Around) (outer : List PySem.Env) (s : Shared) (H : Hp) (args : Args) (us : List Value) (vs : List V) (Q : VK) (E : XK), A.guards = some [] → RoomU k A → Env0 P w K mg base A outer s H → BindsTo s fd args (ps.zip us) → Vals vs us → sp vs H Q E →
    codeAny (model P w) A (.call (.ref f) args) (CR (L2N.CX P w) outer P w H s Q E) s
theorem FnU.mono {P : Program} {w : World} {K : PySem.W.Frag} {mg : Str → Option Value} {base : Heap} {j k : Nat} {f : Addr} {fd : FuncData} {ps : List Str} {sp : Sp} (F : FnU P w K mg base j f fd ps sp) (h : j ≤ k) : FnU P w K mg base k f fd ps sp :=
  ⟨F.len, fun A outer s H args us vs Q E hg hr => F.run A outer s H args us vs Q E hg (hr.mono h)⟩
section
end
/-- where its code stands -/
structure CxU (X : Cx) (W : WX) (k : Nat) : Prop where
  nd : X.N.Nodup
  g : X.A.guards = some []
  room : RoomU k X.A
theorem CxU.u64 {X : Cx} {W : WX} {k : Nat} (c : CxU X W k) : X.A.units + 64 < cLine := by have := c.room.un; omega
theorem CxU.u65 {X : Cx} {W : WX} {k : Nat} (c : CxU X W k) : X.A.units + 65 < cLine := by have := c.room.un; omega
theorem CxU.u1 {X : Cx} {W : WX} {k : Nat} (c : CxU X W k) : X.A.units + 1 < cLine := by have := c.room.un; omega
section
end
end Fk
set_option Elab.async false
set_option linter.all false
set_option maxRecDepth 100000
set_option maxHeartbeats 2000000
namespace OwX
open PySem PySem.Spec PySem.W PyProof.Rows
section
end
end OwX
namespace Fk
open PySem PySem.Spec PyProof.Rows L2
section
end
def bopB (K : PySem.W.Frag) (c : Str) (nm : String) : Bool := PySem.W.selfFirst K (He.ga K c) && ((match PySem.W.findIn K (.ref (He.ga K c)) (dunderR nm) with
    | some none => true
    | some (some (.ref _)) => true
    | _ => false) && (tyNames.all fun T => (match PySem.W.findIn K (.type T) (PySem.dunder nm), PySem.W.findIn K (.type T) (dunderR nm) with
      | some fo, some ro => decide (T = "int") || (decide (T = "bool") || !((fo.isSome && !isSeqSlot fo) || (ro.isSome && !isSeqSlot ro)))
      | _, _ => false) && (decide (PySem.W.subIn K (.type T) (.ref (He.ga K c)) = some false) && decide (PySem.W.subIn K (.ref (He.ga K c)) (.type T) = some false))))
end Fk
set_option Elab.async false
set_option linter.all false
set_option maxRecDepth 100000
set_option maxHeartbeats 2000000
namespace Fk
open PySem PySem.Spec PyProof.Rows L2
def kvB (K : PySem.W.Frag) (x k : Str) (i : Int) : Bool := !(He.ga K x == sysModules) && (match PySem.W.nsIn K (He.ga K x) k with
  | some (some (.int j _)) => decide (j = i)
  | _ => false)
inductive Kf where
  | kio (c : Str)
  | kpo (c d : Str) (b : Bool)
  | fni (c m : Str)
  | pro (c f : Str)
  | bop (c : Str) (nm : String)
  | sfi (c : Str)
  | con (c f v : Str)
  | dv (x k f : Str)
  | dvi (x k : Str) (i : Int)
  | kve (c : Str)
/-- the getter of a property -/
def gAd (K : PySem.W.Frag) (c f : Str) : Addr := match PySem.W.recIn K (He.ma K (He.ga K c) f) "property" with
  | some (.ref g :: _) => g
  | _ => 0
def Kf.ok (K : PySem.W.Frag) : Kf → Bool
  | .kio c => He.eqO (PySem.W.findIn K (.ref (He.ga K c)) "__class__") (some (some (.builtin "object.__class__"))) && (He.eqO (PySem.W.specialIn K (.builtin "object.__class__") "__get__") (some (some (.builtin "getset_descriptor.__get__"))) &&
      (decide (PySem.W.takesIn K (.builtin "object.__class__") = some true) && (decide (PySem.W.mroIn K (He.ga K c) (.type "object") = some true) && ((tyNames.all fun T => PySem.W.notFirst K (He.ga K c) (.type T)) &&
      ((tyNames.all fun T => decide (PySem.W.kitOne K (.ref (He.ga K c)) (.type T) = some false)) && (tyNames.all fun T => decide (PySem.W.kitOne K (.type T) (.ref (He.ga K c)) = some false)))))))
  | .kpo c d b => PySem.W.notFirst K (He.ga K c) (.ref (He.ga K d)) && decide (PySem.W.kitOne K (.ref (He.ga K d)) (.ref (He.ga K c)) = some b)
  | .fni c m => PySem.W.fnIn K (He.ma K (He.ga K c) m)
  | .pro c f => He.eqO (PySem.W.findIn K (.ref (He.ga K c)) f) (some (some (.ref (He.ma K (He.ga K c) f)))) && (He.eqO (PySem.W.specialIn K (.ref (He.ma K (He.ga K c) f)) "__get__") (some (some (.builtin "property.__get__"))) &&
      (decide (PySem.W.takesIn K (.ref (He.ma K (He.ga K c) f)) = some true) && (match PySem.W.recIn K (He.ma K (He.ga K c) f) "property" with
        | some (.ref _ :: _) => true
        | _ => false)))
  | .bop c nm => bopB K c nm
  | .sfi c => PySem.W.selfFirst K (He.ga K c)
  | .con c f v => He.conB K c f (.str v)
  | .dv x k f => He.eqO (PySem.W.nsIn K (He.ga K x) k) (some (some (.ref (He.ga K f))))
  | .dvi x k i => kvB K x k i
  | .kve c => decide (PySem.W.kitOne K (.ref (He.ga K c)) (.type "ValueError") = some true)
def xctK (tn : List Str) (l : List Xc) (kl : List Kf) (K : PySem.W.Frag) : Bool := xct tn l K && kl.all fun p => p.ok K
theorem xctK_at {kl : List Kf} {K : PySem.W.Frag} (h : (kl.all fun p => p.ok K) = true) (i : Nat) {p : Kf} (e : kl[i]? = some p) : p.ok K = true := List.all_eq_true.mp h p (List.mem_of_getElem? e)
section
end
def fnA (K : PySem.W.Frag) (a : Addr) : He.FnW := match K.lookup a with
  | some ⟨_, _, .func fd, _⟩ => some (fd.name, fd.qualname, fd.params, fd.body, fd.scope, fd.globals, fd.closure, fd.builtins)
  | _ => none
def okA (K : PySem.W.Frag) (a : Addr) (d : He.DefD) : Bool := PySem.W.keepIn K (.ref a) && (match K.lookup a with
  | some ⟨_, _, .func fd, _⟩ => PySem.W.codeIn K fd.code d.qual && (He.dflB K fd.defaults (d.dvs K) && He.kwdB K fd.kwdefaults (d.kws K))
  | _ => false)
theorem funA {K : PySem.W.Frag} {a : Addr} {d : He.DefD} (e : fnA K a = d.val) (c : okA K a d = true) : ∃ fd, FunD K d.name d.qual d.params d.body d.scope (d.dvs K) (d.kws K) a fd := by
  obtain ⟨kp, c2⟩ := He.ba c
  unfold fnA at e
  cases q : K.lookup a with
  | none =>
    rw [q] at c2
    cases c2
  | some o =>
    obtain ⟨oc, od, dt, osl⟩ := o
    rw [q] at c2 e
    cases dt with
    | func fd =>
      obtain ⟨n1, n2, n3, n4, n5, n6, n7, n8, n9, n10, n11, n12, n13, n14, n15⟩ := fd
      have e2 : (some (n1, n2, n3, n4, n5, n6, n7, n15) : He.FnW) = some (d.name, d.qual, d.params, .stmts d.body, d.scope, mainGlobals, [], builtinsNs) := e
      simp only [Option.some.injEq, Prod.mk.injEq] at e2
      obtain ⟨h1, h2, h3, h4, h5, h6, h7, h8⟩ := e2
      subst h1 h2 h3 h4 h5 h6 h7 h8
      have c3 : (PySem.W.codeIn K n13 d.qual && (He.dflB K n8 (d.dvs K) && He.kwdB K n9 (d.kws K))) = true := c2
      obtain ⟨k1, k2⟩ := He.ba c3
      obtain ⟨k3, k4⟩ := He.ba k2
      exact ⟨_, ⟨oc, od, n8, n9, n10, n11, n12, n13, n14, osl, rfl, q, k1, He.dflB_ok k3, He.kwdB_ok k4⟩, kp⟩
    | _ => cases c2
/-- what the module's names reach in n steps, each object once -/
def seenA (m a : Nat) : Bool := Nat.beq (Nat.land (Nat.shiftRight m a) 1) 1
def visit (g : Addr → Option Obj) : List Addr → Nat → List Addr → (Nat → List Addr → List Addr) → List Addr
  | [], m, new, k => k m new
  | a :: as, m, new, k => match seenA m a with
    | true => visit g as m new k
    | false => visit g as (Nat.lor m (Nat.shiftLeft 1 a)) (a :: new) k
def asF (g : Addr → Option Obj) : Nat → Nat → List Addr → List Addr → List Addr
  | 0, _, _, acc => acc
  | n + 1, m, front, acc => visit g (front.flatMap fun a => match g a with
    | some o => He.refsD o
    | none => []) m [] fun m2 new => asF g n m2 new (new ++ acc)
def frP (g : Addr → Option Obj) (n : Nat) : PySem.W.Frag := He.frG g (sysModules :: (asF g n (Nat.shiftLeft 1 mainGlobals) [mainGlobals] [mainGlobals]).filter (noTab g))
abbrev PrL := List (Str × Str × He.DefD)
abbrev AlP : Type := He.AlD × Bool × List He.FnW
def prV (pl : PrL) : List He.FnW := pl.map fun p => p.2.2.val
def prF (pl : PrL) (K : PySem.W.Frag) : List He.FnW := pl.map fun p => fnA K (gAd K p.1 p.2.1)
def prB (pl : PrL) (K : PySem.W.Frag) : Bool := pl.all fun p => okA K (gAd K p.1 p.2.1) p.2.2
def obsP (xb : PySem.W.Frag → Bool) (n : Nat) (fa : List He.Fa) (fn : List He.DefD) (pl : PrL) (g : Addr → Option Obj) : AlP := (He.obsD fa fn (frP g n), (smB (frP g n) && xb (frP g n)) && prB pl (frP g n), prF pl (frP g n))
def SaysP (pl : PrL) (K : PySem.W.Frag) : Prop := prB pl K = true ∧ prF pl K = prV pl
def hookP (xb : PySem.W.Frag → Bool) (n : Nat) (fa : List He.Fa) (fn : List He.DefD) (pl : PrL) : PySem.W.Hook where
  α := AlP
  obs := fun s => obsP xb n fa fn pl s.heap.get?
  val := fun _ => (He.valD fn, true, prV pl)
  says := fun _ h => ∃ K : PySem.W.Frag, K.In h ∧ He.SaysD fa fn K ∧ (smB K && xb K) = true ∧ SaysP pl K
  of := fun s _ e => ⟨_, He.frG_in, congrArg Prod.fst e, (He.ba (congrArg (fun z : AlP => z.2.1) e)).1, (He.ba (congrArg (fun z : AlP => z.2.1) e)).2, congrArg (fun z : AlP => z.2.2) e⟩
  keeps := fun _ _ _ ⟨K, hK, c⟩ k => ⟨K, PySem.W.Frag.In.keeps hK k, c⟩
theorem obsP_eq {xb : PySem.W.Frag → Bool} {n : Nat} {fa : List He.Fa} {fn : List He.DefD} {pl : PrL} {g : Addr → Option Obj} {s : Shared} (h : ∀ a, g a = s.heap.get? a) : obsP xb n fa fn pl g = (hookP xb n fa fn pl).obs s := by
  have e : g = s.heap.get? := funext h
  rw [e] <;> rfl
theorem SaysP.def_ {pl : PrL} {K : PySem.W.Frag} (c : SaysP pl K) (i : Nat) {p : Str × Str × He.DefD} (h : pl[i]? = some p := by rfl) : ∃ fd, FunD K p.2.2.name p.2.2.qual p.2.2.params p.2.2.body p.2.2.scope (p.2.2.dvs K) (p.2.2.kws K) (gAd K p.1 p.2.1) fd := by
  have e2 : (prF pl K)[i]? = (prV pl)[i]? := by rw [c.2]
  unfold prF prV at e2
  rw [List.getElem?_map, List.getElem?_map, h] at e2
  exact funA (Option.some.inj e2) (List.all_eq_true.mp c.1 p (List.mem_of_getElem? h))
abbrev TbL := List (Str × List Str)
def SaysQ (tl : TbL) (w : World) (K : PySem.W.Frag) : Prop := (tl.map fun t => He.dicW K (He.ga K t.1)) = tl.map fun t => some (He.keysIn w.params t.2)
theorem SaysQ.tab {tl : TbL} {w : World} {K : PySem.W.Frag} (c : SaysQ tl w K) (i : Nat) {t : Str × List Str} (h : tl[i]? = some t := by rfl) : ∃ es n, K.lookup (He.ga K t.1) = some ⟨.type "dict", none, .dict es n, #[]⟩ ∧ PySem.W.KeysLit w.params es.toList := by
  have c : (tl.map fun t => He.dicW K (He.ga K t.1)) = tl.map fun t => some (He.keysIn w.params t.2) := c
  have e2 : (tl.map fun t => He.dicW K (He.ga K t.1))[i]? = (tl.map fun t => some (He.keysIn w.params t.2))[i]? := by rw [c]
  rw [List.getElem?_map, List.getElem?_map, h] at e2
  obtain ⟨es, n, d⟩ := He.dicW_ok (Option.some.inj e2)
  exact ⟨es, n, d.1, d.2⟩
end Fk
set_option Elab.async false
set_option linter.all false
set_option maxRecDepth 100000
set_option maxHeartbeats 2000000
namespace Fk
open PySem PySem.Spec PyProof.Rows L2
def gFldC (cls : List Str) (f : Str) (fo : SemE) (y : D) (k : Store → OutS) : SemS := fun ρ S => toS (fo ρ S) ρ fun x S2 => match setF cls f x y S2 with
  | some S3 => k S3
  | none => .stuck
def sFld2 (cls : List Str) (f f' : Str) (fo fo' fe : SemE) : SemS := fun ρ S => toS (fe ρ S) ρ fun d S1 => match d with
  | .tup [y, z] => gFldC cls f fo y (fun S2 => gFldC cls f' fo' z (fun S3 => .nx ρ S3) ρ S2) ρ S1
  | _ => .stuck
section
end
section
variable {ρ : Env} {S : Store} {k : KS}
def kF21 (cls : List Str) (f f' : Str) (fo' : SemE) (ρ : Env) (k : KS) (y z x : D) (S2 : Store) : Prop := ∃ S3, setF cls f x y S2 = some S3 ∧ (fo' ρ S3).wp (fun x S4 => ∃ S5, setF cls f' x z S4 = some S5 ∧ k.nx ρ S5) (kEx k ρ)
def kF2 (cls : List Str) (f f' : Str) (fo fo' : SemE) (ρ : Env) (k : KS) (d : D) (S : Store) : Prop := ∃ y z, d = .tup [y, z] ∧ (fo ρ S).wp (kF21 cls f f' fo' ρ k y z) (kEx k ρ)
@[simp] theorem kF2_eq (cls : List Str) (f f' : Str) (fo fo' : SemE) (y z : D) : kF2 cls f f' fo fo' ρ k (.tup [y, z]) S = (fo ρ S).wp (kF21 cls f f' fo' ρ k y z) (kEx k ρ) := by
  apply propext
  constructor
  · rintro ⟨y, z, e, h⟩; cases e; exact h
  · intro h; exact ⟨y, z, rfl, h⟩
@[simp] theorem kF21_eq (cls : List Str) (f f' : Str) (fo' : SemE) (y z x : D) : kF21 cls f f' fo' ρ k y z x S = ∃ S3, setF cls f x y S = some S3 ∧ (fo' ρ S3).wp (fun x S4 => ∃ S5, setF cls f' x z S4 = some S5 ∧ k.nx ρ S5) (kEx k ρ) := rfl
theorem wp_gFldC (cls : List Str) (f : Str) (fo : SemE) (y : D) (g : Store → OutS) : (gFldC cls f fo y g ρ S).wp k = (fo ρ S).wp (fun x S2 => ∃ S3, setF cls f x y S2 = some S3 ∧ (g S3).wp k) (kEx k ρ) := by
  simp only [gFldC, wpS_toS]
  congr 1
  funext x S2
  cases setF cls f x y S2 <;> simp
@[simp] theorem wp_sFld2 (cls : List Str) (f f' : Str) (fo fo' fe : SemE) : (sFld2 cls f f' fo fo' fe ρ S).wp k = (fe ρ S).wp (kF2 cls f f' fo fo' ρ k) (kEx k ρ) := by
  simp only [sFld2, wpS_toS]
  congr 1
  funext d S1
  apply propext
  constructor
  · intro h
    match d, h with
    | .tup [y, z], h =>
      refine ⟨y, z, rfl, ?_⟩
      simp only [wp_gFldC, wpS_nx] at h
      exact h
  · rintro ⟨y, z, rfl, h⟩
    simp only [wp_gFldC, wpS_nx]
    exact h
end
/-- the defs of a table, by text: how many parameters, what they compute -/
abbrev DT := List (Str × Nat × FSem)
def dtAt (tab : DT) : D → Option (Nat × FSem)
  | .str x => (tab.find? fun q => decide (q.1 = x)).map (·.2)
  | _ => none
structure DdA (P : Program) (w : World) (K : PySem.W.Frag) (mg : Str → Option Value) (base : Heap) (k : Nat) (x : Str) (tab : DT) : Prop where
  ex : ∃ p, mg x = some (.ref p) ∧ ∀ q ∈ tab, ∃ f, L2.KDct K w p q.1 (.ref f) ∧ PySem.W.keepIn K (.ref f) = true ∧ FnB P w K mg base k f q.2.1 q.2.2
def sDeed2 (n : Nat) (f : FSem) (l : Nat) (fp : SemE) (xs : List D) : SemS := fun ρ S => toS (fp ρ S) ρ fun p S3 => if xs.length + 1 = n then toS (f (p :: xs) S3) ρ fun d S4 => .nx (ρ.set l (some d)) S4 else .stuck
def sDeed (tab : DT) (i j l : Nat) (fk fr fp : SemE) : SemS := fun ρ S => toS (fk ρ S) ρ fun x S1 => match dtAt tab x with
  | some (n, f) => toS (fr ρ S1) ρ fun r S2 => (match r with
    | .tup xs => if i < ρ.length ∧ j < ρ.length then sDeed2 n f l fp xs ((ρ.set i none).set j (some (.tup xs))) S2 else .stuck
    | _ => .stuck)
  | none => .stuck
section
variable {X : Cx} {W : WX} {k i j l : Nat} {tab : DT} {x dn rn fn : Str} {ek er ep : Expr} {es : List Expr} {fk fr fp : SemE} {gr : SemS} {rest : List Stmt} {p1 p2 p3 p4 p5 p6 p7 p8 p9 p10 p11 pos pos' : Pos} {kt : Nat} {k2 : Nat}
theorem REnv.drop {K : PySem.W.Frag} {F : Hp} {ι : List Addr} {σ : L2.St} {ρ : Env} (h : REnv K F ι σ ρ) (i : Nat) (v : V) : REnv K F ι (σ.set i (some v)) (ρ.set i none) := by
  refine ⟨by simp [h.len], fun j e he => ?_⟩
  by_cases hj : j = i
  · subst hj
    have hl : j < ρ.length := by simpa using (List.getElem?_eq_some_iff.mp he).1
    rw [List.getElem?_set_self hl] at he
    cases he
  · rw [List.getElem?_set_ne (Ne.symm hj)] at he ⊢
    exact h.at' j e he
end
section
variable {ρ : Env} {S : Store} {k : KS}
def kDd3 (n : Nat) (f : FSem) (l : Nat) (xs : List D) (ρ : Env) (k : KS) (p : D) (S : Store) : Prop := xs.length + 1 = n ∧ (f (p :: xs) S).wp (fun d S4 => k.nx (ρ.set l (some d)) S4) (kEx k ρ)
def kDd2 (n : Nat) (f : FSem) (i j l : Nat) (fp : SemE) (ρ : Env) (k : KS) (r : D) (S : Store) : Prop := ∃ xs, r = .tup xs ∧ (i < ρ.length ∧ j < ρ.length) ∧ (fp ((ρ.set i none).set j (some r)) S).wp (kDd3 n f l xs ((ρ.set i none).set j (some r)) k) (kEx k ((ρ.set i none).set j (some r)))
def kDd (tab : DT) (i j l : Nat) (fr fp : SemE) (ρ : Env) (k : KS) (x : D) (S : Store) : Prop := ∃ n f, dtAt tab x = some (n, f) ∧ (fr ρ S).wp (kDd2 n f i j l fp ρ k) (kEx k ρ)
@[simp] theorem kDd3_eq (n : Nat) (f : FSem) (l : Nat) (xs : List D) (p : D) : kDd3 n f l xs ρ k p S = (xs.length + 1 = n ∧ (f (p :: xs) S).wp (fun d S4 => k.nx (ρ.set l (some d)) S4) (kEx k ρ)) := rfl
@[simp] theorem kDd2_eq (n : Nat) (f : FSem) (i j l : Nat) (fp : SemE) (xs : List D) : kDd2 n f i j l fp ρ k (.tup xs) S = ((i < ρ.length ∧ j < ρ.length) ∧ (fp ((ρ.set i none).set j (some (.tup xs))) S).wp (kDd3 n f l xs ((ρ.set i none).set j (some (.tup xs))) k) (kEx k ((ρ.set i none).set j (some (.tup xs))))) := by
  apply propext
  constructor
  · rintro ⟨y, e, h⟩; cases e; exact h
  · intro h; exact ⟨xs, rfl, h⟩
theorem kDd_of {tab : DT} {n i j l : Nat} {f : FSem} {fr fp : SemE} {x : D} (h : dtAt tab x = some (n, f)) : kDd tab i j l fr fp ρ k x S = (fr ρ S).wp (kDd2 n f i j l fp ρ k) (kEx k ρ) := by
  apply propext
  constructor
  · rintro ⟨n', f', e, q⟩
    rw [h] at e
    cases e
    exact q
  · intro q; exact ⟨n, f, h, q⟩
@[simp] theorem wp_sDeed (tab : DT) (i j l : Nat) (fk fr fp : SemE) : (sDeed tab i j l fk fr fp ρ S).wp k = (fk ρ S).wp (kDd tab i j l fr fp ρ k) (kEx k ρ) := by
  simp only [sDeed, wpS_toS]
  congr 1
  funext x S1
  apply propext
  cases hd : dtAt tab x with
  | none =>
    constructor
    · intro h; simp at h
    · rintro ⟨n, f, e, _⟩
      rw [hd] at e
      cases e
  | some nf =>
    obtain ⟨n, f⟩ := nf
    rw [kDd_of hd]
    simp only [wpS_toS]
    have e : (fun (r : D) (S2 : Store) => OutS.wp (match r with
        | .tup xs => if i < ρ.length ∧ j < ρ.length then sDeed2 n f l fp xs ((ρ.set i none).set j (some (.tup xs))) S2 else .stuck
        | _ => .stuck) k) = kDd2 n f i j l fp ρ k := by
      funext r S2
      apply propext
      cases r with
      | tup xs =>
        rw [kDd2_eq]
        by_cases hl : i < ρ.length ∧ j < ρ.length
        · simp only [if_pos hl, sDeed2, wpS_toS]
          have e2 : (fun (p : D) (S3 : Store) => OutS.wp (if xs.length + 1 = n then toS (f (p :: xs) S3) ((ρ.set i none).set j (some (.tup xs))) fun d S4 => .nx (((ρ.set i none).set j (some (.tup xs))).set l (some d)) S4 else .stuck) k) = kDd3 n f l xs ((ρ.set i none).set j (some (.tup xs))) k := by
            funext p S3
            apply propext
            rw [kDd3_eq]
            by_cases hn : xs.length + 1 = n
            · simp only [hn, if_true, wpS_toS, wpS_nx, true_and]
              exact Iff.rfl
            · simp [hn]
          rw [e2]
          exact ⟨fun h => ⟨hl, h⟩, fun h => h.2⟩
        · simp [if_neg hl]
          intro a b
          exact (hl ⟨a, b⟩).elim
      | _ => simp [kDd2]
    exact Iff.of_eq (congrArg (fun Q => (fr ρ S1).wp Q (kEx k ρ)) e)
end
section
variable {P : Program} {w : World} {K : PySem.W.Frag} {mg : Str → Option Value} {base : Heap} {k n : Nat} {x y f : Str} {tab : DT} {fs : FSem}
theorem DdA.mono {j : Nat} (h : DdA P w K mg base j x tab) (hj : j ≤ k) : DdA P w K mg base k x tab := by
  obtain ⟨p, h1, h2⟩ := h.ex
  exact ⟨p, h1, fun q hq => by
    obtain ⟨f, e1, e2, e3⟩ := h2 q hq
    exact ⟨f, e1, e2, e3.mono hj⟩⟩
end
end Fk
set_option Elab.async false
set_option linter.all false
set_option maxRecDepth 100000
set_option maxHeartbeats 2000000
namespace Fk
open PySem PySem.Spec PyProof.Rows L2
section
structure FnGZ (P : Program) (w : World) (K : PySem.W.Frag) (mg : Str → Option Value) (base : Heap) (k : Nat) (f : Addr) (fd : FuncData) (ps : List Str) (sp : Sp) : Prop where
  len : ∀ vs H Q E, sp vs H Q E → vs.length = ps.length
  run : ∀ (A : Around) (outer : List PySem.Env) (s : Shared) (H : Hp) (args : Args) (us : List Value) (vs : List V) (Q : VK) (E : XK), A.guards = some [] → Room k A → Env0 P w K mg base A outer s H → BindsTo s fd args (ps.zip us) → Vals vs us → sp vs H Q E →
    codeAny (model P w) A (.call (.ref f) args) (CR (L2.CX P w) outer P w H s Q E) s
end
section
theorem FnGZ.mono {P : Program} {w : World} {K : PySem.W.Frag} {mg : Str → Option Value} {base : Heap} {j k : Nat} {f : Addr} {fd : FuncData} {ps : List Str} {sp : Sp} (F : FnGZ P w K mg base j f fd ps sp) (h : j ≤ k) : FnGZ P w K mg base k f fd ps sp :=
  ⟨F.len, fun A outer s H args us vs Q E hg hr => F.run A outer s H args us vs Q E hg (hr.mono h)⟩
end
section
end
section
end
section
end
section
structure FnBZ (P : Program) (w : World) (K : PySem.W.Frag) (mg : Str → Option Value) (base : Heap) (k : Nat) (g : Addr) (n : Nat) (f : FSem) : Prop where
  run : ∀ (A : Around) (outer : List PySem.Env) (s : Shared) (H : Hp) (us : List Value) (vs : List V) (Q : VK) (E : XK), A.guards = some [] → Room k A → Env0 P w K mg base A outer s H → K.In s.heap → Vals vs us → spD K mg n f vs H Q E →
    codeAny (model P w) A (.call (.ref g) ⟨us, []⟩) (CR (L2.CX P w) outer P w H s Q E) s
end
section
end
section
end
section
theorem FnBZ.mono {P : Program} {w : World} {K : PySem.W.Frag} {mg : Str → Option Value} {base : Heap} {j k n : Nat} {g : Addr} {f : FSem} (h : FnBZ P w K mg base j g n f) (hj : j ≤ k) : FnBZ P w K mg base k g n f :=
  ⟨fun A outer s H us vs Q E hG hr => h.run A outer s H us vs Q E hG (hr.mono hj)⟩
end
section
structure MtOZ (P : Program) (w : World) (K : PySem.W.Frag) (mg : Str → Option Value) (base : Heap) (m : Str) (n k : Nat) (c : Str) (f : FSem) : Prop where
  ex : ∃ C g, mg c = some (.ref C) ∧ Cls K C ∧ Meth K C m g ∧ PySem.W.fnIn K g = true ∧ FnBZ P w K mg base k g n f
end
section
end
section
end
section
end
section
end
section
variable {P : Program} {w : World} {K : PySem.W.Frag} {mg : Str → Option Value} {base : Heap} {m : Str} {n k j : Nat} {c : Str} {f : FSem} {mt : MT}
theorem MtOZ.mono (h : MtOZ P w K mg base m n j c f) (hj : j ≤ k) : MtOZ P w K mg base m n k c f := by
  obtain ⟨C, g, h1, h2, h3, h4, h5⟩ := h.ex
  exact ⟨C, g, h1, h2, h3, h4, h5.mono hj⟩
end
section
end
section
end
section
end
section
end
section
end
section
end
section
end
section
end
end Fk
set_option Elab.async false
set_option linter.all false
set_option maxRecDepth 100000
set_option maxHeartbeats 2000000
namespace Fk
open PySem PySem.Spec PyProof.Rows L2
def sStuck : SemS := fun _ _ => .stuck
@[simp] theorem wp_sStuck {ρ : Env} {S : Store} {k : KS} : (sStuck ρ S).wp k ↔ False := ⟨fun h => h.run, False.elim⟩
section
end
def noE : OutS → OutS
  | .exc _ _ _ _ => .stuck
  | o => o
def sTryZ (tbl : XTbl) (b : SemS) (hds : List (Str × Option Nat × SemS)) : SemS := fun ρ S => match b ρ S with
  | .exc c fs ρ1 S1 => (match tbl.at c with
    | some anc => noE (goH c fs anc hds ρ1 S1)
    | none => .stuck)
  | o => o
section
end
section
end
def sFin (b f : SemS) : SemS := fun ρ S => match b ρ S with
  | .nx ρ1 S1 => (match f ρ1 S1 with
    | .nx ρ2 S2 => .nx ρ2 S2
    | _ => .stuck)
  | .exc c fs ρ1 S1 => (match f ρ1 S1 with
    | .nx ρ2 S2 => .exc c fs ρ2 S2
    | _ => .stuck)
  | _ => .stuck
section
end
section
end
def sTryR (tbl : XTbl) (x : Str) (b : SemS) (c' fl : Str) (fe : SemE) : SemS := fun ρ S => match b ρ S with
  | .exc c fs ρ1 S1 => (match tbl.at c with
    | some anc => if anc.contains x then (match fe ρ1 S1 with
      | .ok d S2 => .exc c' [(fl, d)] ρ1 S2
      | _ => .stuck) else .stuck
    | none => .stuck)
  | o => o
section
end
end Fk
set_option Elab.async false
set_option linter.all false
set_option maxRecDepth 100000
set_option maxHeartbeats 2000000
namespace Fk
open PySem PySem.Spec PyProof.Rows L2
section
end
section
end
section
variable {ρ : Env} {S : Store} {k : KS} {tbl : XTbl}
def kNx (q : Env → Store → Prop) : KS := ⟨q, fun _ _ => False, fun _ _ => False, fun _ _ => False, fun _ _ _ _ => False⟩
@[simp] theorem kNx_nx (q : Env → Store → Prop) : (kNx q).nx = q := rfl
@[simp] theorem kNx_rt (q : Env → Store → Prop) (d : D) : (kNx q).rt d S = False := rfl
@[simp] theorem kNx_bk (q : Env → Store → Prop) : (kNx q).bk ρ S = False := rfl
@[simp] theorem kNx_ct (q : Env → Store → Prop) : (kNx q).ct ρ S = False := rfl
@[simp] theorem kNx_ex (q : Env → Store → Prop) (c : Str) (fs : List (Str × D)) : (kNx q).ex c fs ρ S = False := rfl
def kFin (f : SemS) (k : KS) : KS := ⟨fun ρ S => (f ρ S).wp (kNx k.nx), fun _ _ => False, fun _ _ => False, fun _ _ => False, fun c fs ρ S => (f ρ S).wp (kNx (k.ex c fs))⟩
@[simp] theorem kFin_nx (f : SemS) : (kFin f k).nx ρ S = (f ρ S).wp (kNx k.nx) := rfl
@[simp] theorem kFin_rt (f : SemS) (d : D) : (kFin f k).rt d S = False := rfl
@[simp] theorem kFin_bk (f : SemS) : (kFin f k).bk ρ S = False := rfl
@[simp] theorem kFin_ct (f : SemS) : (kFin f k).ct ρ S = False := rfl
@[simp] theorem kFin_ex (f : SemS) (c : Str) (fs : List (Str × D)) : (kFin f k).ex c fs ρ S = (f ρ S).wp (kNx (k.ex c fs)) := rfl
@[simp] theorem wp_sFin (b f : SemS) : (sFin b f ρ S).wp k = (b ρ S).wp (kFin f k) := by
  unfold sFin
  cases b ρ S with
  | nx ρ1 S1 => cases h : f ρ1 S1 <;> simp [h]
  | exc c fs ρ1 S1 => cases h : f ρ1 S1 <;> simp [h]
  | _ => simp
def kTryZ (tbl : XTbl) (hds : List (Str × Option Nat × SemS)) (k : KS) : KS := { k with ex := fun c fs ρ S => ∃ anc, tbl.at c = some anc ∧ (goH c fs anc hds ρ S).wp { k with ex := fun _ _ _ _ => False } }
@[simp] theorem kTryZ_nx (hds : List (Str × Option Nat × SemS)) : (kTryZ tbl hds k).nx = k.nx := rfl
@[simp] theorem kTryZ_rt (hds : List (Str × Option Nat × SemS)) : (kTryZ tbl hds k).rt = k.rt := rfl
@[simp] theorem kTryZ_bk (hds : List (Str × Option Nat × SemS)) : (kTryZ tbl hds k).bk = k.bk := rfl
@[simp] theorem kTryZ_ct (hds : List (Str × Option Nat × SemS)) : (kTryZ tbl hds k).ct = k.ct := rfl
@[simp] theorem kTryZ_ex (hds : List (Str × Option Nat × SemS)) (c : Str) (fs : List (Str × D)) : (kTryZ tbl hds k).ex c fs ρ S = ∃ anc, tbl.at c = some anc ∧ (goH c fs anc hds ρ S).wp { k with ex := fun _ _ _ _ => False } := rfl
theorem wp_noE (o : OutS) : (noE o).wp k = o.wp { k with ex := fun _ _ _ _ => False } := by
  cases o <;> simp [noE]
@[simp] theorem wp_sTryZ (b : SemS) (hds : List (Str × Option Nat × SemS)) : (sTryZ tbl b hds ρ S).wp k = (b ρ S).wp (kTryZ tbl hds k) := by
  unfold sTryZ
  cases b ρ S with
  | exc c fs ρ1 S1 => cases h : tbl.at c <;> simp [h, wp_noE]
  | _ => simp
def kTryR (tbl : XTbl) (x c' fl : Str) (fe : SemE) (k : KS) : KS := { k with ex := fun c _ ρ S => ∃ anc, tbl.at c = some anc ∧ anc.contains x = true ∧ (fe ρ S).wp (fun d S2 => k.ex c' [(fl, d)] ρ S2) eNo }
@[simp] theorem kTryR_nx (x c' fl : Str) (fe : SemE) : (kTryR tbl x c' fl fe k).nx = k.nx := rfl
@[simp] theorem kTryR_rt (x c' fl : Str) (fe : SemE) : (kTryR tbl x c' fl fe k).rt = k.rt := rfl
@[simp] theorem kTryR_bk (x c' fl : Str) (fe : SemE) : (kTryR tbl x c' fl fe k).bk = k.bk := rfl
@[simp] theorem kTryR_ct (x c' fl : Str) (fe : SemE) : (kTryR tbl x c' fl fe k).ct = k.ct := rfl
@[simp] theorem kTryR_ex (x c' fl : Str) (fe : SemE) (c : Str) (fs : List (Str × D)) : (kTryR tbl x c' fl fe k).ex c fs ρ S = ∃ anc, tbl.at c = some anc ∧ anc.contains x = true ∧ (fe ρ S).wp (fun d S2 => k.ex c' [(fl, d)] ρ S2) eNo := rfl
@[simp] theorem wp_sTryR (x c' fl : Str) (b : SemS) (fe : SemE) : (sTryR tbl x b c' fl fe ρ S).wp k = (b ρ S).wp (kTryR tbl x c' fl fe k) := by
  unfold sTryR
  cases b ρ S with
  | exc c fs ρ1 S1 =>
    cases h : tbl.at c with
    | none => simp [h]
    | some anc =>
      by_cases h2 : x ∈ anc
      · cases h3 : fe ρ1 S1 <;> simp [h, h2, h3]
      · simp [h, h2]
  | _ => simp
end
end Fk
set_option Elab.async false
set_option linter.all false
set_option maxRecDepth 100000
set_option maxHeartbeats 2000000
namespace Fk
open PySem PySem.Spec PyProof.Rows L2
section
variable {X : Cx} {W : WX} {k : Nat} {e : Expr}
theorem pe_mkx {t : L2.St → Hp → XK → Prop} (he : L2N.PMk X e t) : PE X e (fun σ H Q => t σ H fun cls d H' => ∃ C, cls = .ref C ∧ ∀ a, H' a = none → Q (.ref a) (upd H' a (xo a C d))) := by
  refine ⟨fun pins s σ H Q I h => wpAny_mono (he pins s σ H _ I h) (fun u s' hu => ?_) fun _ _ z => z⟩
  obtain ⟨a, oe, vs, sI, H', cls, d, rfl, J, kk, hne, ha, hz, hd, h1, na, os, ag, r, C, rfl, q⟩ := hu
  have J2 := J.laidN (h' := s'.heap) (a := a) (o := xo a C d) (t' := s'.toks) kk hne na (xo_ok ha hz.1 hz.2.1 hd)
  exact ⟨.ref a, _, ⟨J2.ok, os.trans J2.os, ag, J2.base, J2.loc, J2.cell, J2.free, J2.freeC, J2.pin, J2.hok, J2.len⟩, rfl, q a na⟩
/-- C(e, ..), not raised -/
def eMkX (c : Str) (fl : List Str) (fa : SemA) : SemE := fun ρ S => (fa ρ S).bind fun ds S1 => if ds.length = fl.length then .ok (.exn c fl ds) S1 else .stuck
variable {x f : Str} {p pos : Pos} {fe : SemE}
theorem xe_mk0 (T : TblOk X.K X.mg frTbl) (E0 : Exc0 X.K X.mg x) (hg : Gl X x) (hx : (frTbl.at x).isSome = true := by decide) (hdb : (x == ("__debug__" : Str)) = false := by decide) : XE X W (.Call (.Name x p) [] [] pos) (eMkX x [] aNil) := by
  obtain ⟨C, hm, hE, hk, h1, h2⟩ := E0.ex
  have mk : L2N.PMk X (.Call (.Name x p) [] [] pos) (fun _ H Q => Q (.ref C) none H) := by
    intro pins s σ H Q I h
    refine wpAny_Call_Name_kw (ld_glob I hg hm ?_ hdb)
    refine PySem.W.callWith_K0 I.kIn hk ?_
    show wpAny _ _ (call (.ref C) []) _ _ _
    obtain ⟨bm, N, nm, qn, bs, hdct, sn, sub, ab, col, dd, k0, k1, k2, k3, k5, mN, hC, hN, hni, T⟩ := exc_obj I.kIn hE
    refine wpAny_call_exc_subT F.excBase_ValueError T hC hN hni (fun h' e hm => ?_) (Nat.zero_le _)
    exact L2N.mk_of I hm (raises_own h1 h2) h (I.hok.gone hm.new)
  refine peI (pe_mkx mk) fun σ H Q h => ?_
  obtain ⟨F, ι, ρ, S, s, r, q⟩ := h
  have q : Post ⟨X.K, X.mg, W⟩ (RV' X.K) F ι H σ (.ok (.exn x [] []) S) Q := q
  obtain ⟨anc, ha⟩ := Option.isSome_iff_exists.mp hx
  have hC := T.ok _ (XTbl.at_mem ha) C hm
  refine ⟨C, rfl, fun a na => ?_⟩
  obtain ⟨x1, s1⟩ := s.frozen (o := xo a C none) na
  exact q _ ι _ _ x1 s1 (.exn0 upd_same hC)
theorem exn_made {a C dx : Addr} {F H : Hp} {ι : List Addr} {S : Store} {fv : List (Str × V)} {ds : List D} {Q : VK} {σ : L2.St} (s : Sim X.K X.mg F ι S H) (hdx : H dx = none) (na : upd H dx (.xd fv) a = none) (hC : PySem.W.nsIn X.K mainGlobals x = some (some (.ref C))) (r : RelAll X.K F ι (fv.map (·.2)) ds)
    (q : Post ⟨X.K, X.mg, W⟩ (RV' X.K) F ι H σ (.ok (.exn x (fv.map (·.1)) ds) S) Q) : Q (.ref a) (upd (upd H dx (.xd fv)) a (xo a C (some dx))) := by
  obtain ⟨x1, s1⟩ := s.frozen (o := .xd fv) hdx
  obtain ⟨x2, s2⟩ := s1.frozen (o := xo a C (some dx)) na
  have ne : dx ≠ a := fun z => by
    subst z
    rw [upd_same] at na
    cases na
  exact q _ ι _ _ (x1.trans x2) s2 (.exn (fv := fv) upd_same hC (by rw [upd_ne ne]; exact upd_same) rfl ((r.mono x1).mono x2))
theorem del_mk {H1 : Hp} {a dx : Addr} {o1 : HO} {o2 o3 : HO} {o4 : HO} (h1 : H1 dx = none) (h2 : dx ≠ a) (na : H1 a = none) : upd (del (upd (upd (upd H1 a o1) dx o2) a o3) a) dx o4 = upd H1 dx o4 := by
  funext b
  by_cases hb1 : b = dx
  · subst hb1; rw [upd_same, upd_same]
  · rw [upd_ne hb1, upd_ne hb1]
    by_cases hb2 : b = a
    · subst hb2; rw [del_same, na]
    · rw [del_ne hb2, upd_ne hb2, upd_ne hb1, upd_ne hb2]
theorem xe_mk1 (c : CxE X W k) (hk : 2 ≤ k) (T : TblOk X.K X.mg frTbl) (E1 : Exc1 X.prog X.w X.K X.mg X.base x f) (hg : Gl X x) (ha : XE X W e fe) (hx : (frTbl.at x).isSome = true := by decide) (hdb : (x == ("__debug__" : Str)) = false := by decide)
    (he : starEach [e] X.env = (false, eval e X.env) :: starEach [] X.env := by rfl) (hpl : (backTo pos (starEach [] X.env)).any (·.1) = false := by rfl) : XE X W (.Call (.Name x p) [e] [] pos) (eMkX x [f] (aCons fe aNil)) := by
  obtain ⟨C, fI, fd, hm, TC, hno, iC, tI, F1, hb⟩ := E1.ex
  obtain ⟨anc, hanc⟩ := Option.isSome_iff_exists.mp hx
  have hC := T.ok _ (XTbl.at_mem hanc) C hm
  refine peI (pe_mkx (pmk_oexN (dvs := []) (ds := []) TC iC tI F1 (c.room.mono hk) hb .nil (L2N.passes_call c.tk fun _ _ _ _ z => z.elim) hg hm (xa_cons ha xa_nil he) hdb he hpl)) fun σ H Q h => ?_
  obtain ⟨F, ι, ρ, S, s, r, q⟩ := h
  refine ⟨F, ι, ρ, S, s, r, post_bind (R := RA' X.K) q fun ds S1 F1 ι1 vs H1 x1 s1 rv q1 => ?_⟩
  have rv : RelAll X.K F1 ι1 vs ds := rv
  split at q1
  · next hl =>
    have hl : ds.length = 1 := hl
    match ds, rv, hl with
    | [d], .cons (v := v) rd .nil, _ =>
      refine ⟨by simp, fun a na => ⟨a, C, v, rfl, TC, hno, upd_same, fun dx h1 h2 => ?_⟩⟩
      rw [upd_ne h2] at h1
      refine ⟨rfl, dx, [(f, v)], upd_same, by rw [upd_ne h2, upd_same], h1, ?_⟩
      rw [del_mk h1 h2 na]
      exact ⟨C, rfl, fun a' na' => exn_made (x := x) s1 h1 na' hC (.cons rd .nil) q1⟩
  · exact q1.elim
/-- an own exception class with two fields -/
def spI2 (K : PySem.W.Frag) (f g : Str) : Sp := fun vs H Q _ => ∃ (a C : Addr) (v w : V), vs = [.ref a, v, w] ∧ OexC K C ∧ PySem.W.findIn K (.ref C) f = some none ∧ PySem.W.findIn K (.ref C) g = some none ∧ H a = some (exo a C none) ∧
  ∀ d, H d = none → d ≠ a → Q .non (upd (upd (upd H d (exd d [(f, v)])) a (exo a C (some d))) d (exd d [(g, w), (f, v)]))
structure Exc2 (P : Program) (w : World) (K : PySem.W.Frag) (mg : Str → Option Value) (base : Heap) (x f g : Str) : Prop where
  ex : ∃ (C fI : Addr) (fd : FuncData), mg x = some (.ref C) ∧ OexC K C ∧ PySem.W.findIn K (.ref C) f = some none ∧ PySem.W.findIn K (.ref C) g = some none ∧ PySem.W.findIn K (.ref C) "__init__" = some (some (.ref fI)) ∧ PySem.W.typeIn K (.ref fI) = some (.type "function") ∧
    FnOk P w K mg base (L2N.CX P w) 1 fI fd ["self", f, g] (spI2 K f g) ∧ Binds K fd ["self", f, g] []
end
section
variable {P : Program} {w : World} {K : PySem.W.Frag} {mg : Str → Option Value} {base : Heap} {qual f g : Str} {params : Arguments} {scope : Scope} {fI : Addr} {fd : FuncData} {q1 q2 q3 q4 r1 r2 r3 r4 : Pos}
theorem init2 (F : FunD K "__init__" qual params [.Assign [.Attribute (.Name "self" q1) f q2] (.Name f q3) q4, .Assign [.Attribute (.Name "self" r1) g r2] (.Name g r3) r4] scope [] [] fI fd) (S : FnScope ["self", f, g] ["self", f, g] scope) (hvs : scope.names.lookup ("self" : Str) = some .local) (hvf : scope.names.lookup f = some .local) (hvg : scope.names.lookup g = some .local)
    (hd : (f == ("__debug__" : Str)) = false) (hcd : (f == ("__classdict__" : Str)) = false) (hd2 : (g == ("__debug__" : Str)) = false) (hcd2 : (g == ("__classdict__" : Str)) = false) : FnOk P w K mg base (L2N.CX P w) 1 fI fd ["self", f, g] (spI2 K f g) := by
  obtain ⟨oc, od, dV, kV, doc, pm, an, cdv, ct, osl, rfl, lk, hcdv, _, _⟩ := F.ex
  refine fn_of lk hcdv S (fun vs H Q E ⟨a, C, v, w, e, _⟩ => by rw [e]; rfl) fun A outer s H vs Q E hr hsp => ?_
  obtain ⟨a, C, v, w0, rfl, T, hno, hno2, ha, q⟩ := hsp
  refine ⟨_, pss_cons (ps_ost (pv 0 (hv := .inl hvs)) (pv 1 (hv := .inl hvf) (hd := hd) (hcd := hcd))) (pss_one (ps_ost (pv 0 (hv := .inl hvs)) (pv 2 (hv := .inl hvg) (hd := hd2) (hcd := hcd2)))), ?_⟩
  refine ⟨v, rfl, .ref a, rfl, a, C, rfl, T, hno, .inl ⟨ha, fun dx h1 h2 => ?_⟩⟩
  refine ⟨w0, rfl, .ref a, rfl, a, C, rfl, T, hno2, .inr ⟨dx, [(f, v)], upd_same, by rw [upd_ne h2, upd_same], by simp, q dx h1 h2⟩⟩
end
def eMkX2 (c f g : Str) (fa : SemA) : SemE := fun ρ S => (fa ρ S).bind fun ds S1 => match ds with
  | [d, d2] => .ok (.exn c [g, f] [d2, d]) S1
  | _ => .stuck
theorem del_mk2 {H1 : Hp} {a dx : Addr} {o1 o2 o3 o4 o5 : HO} (h1 : H1 dx = none) (h2 : dx ≠ a) (na : H1 a = none) : upd (del (upd (upd (upd (upd H1 a o1) dx o2) a o3) dx o5) a) dx o4 = upd H1 dx o4 := by
  funext b
  by_cases hb1 : b = dx
  · subst hb1; rw [upd_same, upd_same]
  · rw [upd_ne hb1, upd_ne hb1]
    by_cases hb2 : b = a
    · subst hb2; rw [del_same, na]
    · rw [del_ne hb2, upd_ne hb1, upd_ne hb2, upd_ne hb1, upd_ne hb2]
section
variable {X : Cx} {W : WX} {k : Nat} {x f g : Str} {p pos : Pos} {e e2 : Expr} {fe fe2 : SemE}
theorem xe_mk2 (c : CxE X W k) (hk : 2 ≤ k) (T : TblOk X.K X.mg frTbl) (E1 : Exc2 X.prog X.w X.K X.mg X.base x f g) (hg : Gl X x) (ha : XA X W [e, e2] (aCons fe (aCons fe2 aNil))) (hx : (frTbl.at x).isSome = true := by decide) (hdb : (x == ("__debug__" : Str)) = false := by decide)
    (he : starEach [e, e2] X.env = (false, eval e X.env) :: starEach [e2] X.env := by rfl) (hpl : (backTo pos (starEach [e2] X.env)).any (·.1) = false := by rfl) : XE X W (.Call (.Name x p) [e, e2] [] pos) (eMkX2 x f g (aCons fe (aCons fe2 aNil))) := by
  obtain ⟨C, fI, fd, hm, TC, hno, hno2, iC, tI, F1, hb⟩ := E1.ex
  obtain ⟨anc, hanc⟩ := Option.isSome_iff_exists.mp hx
  have hC := T.ok _ (XTbl.at_mem hanc) C hm
  refine peI (pe_mkx (pmk_oexN (dvs := []) (ds := []) TC iC tI F1 (c.room.mono hk) hb .nil (L2N.passes_call c.tk fun _ _ _ _ z => z.elim) hg hm ha hdb he hpl)) fun σ H Q h => ?_
  obtain ⟨F, ι, ρ, S, s, r, q⟩ := h
  refine ⟨F, ι, ρ, S, s, r, post_bind (R := RA' X.K) q fun ds S1 F1 ι1 vs H1 x1 s1 rv q1 => ?_⟩
  have rv : RelAll X.K F1 ι1 vs ds := rv
  unfold eMkX2 at q
  split at q1
  · next d d2 =>
    match vs, rv with
    | [v, v2], .cons rd (.cons rd2 .nil) =>
      refine ⟨by simp, fun a na => ⟨a, C, v, v2, rfl, TC, hno, hno2, upd_same, fun dx h1 h2 => ?_⟩⟩
      rw [upd_ne h2] at h1
      refine ⟨rfl, dx, [(g, v2), (f, v)], by rw [upd_ne (Ne.symm h2), upd_same], upd_same, h1, ?_⟩
      rw [del_mk2 h1 h2 na]
      exact ⟨C, rfl, fun a' na' => exn_made (x := x) s1 h1 na' hC (.cons rd2 (.cons rd .nil)) q1⟩
  · exact q1.elim
theorem exc2_of {P : Program} {w : World} {K : PySem.W.Frag} {mg : Str → Option Value} {base : Heap} {c f g : Str} {fI : Addr} {fd : FuncData} (hm : mg c = some (.ref (He.ga K c))) (h : (Xc.oex c f).ok K = true) (h' : (Xc.oex c g).ok K = true) (e : fI = He.ma K (He.ga K c) "__init__") (F : FnOk P w K mg base (L2N.CX P w) 1 fI fd ["self", f, g] (spI2 K f g)) (hb : Binds K fd ["self", f, g] []) : Exc2 P w K mg base c f g := by
  subst e
  obtain ⟨h1, h2, h3, h4⟩ := oex_ok h
  obtain ⟨_, k2, _, _⟩ := oex_ok h'
  exact ⟨_, _, fd, hm, h1, h2, k2, h3, h4, F, hb⟩
def opIsV (tbl : XTbl) : D → Store → Option D := fun d _ => match d with
  | .exn c _ _ => (tbl.at c).map fun _ => .bl true
  | _ => none
structure IsVe (K : PySem.W.Frag) (tbl : XTbl) : Prop where
  ex : ∀ q ∈ tbl, ∀ C, PySem.W.nsIn K mainGlobals q.1 = some (some (.ref C)) → ExcC K C ∧ PySem.W.kitOne K (.ref C) (.type "ValueError") = some true
theorem xe_isV {a : Expr} {tbl : XTbl} {p1 p2 : Pos} (T : IsVe X.K tbl) (ha : XE X W a fe) (hg : Gl X "isinstance") (hm : X.mg "isinstance" = none) (hg2 : Gl X "ValueError") (hm2 : X.mg "ValueError" = none)
    (hs : starEach [a, .Name "ValueError" p2] X.env = (false, eval a X.env) :: starEach [.Name "ValueError" p2] X.env := by rfl) (hs2 : starEach [.Name "ValueError" p2] X.env = (false, eval (.Name "ValueError" p2) X.env) :: starEach [] X.env := by rfl) (hpl : (backTo pos (starEach [.Name "ValueError" p2] X.env)).any (·.1) = false := by rfl) :
    XE X W (.Call (.Name "isinstance" p1) [a, .Name "ValueError" p2] [] pos) (eUn (opIsV tbl) fe) := by
  refine peI (pe_callB call_isX hg hm (by decide +kernel) (pa_cons ha (pa_cons (pe_bltn (v := .ty "ValueError") (u := .type "ValueError") hg2 hm2 (by decide +kernel) rfl) pa_nil hs2) hs) (by decide) (by decide) hs hpl) fun σ H Q h => ?_
  obtain ⟨F, ι, ρ, S, s, r, q⟩ := h
  refine ⟨F, ι, ρ, S, s, r, post_bind (R := RV' X.K) q fun x S1 F1 ι1 v H1 x1 s1 rv q1 => ?_⟩
  obtain ⟨z, hz, q3⟩ := post_lift q1
  have rv : Rel X.K F1 ι1 v x := rv
  cases x with
  | exn c ns ds =>
    have hz : ((tbl.at c).map fun _ => D.bl true) = some z := hz
    obtain ⟨anc, h1, rfl⟩ := Option.map_eq_some_iff.mp hz
    have hmem := XTbl.at_mem h1
    have hq := q3 F1 ι1 _ H1 (Step.refl _ _ _) s1 (.bl true)
    cases rv with
    | @exn0 a C _ g1 g2 =>
      obtain ⟨k1, k2⟩ := T.ex _ hmem C g2
      exact ⟨a, C, none, .ty "ValueError", .type "ValueError", _, rfl, fun u hu => hu, s1.sub _ _ g1, .inl rfl, k1, k2, hq⟩
    | @exn a C dx _ fv _ _ g1 g2 g3 g4 g5 =>
      obtain ⟨k1, k2⟩ := T.ex _ hmem C g2
      exact ⟨a, C, some dx, .ty "ValueError", .type "ValueError", _, rfl, fun u hu => hu, s1.sub _ _ g1, .inr ⟨dx, fv, rfl, s1.sub _ _ g3⟩, k1, k2, hq⟩
  | _ => cases hz
end
def cntD (d e : D) (S : Store) : Option Nat := match dr S d with
  | .lst xs => (datAll xs).bind fun ys => (dat (dr S e)).bind fun a => if SeqAt.shaped a && SeqAt.shaped (.list ys) then some (ys.countP fun z => PyData.eqv z a) else none
  | _ => none
def opCount : D → D → Store → Option D := fun d e S => (cntD d e S).map fun j => .int (j : Nat)
def eCnt (f g : SemE) : SemE := fun ρ S => (f ρ S).bind fun x S1 => if isL S1 x then (g ρ S1).bind fun y S2 => lift (opCount x y S2) S2 else .stuck
def rCnt (K : PySem.W.Frag) (mg : Str → Option Value) : V → List V → Hp → VK → Prop := fun x xs H Q => ∃ F ι S d e y j, Sim K mg F ι S H ∧ Rel K F ι x d ∧ xs = [y] ∧ Rel K F ι y e ∧ cntD d e S = some j ∧ Q (.int (j : Nat)) H
section
variable {X : Cx} {W : WX}
theorem mt_cnt (hu : X.A.units + 65 < cLine) : MtR X "list.count" (rCnt X.K X.mg) := by
  intro pins s σ H x xs v us Q I rx rxs h
  obtain ⟨F, ι, S, d, e, y, j, sm, rd, rfl, re, hj, q⟩ := h
  unfold cntD at hj
  split at hj
  · next xs h1 =>
    obtain ⟨ds, hds, hj⟩ := Option.bind_eq_some_iff.mp hj
    obtain ⟨da, hda, hj⟩ := Option.bind_eq_some_iff.mp hj
    split at hj
    · next hz =>
      obtain ⟨z1, z2⟩ := Bool.and_eq_true_iff.mp hz
      have hj := Option.some.inj hj
      subst hj
      obtain ⟨a, vs, rfl, e1, r1⟩ := at_lst sm rd h1
      cases rx
      cases rxs with
      | cons ry rt =>
        rename_i uy ut
        cases rt
        obtain ⟨bs, rr, _⟩ := reads_dr I sm re ry hda
        obtain ⟨its, rv, ⟨⟨cls, dd, data, sls⟩, n, ho, hc, hdn, hdt⟩, hlen⟩ := I.list (SqL.of e1)
        simp only at hc hdt
        subst hc hdt
        obtain ⟨as, h4, _⟩ := reads_all I sm.sub r1 rv hds
        have hxs : PyData.canLayAll0 ds = true := by simpa [PyData.canLay0] using SeqAt.canLay_of_shaped z2
        have hmap : its.map (SeqAt.readOf s.heap) = ds := SeqAt.readsAll_map ds its as hxs h4
        refine call_meets PySem.F.slot_list_count ⟨_, ho, rfl⟩ PySem.F.entry_list_count (PySem.F.args_list_count_2 _ _)
          (SeqAt.list_countAt a its.toArray n dd sls uy (fun u => PyData.eqv (SeqAt.readOf s.heap u) da)) ⟨ho, SeqAt.items_eqAt (vs := its.toArray) (show ReadsAll s.heap its.toArray.toList ds as from h4) rr hxs (SeqAt.canLay_of_shaped z1) (room_in_shaped z1 hu), ?_⟩
        have ec : its.countP (fun u => PyData.eqv (SeqAt.readOf s.heap u) da) = ds.countP fun z => PyData.eqv z da := by
          rw [← hmap, List.countP_map]
          rfl
        have ec' : its.toArray.toList.countP (fun u => PyData.eqv (SeqAt.readOf s.heap u) da) = ds.countP fun z => PyData.eqv z da := by simpa using ec
        exact ⟨.int ((ds.countP fun z => PyData.eqv z da : Nat) : Int), H, I.tok _, ⟨s.toks, by rw [ec']⟩, q⟩
    · cases hj
  · cases hj
theorem xe_count {o e : Expr} {f g : SemE} {apos cpos : Pos} (hu : X.A.units + 65 < cLine) (ho : XE X W o f) (he : XE X W e g) (hbase : attributeBase o "count" X.env (eval o X.env) = eval o X.env := by rfl)
    (hfew : ((backTo cpos (starEach [e] X.env)).all (fun x => !x.1) && (backToKw cpos (keywordEach [] X.env)).all (fun x => x.1.isSome) && decide ([e].length + ([] : List Keyword).length + (if ([] : List Keyword).isEmpty then 0 else 1) < 30)) = true := by rfl)
    (hline : (apos.endLine == cpos.line) = true := by rfl) (hs : starEach [e] X.env = (false, eval e X.env) :: starEach [] X.env := by rfl) (hpl : (backTo cpos (starEach [] X.env)).any (·.1) = false := by rfl) :
    XE X W (.Call (.Attribute o "count" apos) [e] [] cpos) (eCnt f g) := by
  refine peI (pe_bm PySem.F.plainAttrs_list PySem.F.slot_list_count PySem.F.type_list_count (mt_cnt hu) ho (pa_cons he pa_nil hs) hbase hfew hline hs hpl) fun σ H Q h => ?_
  obtain ⟨F, ι, ρ, S, sm, r, q⟩ := h
  refine ⟨F, ι, ρ, S, sm, r, post_bind (R := RV' X.K) q fun x S1 F1 ι1 v H1 x1 s1 rv q1 => ?_⟩
  obtain ⟨hL, q1⟩ := ite_stuck q1
  refine ⟨isL_ty s1 rv hL, F1, ι1, ρ, S1, s1, r.mono x1, post_bind (R := RV' X.K) q1 fun y S2 F2 ι2 u H2 x2 s2 ru q2 => ?_⟩
  obtain ⟨z, hz, q3⟩ := post_lift q2
  obtain ⟨j, hj, rfl⟩ := Option.map_eq_some_iff.mp hz
  exact ⟨F2, ι2, S2, x, y, u, j, s2, Rel.mono x2 rv, rfl, ru, hj, q3 F2 ι2 _ H2 (Step.refl _ _ _) s2 (.int _)⟩
def datR (S : Store) : List D → Option (List PyData)
  | [] => some []
  | d :: ds => (dat (dr S d)).bind fun x => (datR S ds).map (x :: ·)
theorem reads_allR {pins : List (Addr × Obj)} {σ : L2.St} {H : Hp} {s : Shared} {F : Hp} {ι : List Addr} {S : Store} (I : Inv X pins σ H s) (sm : Sim X.K X.mg F ι S H) : ∀ {ds : List D} {vs : List V} {us : List Value} {ys : List PyData}, RelAll X.K F ι vs ds → Vals vs us → datR S ds = some ys →
    ∃ as, ReadsAll s.heap us ys as ∧ ∀ b ∈ as, ∃ o, H b = some o ∨ K0 X b
  | [], _, _, ys, .nil, .nil, h => by
    simp only [datR, Option.some.injEq] at h
    subst h
    exact ⟨_, .nil, by simp⟩
  | d :: ds, _, _, ys, .cons r rr, .cons u uu, h => by
    simp only [datR, Option.bind_eq_some_iff, Option.map_eq_some_iff] at h
    obtain ⟨y, hy, zs, hz, rfl⟩ := h
    obtain ⟨as, h1, h2⟩ := reads_dr I sm r u hy
    obtain ⟨bs, k1, k2⟩ := reads_allR I sm rr uu hz
    exact ⟨_, .cons h1 k1, fun b hb => (List.mem_append.mp hb).elim (h2 b) (k2 b)⟩
def reprR : List D → Store → Option D
  | [.lst ds], S => (datR S ds).bind fun ys => if (PyData.list ys).showable && decide ((PyData.list ys).shown.length ≤ 16000000) && decide ((PyData.list ys).depth ≤ 60) then some (.str (PyData.list ys).shown) else none
  | _, _ => none
theorem cx_reprR (hg : X.A.guards = some []) (hu : X.A.units + 64 < cLine) (hm : SM X) : CallX X (.builtin "repr") reprR := by
  intro pins s σ H xs us Q I r h
  obtain ⟨F, ι, S, ds, a, sm, rd, ho, q⟩ := h
  unfold reprR at ho
  split at ho
  · next ds =>
    simp only [Option.bind_eq_some_iff] at ho
    obtain ⟨ys, h1, ho⟩ := ho
    split at ho
    · next hz =>
      cases ho
      obtain ⟨hz, z3⟩ := Bool.and_eq_true_iff.mp hz
      obtain ⟨z1, z2⟩ := Bool.and_eq_true_iff.mp hz
      have z3 := of_decide_eq_true z3
      cases rd with
      | @cons v1 _ _ _ rd1 rd2 =>
        cases rd2
        obtain ⟨u1, rfl, ru⟩ := vals1 r
        cases rd1 with
        | @lst a0 vs _ g1 g2 =>
          cases ru
          obtain ⟨its, rv, ⟨o, n, ho, hc, _, hd⟩, _⟩ := I.list (SqL.of (sm.sub _ _ g1))
          obtain ⟨as, rr, hb⟩ := reads_allR I sm g2 rv h1
          have fin : ∀ (h' : Heap) (t : Tok) (k : Nat), (∀ b o, s.heap.get? b = some o → h'.get? b = some o) → EP X pins σ Q (.str (PyData.list ys).shown t) { s with heap := h', toks := k } := fun h' t k hk =>
            ⟨.str (PyData.list ys).shown, H, I.kept hk, ⟨t, rfl⟩, q F ι _ H (Step.refl _ _ _) sm (.str _)⟩
          have hall : (PyData.list ys).hasDict = true → sysModules ∉ a0 :: as := fun _ hin => by
            rcases List.mem_cons.mp hin with rfl | hin
            · exact hm.out I (.inl (sm.sub _ _ g1)) rfl
            · obtain ⟨o, ho⟩ := hb _ hin
              exact hm.out I ho rfl
          exact repr_of_reads' (Reads.list ho hc hd rr) z1 hall hg (by omega) (fun b o e => e) (fun h' u tk hk => fin h' u tk hk) (long_le z2)
    · cases ho
  · cases ho
end
section
variable {X : Cx} {W : WX} {j k : Nat} {fs : FSem} {x : Str} {p pos : Pos}
theorem xe_fn0 (F : Fn X.prog X.w X.K X.mg X.base j x [] [] fs) (c : CxE X W k) (hj : j ≤ k) (hg : Gl X x) (hdb : (x == ("__debug__" : Str)) = false := by decide) : XE X W (.Call (.Name x p) [] [] pos) (eCall fs [] aNil) := by
  obtain ⟨f, fd, dvs, ds, hm, hk, hF, hb, hv, hd⟩ := F.ex
  refine ⟨fun pins s σ H Q I h => ?_⟩
  obtain ⟨F0, ι0, ρ, S, sm, r, q⟩ := h
  refine wpAny_Call_Name_kw (ld_glob I hg hm ?_ hdb)
  refine PySem.W.callWith_K0 I.kIn hk ?_
  have hdn := hd X.K F0 ι0
  cases hdn
  cases hv
  have hl2 : (([] : List Value) ++ []).length = ([] : List Str).length := rfl
  have key : spD X.K X.mg ([] : List Str).length fs [] H Q fun c d H' => W c d σ H' := by
    refine ⟨F0, ι0, [], S, sm, .nil, rfl, ?_⟩
    have q : Post ⟨X.K, X.mg, W⟩ (RV' X.K) F0 ι0 H σ (fs [] S) Q := q
    cases eo : fs [] S with
    | ok d S2 => rw [eo] at q; exact q
    | exc c fl S2 => rw [eo] at q; exact q
    | stuck => rw [eo] at q; exact q.elim
  refine wpAny_call (codeAny_mono ((hF.mono hj).run X.A X.stack s H ⟨[], []⟩ [] [] Q _ c.g c.room I.env0 (hb s [] I.kIn hl2) .nil key) fun r s' hq => ?_)
  cases r with
  | error ev => exact c.tk _ _ (L2N.XE.of_call I (fun _ _ _ h => h) hq)
  | ok fl =>
    cases fl with
    | ret u => exact I.after hq
    | next => exact False.elim hq
    | brk => exact False.elim hq
    | cont => exact False.elim hq
end
end Fk
set_option Elab.async false
set_option linter.all false
set_option maxRecDepth 100000
set_option maxHeartbeats 0
noncomputable section
namespace Sm
open PySem PySem.Spec PyProof.Rows L2 Fk
def g__law_bare : SemS :=
    (sSeq (sAsg 0 (frz (lDisp (aCons (eTup (aCons (eMkX "BadBatch" [] aNil) (aCons (eC (.int 1)) aNil))) (aCons (eTup (aCons (eMkX "Busy" [] aNil) (aCons (eC (.int 8)) aNil))) (aCons (eTup (aCons (eMkX "LastWord" [] aNil) (aCons (eC (.int 9)) aNil))) (aCons (eTup (aCons (eMkX "NothingToUndo" [] aNil) (aCons (eC (.int 13)) aNil))) (aCons (eTup (aCons (eMkX "TooFew" [] aNil) (aCons (eC (.int 17)) aNil))) aNil))))))))
    (sRet (eBin opAddA (eVar 0) (frz (lDisp (aCons (eTup (aCons (eMkX "TooGreat" [] aNil) (aCons (eC (.int 18)) aNil))) (aCons (eTup (aCons (eMkX "TooManyEdits" [] aNil) (aCons (eC (.int 20)) aNil))) (aCons (eTup (aCons (eMkX "Unlike" [] aNil) (aCons (eC (.int 21)) aNil))) aNil))))))))
def f__law_bare : FSem := fnD 1 g__law_bare
def g__law_single : SemS :=
    (sSeq (sAsg 1 (frz (lDisp (aCons (eTup (aCons (eMkX "BadAnswers" ["given"] (aCons (eVar 0) aNil)) (aCons (eC (.int 0)) aNil))) (aCons (eTup (aCons (eMkX "BadBelief" ["given"] (aCons (eVar 0) aNil)) (aCons (eC (.int 2)) aNil))) (aCons (eTup (aCons (eMkX "BadMark" ["given"] (aCons (eVar 0) aNil)) (aCons (eC (.int 3)) aNil))) (aCons (eTup (aCons (eMkX "BadMenu" ["error"] (aCons (eVar 0) aNil)) (aCons (eC (.int 4)) aNil))) aNil)))))))
    (sSeq (sAsg 1 (eBin opAddA (eVar 1) (frz (lDisp (aCons (eTup (aCons (eMkX "BadNumber" ["given"] (aCons (eVar 0) aNil)) (aCons (eC (.int 5)) aNil))) (aCons (eTup (aCons (eMkX "BadRow" ["given"] (aCons (eVar 0) aNil)) (aCons (eC (.int 6)) aNil))) (aCons (eTup (aCons (eMkX "BadText" ["given"] (aCons (eVar 0) aNil)) (aCons (eC (.int 7)) aNil))) (aCons (eTup (aCons (eMkX "NoAnswer" ["given"] (aCons (eVar 0) aNil)) (aCons (eC (.int 10)) aNil))) aNil))))))))
    (sSeq (sAsg 1 (eBin opAddA (eVar 1) (frz (lDisp (aCons (eTup (aCons (eMkX "NoCell" ["word"] (aCons (eVar 0) aNil)) (aCons (eC (.int 11)) aNil))) (aCons (eTup (aCons (eMkX "NoVersion" ["given"] (aCons (eVar 0) aNil)) (aCons (eC (.int 14)) aNil))) (aCons (eTup (aCons (eMkX "NoWord" ["given"] (aCons (eVar 0) aNil)) (aCons (eC (.int 15)) aNil))) (aCons (eTup (aCons (eMkX "Rejected" ["index"] (aCons (eVar 0) aNil)) (aCons (eC (.int 16)) aNil))) aNil))))))))
    (sRet (eBin opAddA (eVar 1) (frz (lDisp (aCons (eTup (aCons (eMkX "TooMany" ["limit"] (aCons (eVar 0) aNil)) (aCons (eC (.int 19)) aNil))) aNil))))))))
def f__law_single : FSem := fnD 2 g__law_single
def g__law_flags : SemS :=
    (sSeq (sAsg 1 (frz (lDisp (aCons (eUn (opIsX frTbl "BadAnswers") (eVar 0)) (aCons (eUn (opIsX frTbl "BadBatch") (eVar 0)) (aCons (eUn (opIsX frTbl "BadBelief") (eVar 0)) aNil))))))
    (sSeq (sAsg 1 (eBin opAddA (eVar 1) (frz (lDisp (aCons (eUn (opIsX frTbl "BadMark") (eVar 0)) (aCons (eUn (opIsX frTbl "BadMenu") (eVar 0)) (aCons (eUn (opIsX frTbl "BadNumber") (eVar 0)) aNil)))))))
    (sSeq (sAsg 1 (eBin opAddA (eVar 1) (frz (lDisp (aCons (eUn (opIsX frTbl "BadRow") (eVar 0)) (aCons (eUn (opIsX frTbl "BadText") (eVar 0)) (aCons (eUn (opIsX frTbl "Busy") (eVar 0)) aNil)))))))
    (sSeq (sAsg 1 (eBin opAddA (eVar 1) (frz (lDisp (aCons (eUn (opIsX frTbl "LastWord") (eVar 0)) (aCons (eUn (opIsX frTbl "NoAnswer") (eVar 0)) (aCons (eUn (opIsX frTbl "NoCell") (eVar 0)) aNil)))))))
    (sSeq (sAsg 1 (eBin opAddA (eVar 1) (frz (lDisp (aCons (eUn (opIsX frTbl "NotFrank") (eVar 0)) (aCons (eUn (opIsX frTbl "NothingToUndo") (eVar 0)) (aCons (eUn (opIsX frTbl "NoVersion") (eVar 0)) aNil)))))))
    (sSeq (sAsg 1 (eBin opAddA (eVar 1) (frz (lDisp (aCons (eUn (opIsX frTbl "NoWord") (eVar 0)) (aCons (eUn (opIsX frTbl "Rejected") (eVar 0)) (aCons (eUn (opIsX frTbl "TooFew") (eVar 0)) aNil)))))))
    (sSeq (sAsg 1 (eBin opAddA (eVar 1) (frz (lDisp (aCons (eUn (opIsX frTbl "TooGreat") (eVar 0)) (aCons (eUn (opIsX frTbl "TooMany") (eVar 0)) (aCons (eUn (opIsX frTbl "TooManyEdits") (eVar 0)) aNil)))))))
    (sRet (eBin opAddA (eVar 1) (frz (lDisp (aCons (eUn (opIsX frTbl "Unlike") (eVar 0)) aNil))))))))))))
def f__law_flags : FSem := fnD 2 g__law_flags
def g__law_kept : SemS :=
    (sSeq (sAsg 2 (frz (lDisp (aCons (eUn (opXf csGiven "given") (eMkX "BadAnswers" ["given"] (aCons (eVar 0) aNil))) (aCons (eUn (opXf csGiven "given") (eMkX "BadBelief" ["given"] (aCons (eVar 0) aNil))) (aCons (eUn (opXf csGiven "given") (eMkX "BadMark" ["given"] (aCons (eVar 0) aNil))) (aCons (eUn (opXf csError "error") (eMkX "BadMenu" ["error"] (aCons (eVar 0) aNil))) aNil)))))))
    (sSeq (sAsg 2 (eBin opAddA (eVar 2) (frz (lDisp (aCons (eUn (opXf csGiven "given") (eMkX "BadNumber" ["given"] (aCons (eVar 0) aNil))) (aCons (eUn (opXf csGiven "given") (eMkX "BadRow" ["given"] (aCons (eVar 0) aNil))) (aCons (eUn (opXf csGiven "given") (eMkX "BadText" ["given"] (aCons (eVar 0) aNil))) (aCons (eUn (opXf csGiven "given") (eMkX "NoAnswer" ["given"] (aCons (eVar 0) aNil))) aNil))))))))
    (sSeq (sAsg 2 (eBin opAddA (eVar 2) (frz (lDisp (aCons (eUn (opXf csWord "word") (eMkX "NoCell" ["word"] (aCons (eVar 0) aNil))) (aCons (eUn (opXf csGiven "given") (eMkX "NoVersion" ["given"] (aCons (eVar 0) aNil))) (aCons (eUn (opXf csGiven "given") (eMkX "NoWord" ["given"] (aCons (eVar 0) aNil))) (aCons (eUn (opXf csIndex "index") (eMkX "Rejected" ["index"] (aCons (eVar 0) aNil))) aNil))))))))
    (sRet (eBin opAddA (eVar 2) (frz (lDisp (aCons (eUn (opXf csLimit "limit") (eMkX "TooMany" ["limit"] (aCons (eVar 0) aNil))) (aCons (eUn (opXf csWord "word") (eMkX2 "NotFrank" "word" "weights" (aCons (eVar 0) (aCons (eVar 1) aNil)))) (aCons (eUn (opXf csWeights "weights") (eMkX2 "NotFrank" "word" "weights" (aCons (eVar 1) (aCons (eVar 0) aNil)))) aNil))))))))))
def f__law_kept : FSem := fnD 3 g__law_kept
def g_law_k01 : SemS :=
    (sSeq (sAsg 1 (eCall f__law_opened [] (aCons (eVar 0) aNil)))
    (sSeq (sAsg 2 (frz (lDisp (aCons (eC (.int 4)) (aCons (eC (.int 20)) (aCons (eC (.int 6)) (aCons (eC (.int 40)) (aCons (eC (.int 1000000)) (aCons (eC (.int 8)) aNil)))))))))
    (sSeq (sIf (tOfE (eBin opNeA (eOps reprR (aCons (eVar 2) aNil)) (eOps reprR (aCons (frz (lDisp (aCons (eC (.int 4)) (aCons (eC (.int 20)) (aCons (eC (.int 6)) (aCons (eC (.int 40)) (aCons (eBin opPow (eC (.int 10)) (eC (.int 6))) (aCons (eC (.int 8)) aNil)))))))) aNil)))) (sRet (eC (.bl false))) sNext)
    (sSeq (sFor (itR1 (aCons (eC (.int 6)) aNil)) (gN 3)
   (sSeq (sAsg 4 (frz (lDisp (aCons (eC .non) (aCons (eC (.bl true)) (aCons (eC (.int 0)) (aCons (eUn opNeg (eC (.int 1))) (aCons (eBin opPow (eC (.int 10)) (eC (.int 39))) (aCons (eC (.str "")) (aCons (eC (.str "x")) (aCons (eTup aNil) (aCons (eTup (aCons (eC (.int 0)) (aCons (eC (.int 1)) aNil))) (aCons (frz (lDisp aNil)) (aCons (frz (lDisp (aCons (eC (.int 1)) aNil))) (aCons (eC (.dct [])) (aCons (eDct (noXP (pCons (.inr "a") (eC (.int 0)) pNil))) (aCons (eTup (aCons (eTup (aCons (eC (.int 0)) (aCons (eC .non) aNil))) (aCons (eC (.str "row")) aNil))) aNil)))))))))))))))))
    (sSeq (sPar 5 6 (aCons (eCall f__law_one [] (aCons (eVar 1) (aCons (eVar 4) aNil))) (aCons (eCall f__law_one [] (aCons (eVar 1) (aCons (frz (lDisp (aCons (eC .non) (aCons (eC (.int 5)) (aCons (eTup (aCons (eC (.int 1)) aNil)) (aCons (frz (lDisp (aCons (eC (.int 2)) aNil))) (aCons (eC (.str "y")) aNil))))))) aNil))) aNil)))
    (sSeq (sFor (itSeq (eBin opAddA (eBin opAddA (eCall f__law_bare [] aNil) (eCall f__law_single [] (aCons (eVar 5) aNil))) (frz (lDisp (aCons (eTup (aCons (eMkX2 "NotFrank" "word" "weights" (aCons (eVar 5) (aCons (eVar 6) aNil))) (aCons (eC (.int 12)) aNil))) aNil))))) (gT [(gN 7), (gN 8)])
   (sSeq (sAsg 9 (eCall f__law_flags [] (aCons (eVar 7) aNil)))
    (sSeq (sIf (sOr (tOfE (eBin opNeA (eCnt (eVar 9) (eC (.bl true))) (eC (.int 1)))) (tOfE (eBin opNeA (eIdx (eVar 9) (eC (.bl true))) (eVar 8)))) (sRet (eC (.bl false))) sNext)
    (sIf (sOr (sNot (tOfE (eUn (opIsX frTbl "FrankError") (eVar 7)))) (sNot (tOfE (eUn (opIsV frTbl) (eVar 7))))) (sRet (eC (.bl false))) sNext))))
    (sSeq (sAsg 10 (eCall f__law_kept [] (aCons (eVar 5) (aCons (eVar 6) aNil))))
    (sSeq (sIf (tOfE (eBin opNeA (eOps reprR (aCons (eVar 10) aNil)) (eOps reprR (aCons (eBin opMulA (frz (lDisp (aCons (eVar 5) aNil))) (eOps lenD (aCons (eVar 10) aNil))) aNil)))) (sRet (eC (.bl false))) sNext)
    (sSeq (sAsg 11 (cellL (lDisp (aCons (eVar 5) aNil))))
    (sSeq (sAsg 10 (eCall f__law_kept [] (aCons (eVar 11) (aCons (eVar 6) aNil))))
    (sSeq (sExp (eApp (eVar 11) (eC (.int 9))))
    (sIf (tOfE (eBin opNeA (eOps reprR (aCons (eVar 10) aNil)) (eOps reprR (aCons (eBin opMulA (frz (lDisp (aCons (eVar 11) aNil))) (eOps lenD (aCons (eVar 10) aNil))) aNil)))) (sRet (eC (.bl false))) sNext))))))))))
    (sRet (eC (.bl true)))))))
def f_law_k01 : FSem := fnD 12 g_law_k01
end Sm
end
set_option Elab.async false
set_option linter.all false
set_option maxRecDepth 100000
set_option maxHeartbeats 4000000
set_option exponentiation.threshold 3000
noncomputable section
namespace K01
open PySem PySem.Spec PyProof.Rows L2 Fk Sm Sp
variable {n m : Nat} {T S : Store} {E : EX} {v u d : D}
@[simp] theorem wp_eMkX {c : Str} {fl : List Str} {fa : SemA} {ρ : Fk.Env} {Q : D → Store → Prop} : (eMkX c fl fa ρ S).wp Q E = (fa ρ S).wp (fun ds S1 => ds.length = fl.length ∧ Q (.exn c fl ds) S1) E := by
  unfold eMkX
  simp only [wp_bind, wp_itestuck, wp_ok]
@[simp] theorem wp_eMkX2 {c f g : Str} {fe fe2 : SemE} {ρ : Fk.Env} {Q : D → Store → Prop} : (eMkX2 c f g (aCons fe (aCons fe2 aNil)) ρ S).wp Q E = (fe ρ S).wp (fun d S1 => (fe2 ρ S1).wp (fun d2 S2 => Q (.exn c [g, f] [d2, d]) S2) E) E := by
  unfold eMkX2
  simp [aCons, aNil]
@[simp] theorem closed_exn {c : Str} {ns : List Str} {ds : List D} : closed n (.exn c ns ds) = closedA n ds := by simp [closed]
def bareL : List D := [.tup [.exn "BadBatch" [] [], .int 1], .tup [.exn "Busy" [] [], .int 8], .tup [.exn "LastWord" [] [], .int 9], .tup [.exn "NothingToUndo" [] [], .int 13], .tup [.exn "TooFew" [] [], .int 17], .tup [.exn "TooGreat" [] [], .int 18], .tup [.exn "TooManyEdits" [] [], .int 20], .tup [.exn "Unlike" [] [], .int 21]]
def singL (v : D) : List D := [.tup [.exn "BadAnswers" ["given"] [v], .int 0], .tup [.exn "BadBelief" ["given"] [v], .int 2], .tup [.exn "BadMark" ["given"] [v], .int 3], .tup [.exn "BadMenu" ["error"] [v], .int 4], .tup [.exn "BadNumber" ["given"] [v], .int 5], .tup [.exn "BadRow" ["given"] [v], .int 6], .tup [.exn "BadText" ["given"] [v], .int 7], .tup [.exn "NoAnswer" ["given"] [v], .int 10], .tup [.exn "NoCell" ["word"] [v], .int 11], .tup [.exn "NoVersion" ["given"] [v], .int 14], .tup [.exn "NoWord" ["given"] [v], .int 15], .tup [.exn "Rejected" ["index"] [v], .int 16], .tup [.exn "TooMany" ["limit"] [v], .int 19]]
theorem bare : f__law_bare [] S = .ok (.lst bareL) S := by
  refine eq_of_wp ?_
  unfold f__law_bare
  rw [wp_fnD]
  simp [g__law_bare, startD, sz, bareL]
  exact gcQ_cl (by simp) ⟨rfl, by simp⟩
theorem single (hc : closed S.length v = true) : f__law_single [v] S = .ok (.lst (singL v)) S := by
  refine eq_of_wp ?_
  unfold f__law_single
  rw [wp_fnD]
  simp [g__law_single, startD, sz, singL]
  exact gcQ_cl (by simp [hc]) ⟨rfl, by simp⟩
theorem kept (hc : closed S.length v = true) : f__law_kept [v, u] S = .ok (.lst (List.replicate 15 v)) S := by
  have g1 : ∀ c : Str, csGiven.contains c = true → ∀ S, opXf csGiven "given" (.exn c ["given"] [v]) S = some v := fun c h S => by
    show (if csGiven.contains c then lookF ["given"] [v] "given" else none) = _
    rw [if_pos h]; rfl
  have g2 : ∀ S, opXf csError "error" (.exn "BadMenu" ["error"] [v]) S = some v := fun S => rfl
  have g3 : ∀ S, opXf csWord "word" (.exn "NoCell" ["word"] [v]) S = some v := fun S => rfl
  have g4 : ∀ S, opXf csIndex "index" (.exn "Rejected" ["index"] [v]) S = some v := fun S => rfl
  have g5 : ∀ S, opXf csLimit "limit" (.exn "TooMany" ["limit"] [v]) S = some v := fun S => rfl
  have g6 : ∀ S, opXf csWord "word" (.exn "NotFrank" ["weights", "word"] [u, v]) S = some v := fun S => rfl
  have g7 : ∀ S, opXf csWeights "weights" (.exn "NotFrank" ["weights", "word"] [v, u]) S = some v := fun S => rfl
  have k_BadAnswers := g1 "BadAnswers" (by decide)
  have k_BadBelief := g1 "BadBelief" (by decide)
  have k_BadMark := g1 "BadMark" (by decide)
  have k_BadNumber := g1 "BadNumber" (by decide)
  have k_BadRow := g1 "BadRow" (by decide)
  have k_BadText := g1 "BadText" (by decide)
  have k_NoAnswer := g1 "NoAnswer" (by decide)
  have k_NoVersion := g1 "NoVersion" (by decide)
  have k_NoWord := g1 "NoWord" (by decide)
  refine eq_of_wp ?_
  unfold f__law_kept
  rw [wp_fnD]
  simp [g__law_kept, startD, sz, g2, g3, g4, g5, g6, g7, k_BadAnswers, k_BadBelief, k_BadMark, k_BadNumber, k_BadRow, k_BadText, k_NoAnswer, k_NoVersion, k_NoWord]
  exact gcQ_cl (by simp [hc]) ⟨rfl, by simp⟩
abbrev clsL : List Str := ["BadAnswers", "BadBatch", "BadBelief", "BadMark", "BadMenu", "BadNumber", "BadRow", "BadText", "Busy", "LastWord", "NoAnswer", "NoCell", "NotFrank", "NothingToUndo", "NoVersion", "NoWord", "Rejected", "TooFew", "TooGreat", "TooMany", "TooManyEdits", "Unlike"]
def flgs (c : Str) : List D := clsL.map fun T => .bl (decide (T = c))
theorem isx {c T : Str} {ns : List Str} {ds : List D} (h : frTbl.at c = some [c, "FrankError"]) (hT : ¬ T = Str.ofString "FrankError") : opIsX frTbl T (.exn c ns ds) S = some (.bl (decide (T = c))) := by
  show ((frTbl.at c).map fun anc => D.bl (anc.contains T)) = _
  rw [h]
  simp [hT]
theorem flags {c : Str} {ns : List Str} {ds : List D} (h : frTbl.at c = some [c, "FrankError"]) : f__law_flags [.exn c ns ds] S = .ok (.lst (flgs c)) S := by
  have i_BadAnswers := fun S => isx (S := S) (T := "BadAnswers") (ns := ns) (ds := ds) h (by decide)
  have i_BadBatch := fun S => isx (S := S) (T := "BadBatch") (ns := ns) (ds := ds) h (by decide)
  have i_BadBelief := fun S => isx (S := S) (T := "BadBelief") (ns := ns) (ds := ds) h (by decide)
  have i_BadMark := fun S => isx (S := S) (T := "BadMark") (ns := ns) (ds := ds) h (by decide)
  have i_BadMenu := fun S => isx (S := S) (T := "BadMenu") (ns := ns) (ds := ds) h (by decide)
  have i_BadNumber := fun S => isx (S := S) (T := "BadNumber") (ns := ns) (ds := ds) h (by decide)
  have i_BadRow := fun S => isx (S := S) (T := "BadRow") (ns := ns) (ds := ds) h (by decide)
  have i_BadText := fun S => isx (S := S) (T := "BadText") (ns := ns) (ds := ds) h (by decide)
  have i_Busy := fun S => isx (S := S) (T := "Busy") (ns := ns) (ds := ds) h (by decide)
  have i_LastWord := fun S => isx (S := S) (T := "LastWord") (ns := ns) (ds := ds) h (by decide)
  have i_NoAnswer := fun S => isx (S := S) (T := "NoAnswer") (ns := ns) (ds := ds) h (by decide)
  have i_NoCell := fun S => isx (S := S) (T := "NoCell") (ns := ns) (ds := ds) h (by decide)
  have i_NotFrank := fun S => isx (S := S) (T := "NotFrank") (ns := ns) (ds := ds) h (by decide)
  have i_NothingToUndo := fun S => isx (S := S) (T := "NothingToUndo") (ns := ns) (ds := ds) h (by decide)
  have i_NoVersion := fun S => isx (S := S) (T := "NoVersion") (ns := ns) (ds := ds) h (by decide)
  have i_NoWord := fun S => isx (S := S) (T := "NoWord") (ns := ns) (ds := ds) h (by decide)
  have i_Rejected := fun S => isx (S := S) (T := "Rejected") (ns := ns) (ds := ds) h (by decide)
  have i_TooFew := fun S => isx (S := S) (T := "TooFew") (ns := ns) (ds := ds) h (by decide)
  have i_TooGreat := fun S => isx (S := S) (T := "TooGreat") (ns := ns) (ds := ds) h (by decide)
  have i_TooMany := fun S => isx (S := S) (T := "TooMany") (ns := ns) (ds := ds) h (by decide)
  have i_TooManyEdits := fun S => isx (S := S) (T := "TooManyEdits") (ns := ns) (ds := ds) h (by decide)
  have i_Unlike := fun S => isx (S := S) (T := "Unlike") (ns := ns) (ds := ds) h (by decide)
  refine eq_of_wp ?_
  unfold f__law_flags
  rw [wp_fnD]
  simp [g__law_flags, startD, sz, i_BadAnswers, i_BadBatch, i_BadBelief, i_BadMark, i_BadMenu, i_BadNumber, i_BadRow, i_BadText, i_Busy, i_LastWord, i_NoAnswer, i_NoCell, i_NotFrank, i_NothingToUndo, i_NoVersion, i_NoWord, i_Rejected, i_TooFew, i_TooGreat, i_TooMany, i_TooManyEdits, i_Unlike]
  exact gcQ_cl (by simp) ⟨rfl, by simp⟩
/-- an error in the law's loop -/
def Er (x : D) : Prop := ∃ (c : Str) (ns : List Str) (ds : List D) (pl : Nat), x = .tup [.exn c ns ds, .int (pl : Int)] ∧ frTbl.at c = some [c, "FrankError"] ∧ (∀ S, opCount (.lst (flgs c)) (.bl true) S = some (.int 1)) ∧ ∀ S, opIndex (.lst (flgs c)) (.bl true) S = some (.int (pl : Int))
theorem ers : ∀ x ∈ bareL ++ (singL v ++ [.tup [.exn "NotFrank" ["weights", "word"] [u, v], .int 12]]), Er x := fun x hx => by
  simp only [bareL, singL, List.cons_append, List.nil_append, List.mem_cons, List.not_mem_nil, or_false] at hx
  rcases hx with rfl | rfl | rfl | rfl | rfl | rfl | rfl | rfl | rfl | rfl | rfl | rfl | rfl | rfl | rfl | rfl | rfl | rfl | rfl | rfl | rfl | rfl
  · exact ⟨_, _, _, 1, rfl, by decide, fun S => by kernel_rfl, fun S => by kernel_rfl⟩
  · exact ⟨_, _, _, 8, rfl, by decide, fun S => by kernel_rfl, fun S => by kernel_rfl⟩
  · exact ⟨_, _, _, 9, rfl, by decide, fun S => by kernel_rfl, fun S => by kernel_rfl⟩
  · exact ⟨_, _, _, 13, rfl, by decide, fun S => by kernel_rfl, fun S => by kernel_rfl⟩
  · exact ⟨_, _, _, 17, rfl, by decide, fun S => by kernel_rfl, fun S => by kernel_rfl⟩
  · exact ⟨_, _, _, 18, rfl, by decide, fun S => by kernel_rfl, fun S => by kernel_rfl⟩
  · exact ⟨_, _, _, 20, rfl, by decide, fun S => by kernel_rfl, fun S => by kernel_rfl⟩
  · exact ⟨_, _, _, 21, rfl, by decide, fun S => by kernel_rfl, fun S => by kernel_rfl⟩
  · exact ⟨_, _, _, 0, rfl, by decide, fun S => by kernel_rfl, fun S => by kernel_rfl⟩
  · exact ⟨_, _, _, 2, rfl, by decide, fun S => by kernel_rfl, fun S => by kernel_rfl⟩
  · exact ⟨_, _, _, 3, rfl, by decide, fun S => by kernel_rfl, fun S => by kernel_rfl⟩
  · exact ⟨_, _, _, 4, rfl, by decide, fun S => by kernel_rfl, fun S => by kernel_rfl⟩
  · exact ⟨_, _, _, 5, rfl, by decide, fun S => by kernel_rfl, fun S => by kernel_rfl⟩
  · exact ⟨_, _, _, 6, rfl, by decide, fun S => by kernel_rfl, fun S => by kernel_rfl⟩
  · exact ⟨_, _, _, 7, rfl, by decide, fun S => by kernel_rfl, fun S => by kernel_rfl⟩
  · exact ⟨_, _, _, 10, rfl, by decide, fun S => by kernel_rfl, fun S => by kernel_rfl⟩
  · exact ⟨_, _, _, 11, rfl, by decide, fun S => by kernel_rfl, fun S => by kernel_rfl⟩
  · exact ⟨_, _, _, 14, rfl, by decide, fun S => by kernel_rfl, fun S => by kernel_rfl⟩
  · exact ⟨_, _, _, 15, rfl, by decide, fun S => by kernel_rfl, fun S => by kernel_rfl⟩
  · exact ⟨_, _, _, 16, rfl, by decide, fun S => by kernel_rfl, fun S => by kernel_rfl⟩
  · exact ⟨_, _, _, 19, rfl, by decide, fun S => by kernel_rfl, fun S => by kernel_rfl⟩
  · exact ⟨_, _, _, 12, rfl, by decide, fun S => by kernel_rfl, fun S => by kernel_rfl⟩
theorem wp_eCnt {f g : SemE} {ρ : Fk.Env} {Q : D → Store → Prop} : (eCnt f g ρ S).wp Q E = (f ρ S).wp (fun x S1 => isL S1 x = true ∧ (g ρ S1).wp (fun y S2 => ∃ z, opCount x y S2 = some z ∧ Q z S2) E) E := by
  unfold eCnt
  simp only [wp_bind, wp_itestuck, wp_lift]
theorem dr_gd {b w k : Nat} (h : Gd b w k d) : dr S d = d := by
  cases d with
  | ref n => exact absurd h.p (by simp [Fk.plain])
  | _ => rfl
theorem datR_plain : ∀ {ds : List D}, (∀ d ∈ ds, dr S d = d) → datR S ds = datAll ds
  | [], _ => by simp [datR, datAll]
  | d :: ds, h => by
    unfold datR datAll
    rw [h d List.mem_cons_self, datR_plain fun x hx => h x (List.mem_cons_of_mem _ hx)]
theorem reprR_dat {ds ds' : List D} (h : datR S ds = datAll ds') : reprR [.lst ds] S = reprD [.lst ds'] S := by
  show (datR S ds).bind _ = ((datAll ds').map PyData.list).bind _
  rw [h]
  cases datAll ds' <;> rfl
theorem reprR_gd {ds : List D} {b w k : Nat} (h : Gd b w (k + 1) (.lst ds)) (hb : b ≤ 1900) (hw : w ≤ 16000000) (hk : k + 1 ≤ 60) : reprR [.lst ds] S = some (.str (toP (.lst ds)).shown) := by
  rw [reprR_dat (datR_plain fun d hd => dr_gd (h.lstA.mem hd))]
  exact h.repr hb hw hk
theorem reprR_ref {n : Nat} {xs : List D} {b w k j : Nat} (hc : S[n]? = some (.lst true xs)) (h : Gd b w (k + 1) (.lst (List.replicate j (.lst xs)))) (hb : b ≤ 1900) (hw : w ≤ 16000000) (hk : k + 1 ≤ 60) : reprR [.lst (List.replicate j (.ref n))] S = some (.str (toP (.lst (List.replicate j (.lst xs)))).shown) := by
  have e : ∀ j, datR S (List.replicate j (.ref n)) = datAll (List.replicate j (.lst xs)) := fun j => by
    induction j with
    | zero => rfl
    | succ j ih =>
      rw [List.replicate_succ, List.replicate_succ]
      unfold datR datAll
      rw [ih, show dr S (.ref n) = .lst xs by simp [dr, drc, hc]]
  rw [reprR_dat (e j)]
  exact h.repr hb hw hk
theorem gd_rep {b w k : Nat} (h : Gd b w k d) : ∀ j : Nat, GdA b ((w + 2) * j) k (List.replicate j d)
  | 0 => GdA.nil
  | j + 1 => by
    rw [List.replicate_succ]
    exact (GdA.cons h (gd_rep h j)).mono (by rw [Nat.mul_add]; omega) (Nat.le_refl _)
theorem addB_ok {xs ys : List D} (h : xs.length + ys.length ≤ 1000) : opAddA (.lst xs) (.lst ys) S = some (.lst (xs ++ ys)) := by
  have h2 : sz (xs.length + ys.length) = true := by simp [sz]; omega
  obtain ⟨a, ha, rfl⟩ := (ex_addL (xs := xs) (ys := ys) (S := S) (P := fun a => a = .lst (xs ++ ys))).mpr ⟨h2, rfl⟩
  exact ha
theorem law_ok (ns : List Int) (hl : ns.length ≤ 63) : (f_law_k01 [.scr (ns.map D.int)] []).wp (fun r _ => r = .bl true) fun _ _ _ => False := by
  have g0 : ∀ x : D, x ∈ [D.non, .bl true, .int 0, .int (-1), .int (10 ^ 39), .str "", .str "x", .tup [], .tup [.int 0, .int 1], .lst [], .lst [.int 1], .dct [], .dct [(.inr "a", .int 0)], .tup [.tup [.int 0, .non], .str "row"]] → Gd 200 200 3 x := fun x hx => by
    have h : ([D.non, .bl true, .int 0, .int (-1), .int (10 ^ 39), .str "", .str "x", .tup [], .tup [.int 0, .int 1], .lst [], .lst [.int 1], .dct [], .dct [(.inr "a", .int 0)], .tup [.tup [.int 0, .non], .str "row"]] : List D).all (gdB 200 200 3) = true := by decide +kernel
    exact gdB_all h x hx
  have gl : Gd 200 2000 2 (.lst [.int 4, .int 20, .int 6, .int 40, .int 1000000, .int 8]) := gdB_ok (by decide +kernel)
  have rl := fun S => reprR_gd (S := S) (k := 1) gl (by decide) (by decide) (by decide)
  unfold f_law_k01
  rw [wp_fnD]
  simp [g_law_k01, startD]
  refine (opened ns hl).no fun r S1 ⟨e, hB1⟩ => ?_
  subst e
  have hp : powOk 10 6 = true := by decide
  simp [okR, sz, hp, rl]
  refine wp_forL (fun xs ρ S => ∃ (T : Store) (x3 x4 x5 x6 x7 x8 x9 x10 x11 : Option D), ρ = [some (.scr (ns.map D.int)), some (.ref 1), some (.lst [.int 4, .int 20, .int 6, .int 40, .int 1000000, .int 8]), x3, x4, x5, x6, x7, x8, x9, x10, x11] ∧ xs.length ≤ 6 ∧ Bx (100 * (6 - xs.length)) T S) ⟨[], none, none, none, none, none, none, none, none, none, rfl, by simp [rng], by simpa [rng] using hB1⟩ ?_ ?_
  · rintro xk xs ρ S ⟨T, x3, x4, x5, x6, x7, x8, x9, x10, x11, rfl, hxl, hB⟩
    simp only [List.length_cons] at hxl
    generalize hq : 100 * (6 - (xk :: xs).length) = q at hB
    simp only [List.length_cons] at hq
    have hq2 : q + 100 = 100 * (6 - xs.length) := by omega
    have hq3 : q ≤ 1000 := by omega
    have hp39 : powOk 10 39 = true := by decide
    simp [sz, hp39, mergeD, putD]
    refine (one hB (by omega) (by simp) (by simp) (fun x hx => (g0 x (by simpa using hx)).closed)).no fun v S2 ⟨hv, hB2⟩ => ?_
    have gv : Gd 200 200 3 v := g0 v (by simpa using hv)
    simp [sz]
    have gu0 : ∀ x : D, x ∈ [D.non, .int 5, .tup [.int 1], .lst [.int 2], .str "y"] → Gd 200 200 3 x := fun x hx => gdB_all (show ([D.non, .int 5, .tup [.int 1], .lst [.int 2], .str "y"] : List D).all (gdB 200 200 3) = true by decide +kernel) x hx
    refine (one hB2 (by omega) (by simp) (by simp) (fun x hx => (gu0 x (by simpa using hx)).closed)).no fun u S3 ⟨hu, hB3⟩ => ?_
    have gu : Gd 200 200 3 u := gu0 u (by simpa using hu)
    have es := fun S => single (S := S) (v := v) gv.closed
    have a1 : ∀ S, opAddA (.lst bareL) (.lst (singL v)) S = some (.lst (bareL ++ singL v)) := fun S => addB_ok (by simp [bareL, singL])
    have a2 : ∀ S, opAddA (.lst (bareL ++ singL v)) (.lst [.tup [.exn "NotFrank" ["weights", "word"] [u, v], .int 12]]) S = some (.lst (bareL ++ singL v ++ [.tup [.exn "NotFrank" ["weights", "word"] [u, v], .int 12]])) := fun S => addB_ok (by simp [bareL, singL])
    simp [bare, es, sz, a1, a2]
    refine wp_forL (fun xs ρ S' => S' = S3 ∧ ∃ (x4 x7 x8 x9 x10 x11 : Option D), ρ = [some (.scr (ns.map D.int)), some (.ref 1), some (.lst [.int 4, .int 20, .int 6, .int 40, .int 1000000, .int 8]), some xk, x4, some v, some u, x7, x8, x9, x10, x11] ∧ ∀ x ∈ xs, Er x) ⟨rfl, _, _, _, _, _, _, rfl, ers⟩ ?_ ?_
    · rintro x xs' ρ S' ⟨rfl, x4, x7, x8, x9, x10, x11, rfl, hx⟩
      obtain ⟨c, cns, cds, pl, rfl, hc, h1, h2⟩ := hx x List.mem_cons_self
      have e1 := fun S => flags (S := S) (ns := cns) (ds := cds) hc
      have e2 : ∀ S, opIsX frTbl "FrankError" (.exn c cns cds) S = some (.bl true) := fun S => by
        show ((frTbl.at c).map fun anc => D.bl (anc.contains ("FrankError" : Str))) = _
        rw [hc]
        simp
      have e3 : ∀ S, opIsV frTbl (.exn c cns cds) S = some (.bl true) := fun S => by
        show ((frTbl.at c).map fun _ => D.bl true) = _
        rw [hc]; rfl
      have hil : ∀ S (l : List D), isL S (.lst l) = true := fun S l => rfl
      simp [e1, wp_eCnt, hil, h1, h2, e2, e3]
      exact fun x h => hx x (List.mem_cons_of_mem _ h)
    · rintro ρ S' ⟨rfl, x4, x7, x8, x9, x10, x11, rfl, hx⟩
      have gr : Gd 200 4000 4 (.lst (List.replicate 15 v)) := ((gd_rep gv 15).lst).mono (by decide) (by decide)
      have rr := fun S => reprR_gd (S := S) (k := 3) gr (by decide) (by decide) (by decide)
      have ek := fun S => kept (S := S) (v := v) (u := u) gv.closed
      have em : ∀ S, opMulA (.lst [v]) (.int 15) S = some (.lst (List.replicate 15 v)) := fun S => by
        rw [mulL _ _ _ (by simp)]
        simp [List.flatten_replicate_singleton]
      simp [-List.reduceReplicate, ek, rr, em, sz]
      have hN : S'.length = T.length + 2 := hB3.len
      have hB4 := hB3.put [.lst true [v]]
      have hat4 : (S' ++ [Cell.lst true [v]])[T.length + 2]? = some (.lst true [v]) := by rw [← hN]; simp
      refine ⟨gv.closed, ?_⟩
      rw [hN]
      generalize S' ++ [Cell.lst true [v]] = S4 at hB4 hat4
      have hn4 := (List.getElem?_eq_some_iff.mp hat4).1
      have ek2 := kept (S := S4) (v := .ref (T.length + 2)) (u := u) (by simp [closed]; omega)
      have ea := appC_of (y := .int 9) hat4 (by simp) (by simp)
      have hB5 := hB4.set T.length (.lst true ([v] ++ [.int 9]))
      have hat5 : (S4.set (T.length + 2) (.lst true ([v] ++ [.int 9])))[T.length + 2]? = some (.lst true ([v] ++ [.int 9])) := by rw [List.getElem?_set_self hn4]
      generalize S4.set (T.length + 2) (.lst true ([v] ++ [.int 9])) = S5 at ea hB5 hat5
      have gr2 : Gd 200 8000 5 (.lst (List.replicate 15 (.lst ([v] ++ [.int 9])))) := ((gd_rep (((GdA.one gv).append (GdA.one (gdB_ok (b := 200) (w := 60) (k := 3) (by decide +kernel)))).lst) 15).lst).mono (by decide) (by decide)
      have rr2 := reprR_ref hat5 (j := 15) gr2 (by decide) (by decide) (by decide)
      have em2 : ∀ S, opMulA (.lst [.ref (T.length + 2)]) (.int 15) S = some (.lst (List.replicate 15 (.ref (T.length + 2)))) := fun S => by
        rw [mulL _ _ _ (by simp)]
        simp [List.flatten_replicate_singleton]
      have hil := isL_of hat4
      simp [-List.reduceReplicate, ek2, ea, em2, rr2, hil, sz]
      exact ⟨by omega, _, hB5.mono (by omega)⟩
  · rintro ρ S ⟨T, x3, x4, x5, x6, x7, x8, x9, x10, x11, rfl, hxl, hB⟩
    simp
    exact gcQ_cl (by simp) rfl
theorem plain : ∀ ns : List Int, ns.length ≤ 63 → (∀ z ∈ ns, Builtin.Int.intBits z ≤ 1048576) → ∃ S, f_law_k01 [.scr (ns.map D.int)] [] = .ok (.bl true) S := fun ns hl _ => by
  have h := (law_ok ns hl).run
  cases e : f_law_k01 [.scr (ns.map D.int)] [] with
  | ok d S =>
    rw [e] at h
    have h : d = .bl true := h
    exact ⟨S, by rw [h]⟩
  | exc c fs S => rw [e] at h; exact h.elim
  | stuck => rw [e] at h; exact h.elim
end K01
end
set_option Elab.async false
set_option linter.all false
set_option maxRecDepth 100000
set_option maxHeartbeats 0
noncomputable section
namespace K01
open PySem PySem.Spec PyProof.Rows L2 Fk Sm
def top (i : Nat) : Stmt := PySem.Challenge.pw_frankmarks_k01_limits_and_errors.main.body.getD i (.Pass ⟨0, 0, 0, 0⟩)
/-- names of the module -/
structure Gs (mg : Str → Option Value) : Prop where
  b_ValueError : mg "ValueError" = none
  b_abs : mg "abs" = none
  b_int : mg "int" = none
  b_isinstance : mg "isinstance" = none
  b_len : mg "len" = none
  b_range : mg "range" = none
  b_repr : mg "repr" = none
  c_MAX_ANSWERS : ∃ t, mg "MAX_ANSWERS" = some (.int 4 t)
  c_MAX_BATCH : ∃ t, mg "MAX_BATCH" = some (.int 20 t)
  c_MAX_BOOK : ∃ t, mg "MAX_BOOK" = some (.int 6 t)
  c_MAX_EDITS : ∃ t, mg "MAX_EDITS" = some (.int 40 t)
  c_MAX_MARK : ∃ t, mg "MAX_MARK" = some (.int 1000000 t)
  c_MAX_WORDS : ∃ t, mg "MAX_WORDS" = some (.int 8 t)
/-- what is known of the exceptions -/
structure Xs (P : Program) (w : World) (K : PySem.W.Frag) (mg : Str → Option Value) (base : Heap) : Prop where
  x_BadAnswers : Exc1 P w K mg base "BadAnswers" "given"
  x_BadBatch : Exc0 K mg "BadBatch"
  x_BadBelief : Exc1 P w K mg base "BadBelief" "given"
  x_BadMark : Exc1 P w K mg base "BadMark" "given"
  x_BadMenu : Exc1 P w K mg base "BadMenu" "error"
  x_BadNumber : Exc1 P w K mg base "BadNumber" "given"
  x_BadRow : Exc1 P w K mg base "BadRow" "given"
  x_BadText : Exc1 P w K mg base "BadText" "given"
  x_Busy : Exc0 K mg "Busy"
  x_LastWord : Exc0 K mg "LastWord"
  x_NoAnswer : Exc1 P w K mg base "NoAnswer" "given"
  x_NoCell : Exc1 P w K mg base "NoCell" "word"
  x_NoVersion : Exc1 P w K mg base "NoVersion" "given"
  x_NoWord : Exc1 P w K mg base "NoWord" "given"
  x_NotFrank : Exc2 P w K mg base "NotFrank" "word" "weights"
  x_NothingToUndo : Exc0 K mg "NothingToUndo"
  x_Rejected : Exc1 P w K mg base "Rejected" "index"
  x_TooFew : Exc0 K mg "TooFew"
  x_TooGreat : Exc0 K mg "TooGreat"
  x_TooMany : Exc1 P w K mg base "TooMany" "limit"
  x_TooManyEdits : Exc0 K mg "TooManyEdits"
  x_Unlike : Exc0 K mg "Unlike"
  tbl : TblOk K mg frTbl
  i_BadAnswers : IsTbl K mg frTbl "BadAnswers"
  i_BadBatch : IsTbl K mg frTbl "BadBatch"
  i_BadBelief : IsTbl K mg frTbl "BadBelief"
  i_BadMark : IsTbl K mg frTbl "BadMark"
  i_BadMenu : IsTbl K mg frTbl "BadMenu"
  i_BadNumber : IsTbl K mg frTbl "BadNumber"
  i_BadRow : IsTbl K mg frTbl "BadRow"
  i_BadText : IsTbl K mg frTbl "BadText"
  i_Busy : IsTbl K mg frTbl "Busy"
  i_FrankError : IsTbl K mg frTbl "FrankError"
  i_LastWord : IsTbl K mg frTbl "LastWord"
  i_NoAnswer : IsTbl K mg frTbl "NoAnswer"
  i_NoCell : IsTbl K mg frTbl "NoCell"
  i_NoVersion : IsTbl K mg frTbl "NoVersion"
  i_NoWord : IsTbl K mg frTbl "NoWord"
  i_NotFrank : IsTbl K mg frTbl "NotFrank"
  i_NothingToUndo : IsTbl K mg frTbl "NothingToUndo"
  i_Rejected : IsTbl K mg frTbl "Rejected"
  i_TooFew : IsTbl K mg frTbl "TooFew"
  i_TooGreat : IsTbl K mg frTbl "TooGreat"
  i_TooMany : IsTbl K mg frTbl "TooMany"
  i_TooManyEdits : IsTbl K mg frTbl "TooManyEdits"
  i_Unlike : IsTbl K mg frTbl "Unlike"
  ve : IsVe K frTbl
  a_error : XfTbl K csError "error"
  a_given : XfTbl K csGiven "given"
  a_index : XfTbl K csIndex "index"
  a_limit : XfTbl K csLimit "limit"
  a_weights : XfTbl K csWeights "weights"
  a_word : XfTbl K csWord "word"
abbrev SysM (base : Heap) : Prop := ∃ o, base.get? sysModules = some o ∧ o.cls ≠ .type "list"
section
variable {P : Program} {w : World} {K : PySem.W.Frag} {mg : Str → Option Value} {base : Heap} {f : Addr} {fd : FuncData}
theorem sc__law_opened : FnScope ["_law_script", "_law_cells", "_law_small", "_law_great", "_law_cell"] ["_law_script"] (defScope (top 31)) := ⟨rfl, rfl, rfl, by decide +kernel, rfl, by decide +kernel, by decide +kernel⟩
theorem ok__law_opened (G : Gs mg) (E : Xs P w K mg base) (B : SysM base) (F : FunD K "_law_opened" "_law_opened" (defArgs (top 31)) (defBody (top 31)) (defScope (top 31)) [] [] f fd) : FnG P w K mg base 1 f fd ["_law_script"] (spD K mg 1 f__law_opened) :=
  fn_ok (k := 0) F sc__law_opened fun cdv A outer s H Ex hg hr => by
  have c := cxe_of (P := P) (w := w) (K := K) (mg := mg) (base := base) (N := ["_law_script", "_law_cells", "_law_small", "_law_great", "_law_cell"]) (outer := outer) (H := H) (E := Ex) (k := 0) sc__law_opened.nd hg hr B
  exact (xss_cons (xs_setLF c.calm c.nd rfl rfl rfl (xi_seq (xe_sl (xe_var 0) xo_none (xo_some xe_int))) (own := [("_law_cell", 4)]) (blkOk_by (by kernel_rfl)) (by decide) (fun s1 H1 C1 cl1 fp1 => (gd_name (c.blk s1 H1 _ _ fp1).nd rfl (by first | exact .inl rfl | exact .inr rfl))) (fun s1 H1 C1 cl1 fp1 => xts_nil) (fun s1 H1 C1 cl1 fp1 => (xe_callB cx_absA rfl G.b_abs (by decide +kernel) (xa_cons (xe_var 4) xa_nil))))
    (xss_cons (xs_setLF c.calm c.nd rfl rfl rfl (xi_seq (xe_var 1)) (own := [("_law_cell", 4)]) (blkOk_by (by kernel_rfl)) (by decide) (fun s1 H1 C1 cl1 fp1 => (gd_name (c.blk s1 H1 _ _ fp1).nd rfl (by first | exact .inl rfl | exact .inr rfl))) (fun s1 H1 C1 cl1 fp1 => (xts_one (xt_cmp ox_lt (xe_var 4) (xe_bin ox_pow xe_int xe_int) rfl))) (fun s1 H1 C1 cl1 fp1 => (xe_var 4)))
    (xss_cons (xs_setLM c.calm c.nd rfl rfl rfl (xi_seq (xe_var 1)) (own := [("_law_cell", 4)]) (blkOk_by (by kernel_rfl)) (by decide) (fun s1 H1 C1 cl1 fp1 => (gd_name (c.blk s1 H1 _ _ fp1).nd rfl (by first | exact .inl rfl | exact .inr rfl))) (fun s1 H1 C1 cl1 fp1 => (xts_one (xt_cmp ox_ge (xe_var 4) (xe_bin ox_pow xe_int xe_int) rfl))) (fun s1 H1 C1 cl1 fp1 => (xe_var 4)))
    (xss_one (xs_ret (xe_dctC (xp_cons pe_str (xe_var 3) (xp_cons pe_str (xe_bin ox_addA (xe_var 2) (xe_bin ox_mulA (xe_frz (xl_disp (xa_cons xe_int xa_nil))) (xe_callTy cx_int rfl G.b_int (by decide +kernel) (xa_cons (xe_cmp (ox_eqA c.u64) (xe_var 2) (xe_frz (xl_disp xa_nil)) rfl) xa_nil)))) (xp_cons pe_str xe_int xp_nil)))))))))
theorem sc__law_draw : FnScope ["_law_box", "_law_many", "_law_great", "_law_digit", "_law_cell", "_law_mixed"] ["_law_box", "_law_many"] (defScope (top 32)) := ⟨rfl, rfl, rfl, by decide +kernel, rfl, by decide +kernel, by decide +kernel⟩
theorem ok__law_draw (G : Gs mg) (E : Xs P w K mg base) (B : SysM base) (F : FunD K "_law_draw" "_law_draw" (defArgs (top 32)) (defBody (top 32)) (defScope (top 32)) [] [] f fd) : FnG P w K mg base 1 f fd ["_law_box", "_law_many"] (spD K mg 2 f__law_draw) :=
  fn_ok (k := 0) F sc__law_draw fun cdv A outer s H Ex hg hr => by
  have c := cxe_of (P := P) (w := w) (K := K) (mg := mg) (base := base) (N := ["_law_box", "_law_many", "_law_great", "_law_digit", "_law_cell", "_law_mixed"]) (outer := outer) (H := H) (E := Ex) (k := 0) sc__law_draw.nd hg hr B
  exact (xss_cons (xs_set c.nd rfl (by first | exact .inl rfl | exact .inr rfl) (xe_dget c.u1 (xe_var 0) xe_str fun _ _ => rfl))
    (xss_cons (xs_while own_of (xt_cmp (ox_neA c.u64) (xe_var 2) (xe_frz (xl_disp xa_nil)) rfl)
   (xss_cons (xs_if (xt_cmp ox_gt (xe_ix (xe_var 2) (xe_un ux_neg xe_int) fun _ _ => rfl) xe_int rfl) (xss_cons (xs_set c.nd rfl (by first | exact .inl rfl | exact .inr rfl) (xe_bin ox_mod (xe_callTy cx_int rfl G.b_int (by decide +kernel) (xa_cons (xe_ix (xe_var 2) (xe_un ux_neg xe_int) fun _ _ => rfl) xa_nil)) (xe_var 1)))
    (xss_cons (xs_setI (xe_var 2) (xe_un ux_neg xe_int) (xe_bin ox_div (xe_callTy cx_int rfl G.b_int (by decide +kernel) (xa_cons (xe_ix (xe_var 2) (xe_un ux_neg xe_int) fun _ _ => rfl) xa_nil)) (xe_var 1)) (by intro _; rfl))
    (xss_one (xs_ret (xe_var 3))))) xss_nil)
    (xss_one (xs_expr (xe_pop (xe_var 2))))))
    (xss_cons (xs_dput c.u1 (xe_var 0) xe_str (xe_bin ox_addA (xe_dget c.u1 (xe_var 0) xe_str fun _ _ => rfl) xe_int))
    (xss_cons (xs_set c.nd rfl (by first | exact .inl rfl | exact .inr rfl) (xe_ix (xe_dget c.u1 (xe_var 0) xe_str fun _ _ => rfl) (xe_bin ox_mod (xe_callTy cx_int rfl G.b_int (by decide +kernel) (xa_cons (xe_dget c.u1 (xe_var 0) xe_str fun _ _ => rfl) xa_nil)) (xe_callB cx_len rfl G.b_len (by decide +kernel) (xa_cons (xe_dget c.u1 (xe_var 0) xe_str fun _ _ => rfl) xa_nil))) fun _ _ => rfl))
    (xss_cons (xs_set c.nd rfl (by first | exact .inl rfl | exact .inr rfl) (xe_bin ox_addA (xe_bin ox_mulA (xe_var 4) xe_int) (xe_bin ox_mulA (xe_dget c.u1 (xe_var 0) xe_str fun _ _ => rfl) xe_int)))
    (xss_cons (xs_set c.nd rfl (by first | exact .inl rfl | exact .inr rfl) (xe_bin ox_mod (xe_callTy cx_int rfl G.b_int (by decide +kernel) (xa_cons (xe_var 5) xa_nil)) xe_int))
    (xss_cons (xs_set c.nd rfl (by first | exact .inl rfl | exact .inr rfl) (xe_bin ox_mod (xe_callTy cx_int rfl G.b_int (by decide +kernel) (xa_cons (xe_bin ox_mulA (xe_var 5) (xe_bin ox_addA (xe_bin ox_div (xe_var 5) xe_int) xe_int)) xa_nil)) xe_int))
    (xss_one (xs_ret (xe_bin ox_mod (xe_callTy cx_int rfl G.b_int (by decide +kernel) (xa_cons (xe_bin ox_div (xe_var 5) xe_int) xa_nil)) (xe_var 1)))))))))))
theorem sc__law_one : FnScope ["_law_box", "_law_items"] ["_law_box", "_law_items"] (defScope (top 33)) := ⟨rfl, rfl, rfl, by decide +kernel, rfl, by decide +kernel, by decide +kernel⟩
theorem ok__law_one (G : Gs mg) (E : Xs P w K mg base) (B : SysM base) (h__law_draw : Fn P w K mg base 1 "_law_draw" ["_law_box", "_law_many"] [] f__law_draw) (F : FunD K "_law_one" "_law_one" (defArgs (top 33)) (defBody (top 33)) (defScope (top 33)) [] [] f fd) : FnG P w K mg base 2 f fd ["_law_box", "_law_items"] (spD K mg 2 f__law_one) :=
  fn_ok (k := 1) F sc__law_one fun cdv A outer s H Ex hg hr => by
  have c := cxe_of (P := P) (w := w) (K := K) (mg := mg) (base := base) (N := ["_law_box", "_law_items"]) (outer := outer) (H := H) (E := Ex) (k := 1) sc__law_one.nd hg hr B
  exact (xss_one (xs_ret (xe_ix (xe_var 1) (xe_fn h__law_draw c (by decide) rfl (xa_cons (xe_var 0) (xa_cons (xe_callB cx_len rfl G.b_len (by decide +kernel) (xa_cons (xe_var 1) xa_nil)) xa_nil)) (alen_cons (alen_cons alen_nil))) fun _ _ => rfl)))
theorem sc__law_flags : FnScope ["_law_error", "_law_flags_here"] ["_law_error"] (defScope (top 34)) := ⟨rfl, rfl, rfl, by decide +kernel, rfl, by decide +kernel, by decide +kernel⟩
theorem ok__law_flags (G : Gs mg) (E : Xs P w K mg base) (B : SysM base) (F : FunD K "_law_flags" "_law_flags" (defArgs (top 34)) (defBody (top 34)) (defScope (top 34)) [] [] f fd) : FnG P w K mg base 1 f fd ["_law_error"] (spD K mg 1 f__law_flags) :=
  fn_ok (k := 0) F sc__law_flags fun cdv A outer s H Ex hg hr => by
  have c := cxe_of (P := P) (w := w) (K := K) (mg := mg) (base := base) (N := ["_law_error", "_law_flags_here"]) (outer := outer) (H := H) (E := Ex) (k := 0) sc__law_flags.nd hg hr B
  exact (xss_cons (xs_set c.nd rfl (by first | exact .inl rfl | exact .inr rfl) (xe_frz (xl_disp (xa_cons (xe_isX E.i_BadAnswers (xe_var 0) rfl G.b_isinstance rfl) (xa_cons (xe_isX E.i_BadBatch (xe_var 0) rfl G.b_isinstance rfl) (xa_cons (xe_isX E.i_BadBelief (xe_var 0) rfl G.b_isinstance rfl) xa_nil))))))
    (xss_cons (xs_set c.nd rfl (by first | exact .inl rfl | exact .inr rfl) (xe_bin ox_addA (xe_var 1) (xe_frz (xl_disp (xa_cons (xe_isX E.i_BadMark (xe_var 0) rfl G.b_isinstance rfl) (xa_cons (xe_isX E.i_BadMenu (xe_var 0) rfl G.b_isinstance rfl) (xa_cons (xe_isX E.i_BadNumber (xe_var 0) rfl G.b_isinstance rfl) xa_nil)))))))
    (xss_cons (xs_set c.nd rfl (by first | exact .inl rfl | exact .inr rfl) (xe_bin ox_addA (xe_var 1) (xe_frz (xl_disp (xa_cons (xe_isX E.i_BadRow (xe_var 0) rfl G.b_isinstance rfl) (xa_cons (xe_isX E.i_BadText (xe_var 0) rfl G.b_isinstance rfl) (xa_cons (xe_isX E.i_Busy (xe_var 0) rfl G.b_isinstance rfl) xa_nil)))))))
    (xss_cons (xs_set c.nd rfl (by first | exact .inl rfl | exact .inr rfl) (xe_bin ox_addA (xe_var 1) (xe_frz (xl_disp (xa_cons (xe_isX E.i_LastWord (xe_var 0) rfl G.b_isinstance rfl) (xa_cons (xe_isX E.i_NoAnswer (xe_var 0) rfl G.b_isinstance rfl) (xa_cons (xe_isX E.i_NoCell (xe_var 0) rfl G.b_isinstance rfl) xa_nil)))))))
    (xss_cons (xs_set c.nd rfl (by first | exact .inl rfl | exact .inr rfl) (xe_bin ox_addA (xe_var 1) (xe_frz (xl_disp (xa_cons (xe_isX E.i_NotFrank (xe_var 0) rfl G.b_isinstance rfl) (xa_cons (xe_isX E.i_NothingToUndo (xe_var 0) rfl G.b_isinstance rfl) (xa_cons (xe_isX E.i_NoVersion (xe_var 0) rfl G.b_isinstance rfl) xa_nil)))))))
    (xss_cons (xs_set c.nd rfl (by first | exact .inl rfl | exact .inr rfl) (xe_bin ox_addA (xe_var 1) (xe_frz (xl_disp (xa_cons (xe_isX E.i_NoWord (xe_var 0) rfl G.b_isinstance rfl) (xa_cons (xe_isX E.i_Rejected (xe_var 0) rfl G.b_isinstance rfl) (xa_cons (xe_isX E.i_TooFew (xe_var 0) rfl G.b_isinstance rfl) xa_nil)))))))
    (xss_cons (xs_set c.nd rfl (by first | exact .inl rfl | exact .inr rfl) (xe_bin ox_addA (xe_var 1) (xe_frz (xl_disp (xa_cons (xe_isX E.i_TooGreat (xe_var 0) rfl G.b_isinstance rfl) (xa_cons (xe_isX E.i_TooMany (xe_var 0) rfl G.b_isinstance rfl) (xa_cons (xe_isX E.i_TooManyEdits (xe_var 0) rfl G.b_isinstance rfl) xa_nil)))))))
    (xss_one (xs_ret (xe_bin ox_addA (xe_var 1) (xe_frz (xl_disp (xa_cons (xe_isX E.i_Unlike (xe_var 0) rfl G.b_isinstance rfl) xa_nil)))))))))))))
theorem sc__law_bare : FnScope ["_law_found"] [] (defScope (top 35)) := ⟨rfl, rfl, rfl, by decide +kernel, rfl, by decide +kernel, by decide +kernel⟩
theorem ok__law_bare (G : Gs mg) (E : Xs P w K mg base) (B : SysM base) (F : FunD K "_law_bare" "_law_bare" (defArgs (top 35)) (defBody (top 35)) (defScope (top 35)) [] [] f fd) : FnG P w K mg base 1 f fd [] (spD K mg 0 f__law_bare) :=
  fn_ok (k := 0) F sc__law_bare fun cdv A outer s H Ex hg hr => by
  have c := cxe_of (P := P) (w := w) (K := K) (mg := mg) (base := base) (N := ["_law_found"]) (outer := outer) (H := H) (E := Ex) (k := 0) sc__law_bare.nd hg hr B
  exact (xss_cons (xs_set c.nd rfl (by first | exact .inl rfl | exact .inr rfl) (xe_frz (xl_disp (xa_cons (xe_tup (xa_cons (xe_mk0 E.tbl E.x_BadBatch rfl) (xa_cons xe_int xa_nil))) (xa_cons (xe_tup (xa_cons (xe_mk0 E.tbl E.x_Busy rfl) (xa_cons xe_int xa_nil))) (xa_cons (xe_tup (xa_cons (xe_mk0 E.tbl E.x_LastWord rfl) (xa_cons xe_int xa_nil))) (xa_cons (xe_tup (xa_cons (xe_mk0 E.tbl E.x_NothingToUndo rfl) (xa_cons xe_int xa_nil))) (xa_cons (xe_tup (xa_cons (xe_mk0 E.tbl E.x_TooFew rfl) (xa_cons xe_int xa_nil))) xa_nil))))))))
    (xss_one (xs_ret (xe_bin ox_addA (xe_var 0) (xe_frz (xl_disp (xa_cons (xe_tup (xa_cons (xe_mk0 E.tbl E.x_TooGreat rfl) (xa_cons xe_int xa_nil))) (xa_cons (xe_tup (xa_cons (xe_mk0 E.tbl E.x_TooManyEdits rfl) (xa_cons xe_int xa_nil))) (xa_cons (xe_tup (xa_cons (xe_mk0 E.tbl E.x_Unlike rfl) (xa_cons xe_int xa_nil))) xa_nil)))))))))
theorem sc__law_single : FnScope ["_law_value", "_law_found"] ["_law_value"] (defScope (top 36)) := ⟨rfl, rfl, rfl, by decide +kernel, rfl, by decide +kernel, by decide +kernel⟩
theorem ok__law_single (G : Gs mg) (E : Xs P w K mg base) (B : SysM base) (F : FunD K "_law_single" "_law_single" (defArgs (top 36)) (defBody (top 36)) (defScope (top 36)) [] [] f fd) : FnG P w K mg base 3 f fd ["_law_value"] (spD K mg 1 f__law_single) :=
  fn_ok (k := 2) F sc__law_single fun cdv A outer s H Ex hg hr => by
  have c := cxe_of (P := P) (w := w) (K := K) (mg := mg) (base := base) (N := ["_law_value", "_law_found"]) (outer := outer) (H := H) (E := Ex) (k := 2) sc__law_single.nd hg hr B
  exact (xss_cons (xs_set c.nd rfl (by first | exact .inl rfl | exact .inr rfl) (xe_frz (xl_disp (xa_cons (xe_tup (xa_cons (xe_mk1 c (by decide) E.tbl E.x_BadAnswers rfl (xe_var 0)) (xa_cons xe_int xa_nil))) (xa_cons (xe_tup (xa_cons (xe_mk1 c (by decide) E.tbl E.x_BadBelief rfl (xe_var 0)) (xa_cons xe_int xa_nil))) (xa_cons (xe_tup (xa_cons (xe_mk1 c (by decide) E.tbl E.x_BadMark rfl (xe_var 0)) (xa_cons xe_int xa_nil))) (xa_cons (xe_tup (xa_cons (xe_mk1 c (by decide) E.tbl E.x_BadMenu rfl (xe_var 0)) (xa_cons xe_int xa_nil))) xa_nil)))))))
    (xss_cons (xs_set c.nd rfl (by first | exact .inl rfl | exact .inr rfl) (xe_bin ox_addA (xe_var 1) (xe_frz (xl_disp (xa_cons (xe_tup (xa_cons (xe_mk1 c (by decide) E.tbl E.x_BadNumber rfl (xe_var 0)) (xa_cons xe_int xa_nil))) (xa_cons (xe_tup (xa_cons (xe_mk1 c (by decide) E.tbl E.x_BadRow rfl (xe_var 0)) (xa_cons xe_int xa_nil))) (xa_cons (xe_tup (xa_cons (xe_mk1 c (by decide) E.tbl E.x_BadText rfl (xe_var 0)) (xa_cons xe_int xa_nil))) (xa_cons (xe_tup (xa_cons (xe_mk1 c (by decide) E.tbl E.x_NoAnswer rfl (xe_var 0)) (xa_cons xe_int xa_nil))) xa_nil))))))))
    (xss_cons (xs_set c.nd rfl (by first | exact .inl rfl | exact .inr rfl) (xe_bin ox_addA (xe_var 1) (xe_frz (xl_disp (xa_cons (xe_tup (xa_cons (xe_mk1 c (by decide) E.tbl E.x_NoCell rfl (xe_var 0)) (xa_cons xe_int xa_nil))) (xa_cons (xe_tup (xa_cons (xe_mk1 c (by decide) E.tbl E.x_NoVersion rfl (xe_var 0)) (xa_cons xe_int xa_nil))) (xa_cons (xe_tup (xa_cons (xe_mk1 c (by decide) E.tbl E.x_NoWord rfl (xe_var 0)) (xa_cons xe_int xa_nil))) (xa_cons (xe_tup (xa_cons (xe_mk1 c (by decide) E.tbl E.x_Rejected rfl (xe_var 0)) (xa_cons xe_int xa_nil))) xa_nil))))))))
    (xss_one (xs_ret (xe_bin ox_addA (xe_var 1) (xe_frz (xl_disp (xa_cons (xe_tup (xa_cons (xe_mk1 c (by decide) E.tbl E.x_TooMany rfl (xe_var 0)) (xa_cons xe_int xa_nil))) xa_nil)))))))))
theorem sc__law_kept : FnScope ["_law_one_here", "_law_other", "_law_found"] ["_law_one_here", "_law_other"] (defScope (top 37)) := ⟨rfl, rfl, rfl, by decide +kernel, rfl, by decide +kernel, by decide +kernel⟩
theorem ok__law_kept (G : Gs mg) (E : Xs P w K mg base) (B : SysM base) (F : FunD K "_law_kept" "_law_kept" (defArgs (top 37)) (defBody (top 37)) (defScope (top 37)) [] [] f fd) : FnG P w K mg base 3 f fd ["_law_one_here", "_law_other"] (spD K mg 2 f__law_kept) :=
  fn_ok (k := 2) F sc__law_kept fun cdv A outer s H Ex hg hr => by
  have c := cxe_of (P := P) (w := w) (K := K) (mg := mg) (base := base) (N := ["_law_one_here", "_law_other", "_law_found"]) (outer := outer) (H := H) (E := Ex) (k := 2) sc__law_kept.nd hg hr B
  exact (xss_cons (xs_set c.nd rfl (by first | exact .inl rfl | exact .inr rfl) (xe_frz (xl_disp (xa_cons (xe_xattr E.a_given (xe_mk1 c (by decide) E.tbl E.x_BadAnswers rfl (xe_var 0))) (xa_cons (xe_xattr E.a_given (xe_mk1 c (by decide) E.tbl E.x_BadBelief rfl (xe_var 0))) (xa_cons (xe_xattr E.a_given (xe_mk1 c (by decide) E.tbl E.x_BadMark rfl (xe_var 0))) (xa_cons (xe_xattr E.a_error (xe_mk1 c (by decide) E.tbl E.x_BadMenu rfl (xe_var 0))) xa_nil)))))))
    (xss_cons (xs_set c.nd rfl (by first | exact .inl rfl | exact .inr rfl) (xe_bin ox_addA (xe_var 2) (xe_frz (xl_disp (xa_cons (xe_xattr E.a_given (xe_mk1 c (by decide) E.tbl E.x_BadNumber rfl (xe_var 0))) (xa_cons (xe_xattr E.a_given (xe_mk1 c (by decide) E.tbl E.x_BadRow rfl (xe_var 0))) (xa_cons (xe_xattr E.a_given (xe_mk1 c (by decide) E.tbl E.x_BadText rfl (xe_var 0))) (xa_cons (xe_xattr E.a_given (xe_mk1 c (by decide) E.tbl E.x_NoAnswer rfl (xe_var 0))) xa_nil))))))))
    (xss_cons (xs_set c.nd rfl (by first | exact .inl rfl | exact .inr rfl) (xe_bin ox_addA (xe_var 2) (xe_frz (xl_disp (xa_cons (xe_xattr E.a_word (xe_mk1 c (by decide) E.tbl E.x_NoCell rfl (xe_var 0))) (xa_cons (xe_xattr E.a_given (xe_mk1 c (by decide) E.tbl E.x_NoVersion rfl (xe_var 0))) (xa_cons (xe_xattr E.a_given (xe_mk1 c (by decide) E.tbl E.x_NoWord rfl (xe_var 0))) (xa_cons (xe_xattr E.a_index (xe_mk1 c (by decide) E.tbl E.x_Rejected rfl (xe_var 0))) xa_nil))))))))
    (xss_one (xs_ret (xe_bin ox_addA (xe_var 2) (xe_frz (xl_disp (xa_cons (xe_xattr E.a_limit (xe_mk1 c (by decide) E.tbl E.x_TooMany rfl (xe_var 0))) (xa_cons (xe_xattr E.a_word (xe_mk2 c (by decide) E.tbl E.x_NotFrank rfl (xa_cons (xe_var 0) (xa_cons (xe_var 1) xa_nil)))) (xa_cons (xe_xattr E.a_weights (xe_mk2 c (by decide) E.tbl E.x_NotFrank rfl (xa_cons (xe_var 1) (xa_cons (xe_var 0) xa_nil)))) xa_nil)))))))))))
theorem sc_law : FnScope ["_law_script", "_law_box", "_law_limits", "_law_turn", "_law_some", "_law_value", "_law_other", "_law_error", "_law_place", "_law_flags_here", "_law_kept_here", "_law_marker"] ["_law_script"] (defScope (top 38)) := ⟨rfl, rfl, rfl, by decide +kernel, rfl, by decide +kernel, by decide +kernel⟩
theorem ok_law (G : Gs mg) (E : Xs P w K mg base) (B : SysM base) (h__law_bare : Fn P w K mg base 1 "_law_bare" [] [] f__law_bare) (h__law_flags : Fn P w K mg base 1 "_law_flags" ["_law_error"] [] f__law_flags) (h__law_kept : Fn P w K mg base 3 "_law_kept" ["_law_one_here", "_law_other"] [] f__law_kept) (h__law_one : Fn P w K mg base 2 "_law_one" ["_law_box", "_law_items"] [] f__law_one) (h__law_opened : Fn P w K mg base 1 "_law_opened" ["_law_script"] [] f__law_opened) (h__law_single : Fn P w K mg base 3 "_law_single" ["_law_value"] [] f__law_single) (F : FunD K "law" "law" (defArgs (top 38)) (defBody (top 38)) (defScope (top 38)) [] [] f fd) : FnG P w K mg base 4 f fd ["_law_script"] (spD K mg 1 f_law_k01) :=
  fn_ok (k := 3) F sc_law fun cdv A outer s H Ex hg hr => by
  have c := cxe_of (P := P) (w := w) (K := K) (mg := mg) (base := base) (N := ["_law_script", "_law_box", "_law_limits", "_law_turn", "_law_some", "_law_value", "_law_other", "_law_error", "_law_place", "_law_flags_here", "_law_kept_here", "_law_marker"]) (outer := outer) (H := H) (E := Ex) (k := 3) sc_law.nd hg hr B
  exact (xss_cons (xs_set c.nd rfl (by first | exact .inl rfl | exact .inr rfl) (xe_fn h__law_opened c (by decide) rfl (xa_cons (xe_var 0) xa_nil) (alen_cons alen_nil)))
    (xss_cons (xs_set c.nd rfl (by first | exact .inl rfl | exact .inr rfl) (xe_frz (xl_disp (xa_cons (xe_gint rfl G.c_MAX_ANSWERS) (xa_cons (xe_gint rfl G.c_MAX_BATCH) (xa_cons (xe_gint rfl G.c_MAX_BOOK) (xa_cons (xe_gint rfl G.c_MAX_EDITS) (xa_cons (xe_gint rfl G.c_MAX_MARK) (xa_cons (xe_gint rfl G.c_MAX_WORDS) xa_nil)))))))))
    (xss_cons (xs_if (xt_cmp (ox_neA c.u64) (xe_callB (cx_reprR c.g c.u64 c.sm) rfl G.b_repr (by decide +kernel) (xa_cons (xe_var 2) xa_nil)) (xe_callB (cx_reprR c.g c.u64 c.sm) rfl G.b_repr (by decide +kernel) (xa_cons (xe_frz (xl_disp (xa_cons xe_int (xa_cons xe_int (xa_cons xe_int (xa_cons xe_int (xa_cons (xe_bin ox_pow xe_int xe_int) (xa_cons xe_int xa_nil)))))))) xa_nil)) rfl) (xss_one (xs_ret xe_bl)) xss_nil)
    (xss_cons (xs_for own_of c.calm (xi_range1 rfl G.b_range (xa_cons xe_int xa_nil)) (gd_name c.nd rfl (by first | exact .inl rfl | exact .inr rfl))
   (xss_cons (xs_set c.nd rfl (by first | exact .inl rfl | exact .inr rfl) (xe_frz (xl_disp (xa_cons xe_non (xa_cons xe_bl (xa_cons xe_int (xa_cons (xe_un ux_neg xe_int) (xa_cons (xe_bin ox_pow xe_int xe_int) (xa_cons xe_str (xa_cons xe_str (xa_cons (xe_tup xa_nil) (xa_cons (xe_tup (xa_cons xe_int (xa_cons xe_int xa_nil))) (xa_cons (xe_frz (xl_disp xa_nil)) (xa_cons (xe_frz (xl_disp (xa_cons xe_int xa_nil))) (xa_cons xe_dct0 (xa_cons (xe_dct (xp_cons pe_str xe_int xp_nil)) (xa_cons (xe_tup (xa_cons (xe_tup (xa_cons xe_int (xa_cons xe_non xa_nil))) (xa_cons xe_str xa_nil))) xa_nil)))))))))))))))))
    (xss_cons (xs_par c.calm c.nd rfl rfl (by decide) rfl rfl (xa_cons (xe_fn h__law_one c (by decide) rfl (xa_cons (xe_var 1) (xa_cons (xe_var 4) xa_nil)) (alen_cons (alen_cons alen_nil))) (xa_cons (xe_fn h__law_one c (by decide) rfl (xa_cons (xe_var 1) (xa_cons (xe_frz (xl_disp (xa_cons xe_non (xa_cons xe_int (xa_cons (xe_tup (xa_cons xe_int xa_nil)) (xa_cons (xe_frz (xl_disp (xa_cons xe_int xa_nil))) (xa_cons xe_str xa_nil))))))) xa_nil)) (alen_cons (alen_cons alen_nil))) xa_nil)) rfl)
    (xss_cons (xs_for own_of c.calm (xi_seq (xe_bin ox_addA (xe_bin ox_addA (xe_fn0 h__law_bare c (by decide) rfl) (xe_fn h__law_single c (by decide) rfl (xa_cons (xe_var 5) xa_nil) (alen_cons alen_nil))) (xe_frz (xl_disp (xa_cons (xe_tup (xa_cons (xe_mk2 c (by decide) E.tbl E.x_NotFrank rfl (xa_cons (xe_var 5) (xa_cons (xe_var 6) xa_nil))) (xa_cons xe_int xa_nil))) xa_nil))))) (gd_tup c.calm (gds_cons (gd_name c.nd rfl (by first | exact .inl rfl | exact .inr rfl)) (gds_cons (gd_name c.nd rfl (by first | exact .inl rfl | exact .inr rfl)) gds_nil)))
   (xss_cons (xs_set c.nd rfl (by first | exact .inl rfl | exact .inr rfl) (xe_fn h__law_flags c (by decide) rfl (xa_cons (xe_var 7) xa_nil) (alen_cons alen_nil)))
    (xss_cons (xs_if (xt_w (xw_or (xt_cmp (ox_neA c.u64) (xe_count c.u65 (xe_var 9) xe_bl) xe_int rfl) (xw_or1 (xt_cmp (ox_neA c.u64) (xe_index c.u65 (xe_var 9) xe_bl) (xe_var 8) rfl)))) (xss_one (xs_ret xe_bl)) xss_nil)
    (xss_one (xs_if (xt_w (xw_or (xt_not (xt_val (xe_isX E.i_FrankError (xe_var 7) rfl G.b_isinstance rfl))) (xw_or1 (xt_not (xt_val (xe_isV E.ve (xe_var 7) rfl G.b_isinstance rfl G.b_ValueError)))))) (xss_one (xs_ret xe_bl)) xss_nil)))))
    (xss_cons (xs_set c.nd rfl (by first | exact .inl rfl | exact .inr rfl) (xe_fn h__law_kept c (by decide) rfl (xa_cons (xe_var 5) (xa_cons (xe_var 6) xa_nil)) (alen_cons (alen_cons alen_nil))))
    (xss_cons (xs_if (xt_cmp (ox_neA c.u64) (xe_callB (cx_reprR c.g c.u64 c.sm) rfl G.b_repr (by decide +kernel) (xa_cons (xe_var 10) xa_nil)) (xe_callB (cx_reprR c.g c.u64 c.sm) rfl G.b_repr (by decide +kernel) (xa_cons (xe_bin ox_mulA (xe_frz (xl_disp (xa_cons (xe_var 5) xa_nil))) (xe_callB cx_len rfl G.b_len (by decide +kernel) (xa_cons (xe_var 10) xa_nil))) xa_nil)) rfl) (xss_one (xs_ret xe_bl)) xss_nil)
    (xss_cons (xs_set c.nd rfl (by first | exact .inl rfl | exact .inr rfl) (xe_cell (xl_disp (xa_cons (xe_var 5) xa_nil))))
    (xss_cons (xs_set c.nd rfl (by first | exact .inl rfl | exact .inr rfl) (xe_fn h__law_kept c (by decide) rfl (xa_cons (xe_var 11) (xa_cons (xe_var 6) xa_nil)) (alen_cons (alen_cons alen_nil))))
    (xss_cons (xs_expr (xe_app (xe_var 11) xe_int))
    (xss_one (xs_if (xt_cmp (ox_neA c.u64) (xe_callB (cx_reprR c.g c.u64 c.sm) rfl G.b_repr (by decide +kernel) (xa_cons (xe_var 10) xa_nil)) (xe_callB (cx_reprR c.g c.u64 c.sm) rfl G.b_repr (by decide +kernel) (xa_cons (xe_bin ox_mulA (xe_frz (xl_disp (xa_cons (xe_var 11) xa_nil))) (xe_callB cx_len rfl G.b_len (by decide +kernel) (xa_cons (xe_var 10) xa_nil))) xa_nil)) rfl) (xss_one (xs_ret xe_bl)) xss_nil)))))))))))
    (xss_one (xs_ret xe_bl))))))
end
end K01
end
set_option Elab.async false
set_option linter.all false
set_option maxRecDepth 100000
set_option maxHeartbeats 0
noncomputable section
namespace K01
open PySem PySem.Spec PyProof.Rows L2 Fk Sm
def d__law_opened : He.DefD := ⟨("_law_opened", none), "_law_opened", "_law_opened", defArgs (top 31), defBody (top 31), defScope (top 31), [], []⟩
def d__law_draw : He.DefD := ⟨("_law_draw", none), "_law_draw", "_law_draw", defArgs (top 32), defBody (top 32), defScope (top 32), [], []⟩
def d__law_one : He.DefD := ⟨("_law_one", none), "_law_one", "_law_one", defArgs (top 33), defBody (top 33), defScope (top 33), [], []⟩
def d__law_flags : He.DefD := ⟨("_law_flags", none), "_law_flags", "_law_flags", defArgs (top 34), defBody (top 34), defScope (top 34), [], []⟩
def d__law_bare : He.DefD := ⟨("_law_bare", none), "_law_bare", "_law_bare", defArgs (top 35), defBody (top 35), defScope (top 35), [], []⟩
def d__law_single : He.DefD := ⟨("_law_single", none), "_law_single", "_law_single", defArgs (top 36), defBody (top 36), defScope (top 36), [], []⟩
def d__law_kept : He.DefD := ⟨("_law_kept", none), "_law_kept", "_law_kept", defArgs (top 37), defBody (top 37), defScope (top 37), [], []⟩
def d_law : He.DefD := ⟨("law", none), "law", "law", defArgs (top 38), defBody (top 38), defScope (top 38), [], []⟩
def di_BadAnswers : He.DefD := ⟨("BadAnswers", some "__init__"), "__init__", "BadAnswers.__init__", defArgs (inC (top 2) 0), defBody (inC (top 2) 0), defScope (inC (top 2) 0), [], []⟩
def di_BadBelief : He.DefD := ⟨("BadBelief", some "__init__"), "__init__", "BadBelief.__init__", defArgs (inC (top 4) 0), defBody (inC (top 4) 0), defScope (inC (top 4) 0), [], []⟩
def di_BadMark : He.DefD := ⟨("BadMark", some "__init__"), "__init__", "BadMark.__init__", defArgs (inC (top 5) 0), defBody (inC (top 5) 0), defScope (inC (top 5) 0), [], []⟩
def di_BadMenu : He.DefD := ⟨("BadMenu", some "__init__"), "__init__", "BadMenu.__init__", defArgs (inC (top 6) 0), defBody (inC (top 6) 0), defScope (inC (top 6) 0), [], []⟩
def di_BadNumber : He.DefD := ⟨("BadNumber", some "__init__"), "__init__", "BadNumber.__init__", defArgs (inC (top 7) 0), defBody (inC (top 7) 0), defScope (inC (top 7) 0), [], []⟩
def di_BadRow : He.DefD := ⟨("BadRow", some "__init__"), "__init__", "BadRow.__init__", defArgs (inC (top 8) 0), defBody (inC (top 8) 0), defScope (inC (top 8) 0), [], []⟩
def di_BadText : He.DefD := ⟨("BadText", some "__init__"), "__init__", "BadText.__init__", defArgs (inC (top 9) 0), defBody (inC (top 9) 0), defScope (inC (top 9) 0), [], []⟩
def di_NoAnswer : He.DefD := ⟨("NoAnswer", some "__init__"), "__init__", "NoAnswer.__init__", defArgs (inC (top 12) 0), defBody (inC (top 12) 0), defScope (inC (top 12) 0), [], []⟩
def di_NoCell : He.DefD := ⟨("NoCell", some "__init__"), "__init__", "NoCell.__init__", defArgs (inC (top 13) 0), defBody (inC (top 13) 0), defScope (inC (top 13) 0), [], []⟩
def di_NoVersion : He.DefD := ⟨("NoVersion", some "__init__"), "__init__", "NoVersion.__init__", defArgs (inC (top 14) 0), defBody (inC (top 14) 0), defScope (inC (top 14) 0), [], []⟩
def di_NoWord : He.DefD := ⟨("NoWord", some "__init__"), "__init__", "NoWord.__init__", defArgs (inC (top 15) 0), defBody (inC (top 15) 0), defScope (inC (top 15) 0), [], []⟩
def di_NotFrank : He.DefD := ⟨("NotFrank", some "__init__"), "__init__", "NotFrank.__init__", defArgs (inC (top 16) 0), defBody (inC (top 16) 0), defScope (inC (top 16) 0), [], []⟩
def di_Rejected : He.DefD := ⟨("Rejected", some "__init__"), "__init__", "Rejected.__init__", defArgs (inC (top 18) 0), defBody (inC (top 18) 0), defScope (inC (top 18) 0), [], []⟩
def di_TooMany : He.DefD := ⟨("TooMany", some "__init__"), "__init__", "TooMany.__init__", defArgs (inC (top 21) 0), defBody (inC (top 21) 0), defScope (inC (top 21) 0), [], []⟩
def fn : List He.DefD := [d__law_opened, d__law_draw, d__law_one, d__law_flags, d__law_bare, d__law_single, d__law_kept, d_law, di_BadAnswers, di_BadBelief, di_BadMark, di_BadMenu, di_BadNumber, di_BadRow, di_BadText, di_NoAnswer, di_NoCell, di_NoVersion, di_NoWord, di_NotFrank, di_Rejected, di_TooMany]
def pl : PrL := []
def fa : List He.Fa := [.glo "_law_opened", .glo "_law_draw", .glo "_law_one", .glo "_law_flags", .glo "_law_bare", .glo "_law_single", .glo "_law_kept", .glo "law", .free "ValueError", .free "abs", .free "int", .free "isinstance", .free "len", .free "range", .free "repr", .int "MAX_ANSWERS" 4, .int "MAX_BATCH" 20, .int "MAX_BOOK" 6, .int "MAX_EDITS" 40, .int "MAX_MARK" 1000000, .int "MAX_WORDS" 8, .glo "FrankError", .glo "BadAnswers", .glo "BadBatch", .glo "BadBelief", .glo "BadMark", .glo "BadMenu", .glo "BadNumber", .glo "BadRow", .glo "BadText", .glo "Busy", .glo "LastWord", .glo "NoAnswer", .glo "NoCell", .glo "NotFrank", .glo "NothingToUndo", .glo "NoVersion", .glo "NoWord", .glo "Rejected", .glo "TooFew", .glo "TooGreat", .glo "TooMany", .glo "TooManyEdits", .glo "Unlike", .exc "BadBatch", .exc "Busy", .exc "LastWord", .exc "NothingToUndo", .exc "TooFew", .exc "TooGreat", .exc "TooManyEdits", .exc "Unlike"]
def xl : List Xc := [.oex "BadAnswers" "given", .oex "BadBelief" "given", .oex "BadMark" "given", .oex "BadMenu" "error", .oex "BadNumber" "given", .oex "BadRow" "given", .oex "BadText" "given", .oex "NoAnswer" "given", .oex "NoCell" "word", .oex "NoVersion" "given", .oex "NoWord" "given", .oex "NotFrank" "weights", .oex "NotFrank" "word", .oex "Rejected" "index", .oex "TooMany" "limit", .isx "FrankError", .kit "FrankError" "BadAnswers" false, .isx "BadAnswers", .kit "BadAnswers" "BadAnswers" true, .isx "BadBatch", .kit "BadBatch" "BadAnswers" false, .isx "BadBelief", .kit "BadBelief" "BadAnswers" false, .isx "BadMark", .kit "BadMark" "BadAnswers" false, .isx "BadMenu", .kit "BadMenu" "BadAnswers" false, .isx "BadNumber", .kit "BadNumber" "BadAnswers" false, .isx "BadRow", .kit "BadRow" "BadAnswers" false, .isx "BadText", .kit "BadText" "BadAnswers" false, .isx "Busy", .kit "Busy" "BadAnswers" false, .isx "LastWord", .kit "LastWord" "BadAnswers" false, .isx "NoAnswer", .kit "NoAnswer" "BadAnswers" false, .isx "NoCell", .kit "NoCell" "BadAnswers" false, .isx "NotFrank", .kit "NotFrank" "BadAnswers" false, .isx "NothingToUndo", .kit "NothingToUndo" "BadAnswers" false, .isx "NoVersion", .kit "NoVersion" "BadAnswers" false, .isx "NoWord", .kit "NoWord" "BadAnswers" false, .isx "Rejected", .kit "Rejected" "BadAnswers" false, .isx "TooFew", .kit "TooFew" "BadAnswers" false, .isx "TooGreat", .kit "TooGreat" "BadAnswers" false, .isx "TooMany", .kit "TooMany" "BadAnswers" false, .isx "TooManyEdits", .kit "TooManyEdits" "BadAnswers" false, .isx "Unlike", .kit "Unlike" "BadAnswers" false, .kit "FrankError" "BadBatch" false, .kit "BadAnswers" "BadBatch" false, .kit "BadBatch" "BadBatch" true, .kit "BadBelief" "BadBatch" false, .kit "BadMark" "BadBatch" false, .kit "BadMenu" "BadBatch" false, .kit "BadNumber" "BadBatch" false, .kit "BadRow" "BadBatch" false, .kit "BadText" "BadBatch" false, .kit "Busy" "BadBatch" false, .kit "LastWord" "BadBatch" false, .kit "NoAnswer" "BadBatch" false, .kit "NoCell" "BadBatch" false, .kit "NotFrank" "BadBatch" false, .kit "NothingToUndo" "BadBatch" false, .kit "NoVersion" "BadBatch" false, .kit "NoWord" "BadBatch" false, .kit "Rejected" "BadBatch" false, .kit "TooFew" "BadBatch" false, .kit "TooGreat" "BadBatch" false, .kit "TooMany" "BadBatch" false, .kit "TooManyEdits" "BadBatch" false, .kit "Unlike" "BadBatch" false, .kit "FrankError" "BadBelief" false, .kit "BadAnswers" "BadBelief" false, .kit "BadBatch" "BadBelief" false, .kit "BadBelief" "BadBelief" true, .kit "BadMark" "BadBelief" false, .kit "BadMenu" "BadBelief" false, .kit "BadNumber" "BadBelief" false, .kit "BadRow" "BadBelief" false, .kit "BadText" "BadBelief" false, .kit "Busy" "BadBelief" false, .kit "LastWord" "BadBelief" false, .kit "NoAnswer" "BadBelief" false, .kit "NoCell" "BadBelief" false, .kit "NotFrank" "BadBelief" false, .kit "NothingToUndo" "BadBelief" false, .kit "NoVersion" "BadBelief" false, .kit "NoWord" "BadBelief" false, .kit "Rejected" "BadBelief" false, .kit "TooFew" "BadBelief" false, .kit "TooGreat" "BadBelief" false, .kit "TooMany" "BadBelief" false, .kit "TooManyEdits" "BadBelief" false, .kit "Unlike" "BadBelief" false, .kit "FrankError" "BadMark" false, .kit "BadAnswers" "BadMark" false, .kit "BadBatch" "BadMark" false, .kit "BadBelief" "BadMark" false, .kit "BadMark" "BadMark" true, .kit "BadMenu" "BadMark" false, .kit "BadNumber" "BadMark" false, .kit "BadRow" "BadMark" false, .kit "BadText" "BadMark" false, .kit "Busy" "BadMark" false, .kit "LastWord" "BadMark" false, .kit "NoAnswer" "BadMark" false, .kit "NoCell" "BadMark" false, .kit "NotFrank" "BadMark" false, .kit "NothingToUndo" "BadMark" false, .kit "NoVersion" "BadMark" false, .kit "NoWord" "BadMark" false, .kit "Rejected" "BadMark" false, .kit "TooFew" "BadMark" false, .kit "TooGreat" "BadMark" false, .kit "TooMany" "BadMark" false, .kit "TooManyEdits" "BadMark" false, .kit "Unlike" "BadMark" false, .kit "FrankError" "BadMenu" false, .kit "BadAnswers" "BadMenu" false, .kit "BadBatch" "BadMenu" false, .kit "BadBelief" "BadMenu" false, .kit "BadMark" "BadMenu" false, .kit "BadMenu" "BadMenu" true, .kit "BadNumber" "BadMenu" false, .kit "BadRow" "BadMenu" false, .kit "BadText" "BadMenu" false, .kit "Busy" "BadMenu" false, .kit "LastWord" "BadMenu" false, .kit "NoAnswer" "BadMenu" false, .kit "NoCell" "BadMenu" false, .kit "NotFrank" "BadMenu" false, .kit "NothingToUndo" "BadMenu" false, .kit "NoVersion" "BadMenu" false, .kit "NoWord" "BadMenu" false, .kit "Rejected" "BadMenu" false, .kit "TooFew" "BadMenu" false, .kit "TooGreat" "BadMenu" false, .kit "TooMany" "BadMenu" false, .kit "TooManyEdits" "BadMenu" false, .kit "Unlike" "BadMenu" false, .kit "FrankError" "BadNumber" false, .kit "BadAnswers" "BadNumber" false, .kit "BadBatch" "BadNumber" false, .kit "BadBelief" "BadNumber" false, .kit "BadMark" "BadNumber" false, .kit "BadMenu" "BadNumber" false, .kit "BadNumber" "BadNumber" true, .kit "BadRow" "BadNumber" false, .kit "BadText" "BadNumber" false, .kit "Busy" "BadNumber" false, .kit "LastWord" "BadNumber" false, .kit "NoAnswer" "BadNumber" false, .kit "NoCell" "BadNumber" false, .kit "NotFrank" "BadNumber" false, .kit "NothingToUndo" "BadNumber" false, .kit "NoVersion" "BadNumber" false, .kit "NoWord" "BadNumber" false, .kit "Rejected" "BadNumber" false, .kit "TooFew" "BadNumber" false, .kit "TooGreat" "BadNumber" false, .kit "TooMany" "BadNumber" false, .kit "TooManyEdits" "BadNumber" false, .kit "Unlike" "BadNumber" false, .kit "FrankError" "BadRow" false, .kit "BadAnswers" "BadRow" false, .kit "BadBatch" "BadRow" false, .kit "BadBelief" "BadRow" false, .kit "BadMark" "BadRow" false, .kit "BadMenu" "BadRow" false, .kit "BadNumber" "BadRow" false, .kit "BadRow" "BadRow" true, .kit "BadText" "BadRow" false, .kit "Busy" "BadRow" false, .kit "LastWord" "BadRow" false, .kit "NoAnswer" "BadRow" false, .kit "NoCell" "BadRow" false, .kit "NotFrank" "BadRow" false, .kit "NothingToUndo" "BadRow" false, .kit "NoVersion" "BadRow" false, .kit "NoWord" "BadRow" false, .kit "Rejected" "BadRow" false, .kit "TooFew" "BadRow" false, .kit "TooGreat" "BadRow" false, .kit "TooMany" "BadRow" false, .kit "TooManyEdits" "BadRow" false, .kit "Unlike" "BadRow" false, .kit "FrankError" "BadText" false, .kit "BadAnswers" "BadText" false, .kit "BadBatch" "BadText" false, .kit "BadBelief" "BadText" false, .kit "BadMark" "BadText" false, .kit "BadMenu" "BadText" false, .kit "BadNumber" "BadText" false, .kit "BadRow" "BadText" false, .kit "BadText" "BadText" true, .kit "Busy" "BadText" false, .kit "LastWord" "BadText" false, .kit "NoAnswer" "BadText" false, .kit "NoCell" "BadText" false, .kit "NotFrank" "BadText" false, .kit "NothingToUndo" "BadText" false, .kit "NoVersion" "BadText" false, .kit "NoWord" "BadText" false, .kit "Rejected" "BadText" false, .kit "TooFew" "BadText" false, .kit "TooGreat" "BadText" false, .kit "TooMany" "BadText" false, .kit "TooManyEdits" "BadText" false, .kit "Unlike" "BadText" false, .kit "FrankError" "Busy" false, .kit "BadAnswers" "Busy" false, .kit "BadBatch" "Busy" false, .kit "BadBelief" "Busy" false, .kit "BadMark" "Busy" false, .kit "BadMenu" "Busy" false, .kit "BadNumber" "Busy" false, .kit "BadRow" "Busy" false, .kit "BadText" "Busy" false, .kit "Busy" "Busy" true, .kit "LastWord" "Busy" false, .kit "NoAnswer" "Busy" false, .kit "NoCell" "Busy" false, .kit "NotFrank" "Busy" false, .kit "NothingToUndo" "Busy" false, .kit "NoVersion" "Busy" false, .kit "NoWord" "Busy" false, .kit "Rejected" "Busy" false, .kit "TooFew" "Busy" false, .kit "TooGreat" "Busy" false, .kit "TooMany" "Busy" false, .kit "TooManyEdits" "Busy" false, .kit "Unlike" "Busy" false, .kit "FrankError" "FrankError" true, .kit "BadAnswers" "FrankError" true, .kit "BadBatch" "FrankError" true, .kit "BadBelief" "FrankError" true, .kit "BadMark" "FrankError" true, .kit "BadMenu" "FrankError" true, .kit "BadNumber" "FrankError" true, .kit "BadRow" "FrankError" true, .kit "BadText" "FrankError" true, .kit "Busy" "FrankError" true, .kit "LastWord" "FrankError" true, .kit "NoAnswer" "FrankError" true, .kit "NoCell" "FrankError" true, .kit "NotFrank" "FrankError" true, .kit "NothingToUndo" "FrankError" true, .kit "NoVersion" "FrankError" true, .kit "NoWord" "FrankError" true, .kit "Rejected" "FrankError" true, .kit "TooFew" "FrankError" true, .kit "TooGreat" "FrankError" true, .kit "TooMany" "FrankError" true, .kit "TooManyEdits" "FrankError" true, .kit "Unlike" "FrankError" true, .kit "FrankError" "LastWord" false, .kit "BadAnswers" "LastWord" false, .kit "BadBatch" "LastWord" false, .kit "BadBelief" "LastWord" false, .kit "BadMark" "LastWord" false, .kit "BadMenu" "LastWord" false, .kit "BadNumber" "LastWord" false, .kit "BadRow" "LastWord" false, .kit "BadText" "LastWord" false, .kit "Busy" "LastWord" false, .kit "LastWord" "LastWord" true, .kit "NoAnswer" "LastWord" false, .kit "NoCell" "LastWord" false, .kit "NotFrank" "LastWord" false, .kit "NothingToUndo" "LastWord" false, .kit "NoVersion" "LastWord" false, .kit "NoWord" "LastWord" false, .kit "Rejected" "LastWord" false, .kit "TooFew" "LastWord" false, .kit "TooGreat" "LastWord" false, .kit "TooMany" "LastWord" false, .kit "TooManyEdits" "LastWord" false, .kit "Unlike" "LastWord" false, .kit "FrankError" "NoAnswer" false, .kit "BadAnswers" "NoAnswer" false, .kit "BadBatch" "NoAnswer" false, .kit "BadBelief" "NoAnswer" false, .kit "BadMark" "NoAnswer" false, .kit "BadMenu" "NoAnswer" false, .kit "BadNumber" "NoAnswer" false, .kit "BadRow" "NoAnswer" false, .kit "BadText" "NoAnswer" false, .kit "Busy" "NoAnswer" false, .kit "LastWord" "NoAnswer" false, .kit "NoAnswer" "NoAnswer" true, .kit "NoCell" "NoAnswer" false, .kit "NotFrank" "NoAnswer" false, .kit "NothingToUndo" "NoAnswer" false, .kit "NoVersion" "NoAnswer" false, .kit "NoWord" "NoAnswer" false, .kit "Rejected" "NoAnswer" false, .kit "TooFew" "NoAnswer" false, .kit "TooGreat" "NoAnswer" false, .kit "TooMany" "NoAnswer" false, .kit "TooManyEdits" "NoAnswer" false, .kit "Unlike" "NoAnswer" false, .kit "FrankError" "NoCell" false, .kit "BadAnswers" "NoCell" false, .kit "BadBatch" "NoCell" false, .kit "BadBelief" "NoCell" false, .kit "BadMark" "NoCell" false, .kit "BadMenu" "NoCell" false, .kit "BadNumber" "NoCell" false, .kit "BadRow" "NoCell" false, .kit "BadText" "NoCell" false, .kit "Busy" "NoCell" false, .kit "LastWord" "NoCell" false, .kit "NoAnswer" "NoCell" false, .kit "NoCell" "NoCell" true, .kit "NotFrank" "NoCell" false, .kit "NothingToUndo" "NoCell" false, .kit "NoVersion" "NoCell" false, .kit "NoWord" "NoCell" false, .kit "Rejected" "NoCell" false, .kit "TooFew" "NoCell" false, .kit "TooGreat" "NoCell" false, .kit "TooMany" "NoCell" false, .kit "TooManyEdits" "NoCell" false, .kit "Unlike" "NoCell" false, .kit "FrankError" "NoVersion" false, .kit "BadAnswers" "NoVersion" false, .kit "BadBatch" "NoVersion" false, .kit "BadBelief" "NoVersion" false, .kit "BadMark" "NoVersion" false, .kit "BadMenu" "NoVersion" false, .kit "BadNumber" "NoVersion" false, .kit "BadRow" "NoVersion" false, .kit "BadText" "NoVersion" false, .kit "Busy" "NoVersion" false, .kit "LastWord" "NoVersion" false, .kit "NoAnswer" "NoVersion" false, .kit "NoCell" "NoVersion" false, .kit "NotFrank" "NoVersion" false, .kit "NothingToUndo" "NoVersion" false, .kit "NoVersion" "NoVersion" true, .kit "NoWord" "NoVersion" false, .kit "Rejected" "NoVersion" false, .kit "TooFew" "NoVersion" false, .kit "TooGreat" "NoVersion" false, .kit "TooMany" "NoVersion" false, .kit "TooManyEdits" "NoVersion" false, .kit "Unlike" "NoVersion" false, .kit "FrankError" "NoWord" false, .kit "BadAnswers" "NoWord" false, .kit "BadBatch" "NoWord" false, .kit "BadBelief" "NoWord" false, .kit "BadMark" "NoWord" false, .kit "BadMenu" "NoWord" false, .kit "BadNumber" "NoWord" false, .kit "BadRow" "NoWord" false, .kit "BadText" "NoWord" false, .kit "Busy" "NoWord" false, .kit "LastWord" "NoWord" false, .kit "NoAnswer" "NoWord" false, .kit "NoCell" "NoWord" false, .kit "NotFrank" "NoWord" false, .kit "NothingToUndo" "NoWord" false, .kit "NoVersion" "NoWord" false, .kit "NoWord" "NoWord" true, .kit "Rejected" "NoWord" false, .kit "TooFew" "NoWord" false, .kit "TooGreat" "NoWord" false, .kit "TooMany" "NoWord" false, .kit "TooManyEdits" "NoWord" false, .kit "Unlike" "NoWord" false, .kit "FrankError" "NotFrank" false, .kit "BadAnswers" "NotFrank" false, .kit "BadBatch" "NotFrank" false, .kit "BadBelief" "NotFrank" false, .kit "BadMark" "NotFrank" false, .kit "BadMenu" "NotFrank" false, .kit "BadNumber" "NotFrank" false, .kit "BadRow" "NotFrank" false, .kit "BadText" "NotFrank" false, .kit "Busy" "NotFrank" false, .kit "LastWord" "NotFrank" false, .kit "NoAnswer" "NotFrank" false, .kit "NoCell" "NotFrank" false, .kit "NotFrank" "NotFrank" true, .kit "NothingToUndo" "NotFrank" false, .kit "NoVersion" "NotFrank" false, .kit "NoWord" "NotFrank" false, .kit "Rejected" "NotFrank" false, .kit "TooFew" "NotFrank" false, .kit "TooGreat" "NotFrank" false, .kit "TooMany" "NotFrank" false, .kit "TooManyEdits" "NotFrank" false, .kit "Unlike" "NotFrank" false, .kit "FrankError" "NothingToUndo" false, .kit "BadAnswers" "NothingToUndo" false, .kit "BadBatch" "NothingToUndo" false, .kit "BadBelief" "NothingToUndo" false, .kit "BadMark" "NothingToUndo" false, .kit "BadMenu" "NothingToUndo" false, .kit "BadNumber" "NothingToUndo" false, .kit "BadRow" "NothingToUndo" false, .kit "BadText" "NothingToUndo" false, .kit "Busy" "NothingToUndo" false, .kit "LastWord" "NothingToUndo" false, .kit "NoAnswer" "NothingToUndo" false, .kit "NoCell" "NothingToUndo" false, .kit "NotFrank" "NothingToUndo" false, .kit "NothingToUndo" "NothingToUndo" true, .kit "NoVersion" "NothingToUndo" false, .kit "NoWord" "NothingToUndo" false, .kit "Rejected" "NothingToUndo" false, .kit "TooFew" "NothingToUndo" false, .kit "TooGreat" "NothingToUndo" false, .kit "TooMany" "NothingToUndo" false, .kit "TooManyEdits" "NothingToUndo" false, .kit "Unlike" "NothingToUndo" false, .kit "FrankError" "Rejected" false, .kit "BadAnswers" "Rejected" false, .kit "BadBatch" "Rejected" false, .kit "BadBelief" "Rejected" false, .kit "BadMark" "Rejected" false, .kit "BadMenu" "Rejected" false, .kit "BadNumber" "Rejected" false, .kit "BadRow" "Rejected" false, .kit "BadText" "Rejected" false, .kit "Busy" "Rejected" false, .kit "LastWord" "Rejected" false, .kit "NoAnswer" "Rejected" false, .kit "NoCell" "Rejected" false, .kit "NotFrank" "Rejected" false, .kit "NothingToUndo" "Rejected" false, .kit "NoVersion" "Rejected" false, .kit "NoWord" "Rejected" false, .kit "Rejected" "Rejected" true, .kit "TooFew" "Rejected" false, .kit "TooGreat" "Rejected" false, .kit "TooMany" "Rejected" false, .kit "TooManyEdits" "Rejected" false, .kit "Unlike" "Rejected" false, .kit "FrankError" "TooFew" false, .kit "BadAnswers" "TooFew" false, .kit "BadBatch" "TooFew" false, .kit "BadBelief" "TooFew" false, .kit "BadMark" "TooFew" false, .kit "BadMenu" "TooFew" false, .kit "BadNumber" "TooFew" false, .kit "BadRow" "TooFew" false, .kit "BadText" "TooFew" false, .kit "Busy" "TooFew" false, .kit "LastWord" "TooFew" false, .kit "NoAnswer" "TooFew" false, .kit "NoCell" "TooFew" false, .kit "NotFrank" "TooFew" false, .kit "NothingToUndo" "TooFew" false, .kit "NoVersion" "TooFew" false, .kit "NoWord" "TooFew" false, .kit "Rejected" "TooFew" false, .kit "TooFew" "TooFew" true, .kit "TooGreat" "TooFew" false, .kit "TooMany" "TooFew" false, .kit "TooManyEdits" "TooFew" false, .kit "Unlike" "TooFew" false, .kit "FrankError" "TooGreat" false, .kit "BadAnswers" "TooGreat" false, .kit "BadBatch" "TooGreat" false, .kit "BadBelief" "TooGreat" false, .kit "BadMark" "TooGreat" false, .kit "BadMenu" "TooGreat" false, .kit "BadNumber" "TooGreat" false, .kit "BadRow" "TooGreat" false, .kit "BadText" "TooGreat" false, .kit "Busy" "TooGreat" false, .kit "LastWord" "TooGreat" false, .kit "NoAnswer" "TooGreat" false, .kit "NoCell" "TooGreat" false, .kit "NotFrank" "TooGreat" false, .kit "NothingToUndo" "TooGreat" false, .kit "NoVersion" "TooGreat" false, .kit "NoWord" "TooGreat" false, .kit "Rejected" "TooGreat" false, .kit "TooFew" "TooGreat" false, .kit "TooGreat" "TooGreat" true, .kit "TooMany" "TooGreat" false, .kit "TooManyEdits" "TooGreat" false, .kit "Unlike" "TooGreat" false, .kit "FrankError" "TooMany" false, .kit "BadAnswers" "TooMany" false, .kit "BadBatch" "TooMany" false, .kit "BadBelief" "TooMany" false, .kit "BadMark" "TooMany" false, .kit "BadMenu" "TooMany" false, .kit "BadNumber" "TooMany" false, .kit "BadRow" "TooMany" false, .kit "BadText" "TooMany" false, .kit "Busy" "TooMany" false, .kit "LastWord" "TooMany" false, .kit "NoAnswer" "TooMany" false, .kit "NoCell" "TooMany" false, .kit "NotFrank" "TooMany" false, .kit "NothingToUndo" "TooMany" false, .kit "NoVersion" "TooMany" false, .kit "NoWord" "TooMany" false, .kit "Rejected" "TooMany" false, .kit "TooFew" "TooMany" false, .kit "TooGreat" "TooMany" false, .kit "TooMany" "TooMany" true, .kit "TooManyEdits" "TooMany" false, .kit "Unlike" "TooMany" false, .kit "FrankError" "TooManyEdits" false, .kit "BadAnswers" "TooManyEdits" false, .kit "BadBatch" "TooManyEdits" false, .kit "BadBelief" "TooManyEdits" false, .kit "BadMark" "TooManyEdits" false, .kit "BadMenu" "TooManyEdits" false, .kit "BadNumber" "TooManyEdits" false, .kit "BadRow" "TooManyEdits" false, .kit "BadText" "TooManyEdits" false, .kit "Busy" "TooManyEdits" false, .kit "LastWord" "TooManyEdits" false, .kit "NoAnswer" "TooManyEdits" false, .kit "NoCell" "TooManyEdits" false, .kit "NotFrank" "TooManyEdits" false, .kit "NothingToUndo" "TooManyEdits" false, .kit "NoVersion" "TooManyEdits" false, .kit "NoWord" "TooManyEdits" false, .kit "Rejected" "TooManyEdits" false, .kit "TooFew" "TooManyEdits" false, .kit "TooGreat" "TooManyEdits" false, .kit "TooMany" "TooManyEdits" false, .kit "TooManyEdits" "TooManyEdits" true, .kit "Unlike" "TooManyEdits" false, .kit "FrankError" "Unlike" false, .kit "BadAnswers" "Unlike" false, .kit "BadBatch" "Unlike" false, .kit "BadBelief" "Unlike" false, .kit "BadMark" "Unlike" false, .kit "BadMenu" "Unlike" false, .kit "BadNumber" "Unlike" false, .kit "BadRow" "Unlike" false, .kit "BadText" "Unlike" false, .kit "Busy" "Unlike" false, .kit "LastWord" "Unlike" false, .kit "NoAnswer" "Unlike" false, .kit "NoCell" "Unlike" false, .kit "NotFrank" "Unlike" false, .kit "NothingToUndo" "Unlike" false, .kit "NoVersion" "Unlike" false, .kit "NoWord" "Unlike" false, .kit "Rejected" "Unlike" false, .kit "TooFew" "Unlike" false, .kit "TooGreat" "Unlike" false, .kit "TooMany" "Unlike" false, .kit "TooManyEdits" "Unlike" false, .kit "Unlike" "Unlike" true, .xf "BadMenu" "error", .xf "BadAnswers" "given", .xf "BadBelief" "given", .xf "BadMark" "given", .xf "BadNumber" "given", .xf "BadRow" "given", .xf "BadText" "given", .xf "NoAnswer" "given", .xf "NoVersion" "given", .xf "NoWord" "given", .xf "Rejected" "index", .xf "TooMany" "limit", .xf "NotFrank" "weights", .xf "NoCell" "word", .xf "NotFrank" "word"]
def kl : List Kf := [.kve "FrankError", .kve "BadAnswers", .kve "BadBatch", .kve "BadBelief", .kve "BadMark", .kve "BadMenu", .kve "BadNumber", .kve "BadRow", .kve "BadText", .kve "Busy", .kve "LastWord", .kve "NoAnswer", .kve "NoCell", .kve "NotFrank", .kve "NothingToUndo", .kve "NoVersion", .kve "NoWord", .kve "Rejected", .kve "TooFew", .kve "TooGreat", .kve "TooMany", .kve "TooManyEdits", .kve "Unlike"]
abbrev R : PySem.W.OpenRow := PySem.W.OpenLaw.row PySem.Challenge.rw_frankmarks_k01_limits_and_errors
def tn : List Str := ["law"]
abbrev hk : PySem.W.Hook := hookP (xctK tn xl kl) 6 fa fn pl
def ob (s : PySem.W.SharedT) : AlP := obsP (xctK tn xl kl) 6 fa fn pl (HandSHeadRun.getT s)
theorem ob_eq (s : PySem.W.SharedT) : ob s = hk.obs s.abs := obsP_eq (HandSHeadRun.getT_eq s)
def loose : List Str := (["FrankError", "BadAnswers", "BadBatch", "BadBelief", "BadMark", "BadMenu", "BadNumber", "BadRow", "BadText", "Busy", "LastWord", "NoAnswer", "NoCell", "NoVersion", "NoWord", "NotFrank", "NothingToUndo", "Rejected", "TooFew", "TooGreat", "TooMany", "TooManyEdits", "Unlike", "MAX_ANSWERS", "MAX_BATCH", "MAX_BOOK", "MAX_EDITS", "MAX_MARK", "MAX_WORDS", "_law_opened"] : List Str) ++ (["_law_draw", "_law_one", "_law_flags", "_law_bare", "_law_single", "_law_kept"] : List Str)
theorem run (w : World) : HandSHeadRun.RunEq R (PySem.W.view R.prog [38]) hk ob 20000 loose w := by
  intro os
  kernel_rfl
theorem facts {P : Program} {w : World} {K : PySem.W.Frag} {h : Heap} {mg : Str → Option Value} {f : Addr} (X : K.In h) (Gn : h.Ns mainGlobals mg) (hfa : mg ("law" : Str) = some (.ref f)) (c : He.SaysD fa fn K) (hs : (smB K && xctK tn xl kl K) = true) (hp : SaysP pl K) :
    ∃ fd : FuncData, (∀ (s : Shared) (v : Value), BindsTo s fd ⟨[v], []⟩ [("_law_script", v)]) ∧ ∀ base : Heap, K.In base → base.Ns mainGlobals mg → (∀ p ∈ tabsK K, LamX.TabB base mg p.1 p.2.1) → FnG P w K mg base 4 f fd ["_law_script"] (spD K mg 1 f_law_k01) := by
  obtain ⟨hs, hx⟩ := Bool.and_eq_true_iff.mp hs
  obtain ⟨hx, ht⟩ := Bool.and_eq_true_iff.mp hx
  obtain ⟨_, hx⟩ := Bool.and_eq_true_iff.mp hx
  obtain ⟨fd__law_opened, F__law_opened⟩ := c.def_ 0 (d := d__law_opened) rfl
  have m__law_opened := He.glo_ok X Gn (c.fact 0 (f := .glo "_law_opened") rfl)
  obtain ⟨fd__law_draw, F__law_draw⟩ := c.def_ 1 (d := d__law_draw) rfl
  have m__law_draw := He.glo_ok X Gn (c.fact 1 (f := .glo "_law_draw") rfl)
  obtain ⟨fd__law_one, F__law_one⟩ := c.def_ 2 (d := d__law_one) rfl
  have m__law_one := He.glo_ok X Gn (c.fact 2 (f := .glo "_law_one") rfl)
  obtain ⟨fd__law_flags, F__law_flags⟩ := c.def_ 3 (d := d__law_flags) rfl
  have m__law_flags := He.glo_ok X Gn (c.fact 3 (f := .glo "_law_flags") rfl)
  obtain ⟨fd__law_bare, F__law_bare⟩ := c.def_ 4 (d := d__law_bare) rfl
  have m__law_bare := He.glo_ok X Gn (c.fact 4 (f := .glo "_law_bare") rfl)
  obtain ⟨fd__law_single, F__law_single⟩ := c.def_ 5 (d := d__law_single) rfl
  have m__law_single := He.glo_ok X Gn (c.fact 5 (f := .glo "_law_single") rfl)
  obtain ⟨fd__law_kept, F__law_kept⟩ := c.def_ 6 (d := d__law_kept) rfl
  have m__law_kept := He.glo_ok X Gn (c.fact 6 (f := .glo "_law_kept") rfl)
  obtain ⟨fd_law, F_law⟩ := c.def_ 7 (d := d_law) rfl
  have m_law := He.glo_ok X Gn (c.fact 7 (f := .glo "law") rfl)
  obtain ⟨fdi_BadAnswers, Fi_BadAnswers⟩ := c.def_ 8 (d := di_BadAnswers) rfl
  obtain ⟨fdi_BadBelief, Fi_BadBelief⟩ := c.def_ 9 (d := di_BadBelief) rfl
  obtain ⟨fdi_BadMark, Fi_BadMark⟩ := c.def_ 10 (d := di_BadMark) rfl
  obtain ⟨fdi_BadMenu, Fi_BadMenu⟩ := c.def_ 11 (d := di_BadMenu) rfl
  obtain ⟨fdi_BadNumber, Fi_BadNumber⟩ := c.def_ 12 (d := di_BadNumber) rfl
  obtain ⟨fdi_BadRow, Fi_BadRow⟩ := c.def_ 13 (d := di_BadRow) rfl
  obtain ⟨fdi_BadText, Fi_BadText⟩ := c.def_ 14 (d := di_BadText) rfl
  obtain ⟨fdi_NoAnswer, Fi_NoAnswer⟩ := c.def_ 15 (d := di_NoAnswer) rfl
  obtain ⟨fdi_NoCell, Fi_NoCell⟩ := c.def_ 16 (d := di_NoCell) rfl
  obtain ⟨fdi_NoVersion, Fi_NoVersion⟩ := c.def_ 17 (d := di_NoVersion) rfl
  obtain ⟨fdi_NoWord, Fi_NoWord⟩ := c.def_ 18 (d := di_NoWord) rfl
  obtain ⟨fdi_NotFrank, Fi_NotFrank⟩ := c.def_ 19 (d := di_NotFrank) rfl
  obtain ⟨fdi_Rejected, Fi_Rejected⟩ := c.def_ 20 (d := di_Rejected) rfl
  obtain ⟨fdi_TooMany, Fi_TooMany⟩ := c.def_ 21 (d := di_TooMany) rfl
  have G : Gs mg := ⟨He.free_ok X Gn (c.fact 8 (f := .free "ValueError") rfl),
    He.free_ok X Gn (c.fact 9 (f := .free "abs") rfl),
    He.free_ok X Gn (c.fact 10 (f := .free "int") rfl),
    He.free_ok X Gn (c.fact 11 (f := .free "isinstance") rfl),
    He.free_ok X Gn (c.fact 12 (f := .free "len") rfl),
    He.free_ok X Gn (c.fact 13 (f := .free "range") rfl),
    He.free_ok X Gn (c.fact 14 (f := .free "repr") rfl),
    He.int_ok X Gn (c.fact 15 (f := .int "MAX_ANSWERS" 4) rfl),
    He.int_ok X Gn (c.fact 16 (f := .int "MAX_BATCH" 20) rfl),
    He.int_ok X Gn (c.fact 17 (f := .int "MAX_BOOK" 6) rfl),
    He.int_ok X Gn (c.fact 18 (f := .int "MAX_EDITS" 40) rfl),
    He.int_ok X Gn (c.fact 19 (f := .int "MAX_MARK" 1000000) rfl),
    He.int_ok X Gn (c.fact 20 (f := .int "MAX_WORDS" 8) rfl)⟩
  have e_FrankError := c.fact 21 (f := .glo "FrankError") rfl
  have em_FrankError := He.glo_ok X Gn e_FrankError
  have en_FrankError := ga_ns e_FrankError
  have e_BadAnswers := c.fact 22 (f := .glo "BadAnswers") rfl
  have em_BadAnswers := He.glo_ok X Gn e_BadAnswers
  have en_BadAnswers := ga_ns e_BadAnswers
  have e_BadBatch := c.fact 23 (f := .glo "BadBatch") rfl
  have em_BadBatch := He.glo_ok X Gn e_BadBatch
  have en_BadBatch := ga_ns e_BadBatch
  have e_BadBelief := c.fact 24 (f := .glo "BadBelief") rfl
  have em_BadBelief := He.glo_ok X Gn e_BadBelief
  have en_BadBelief := ga_ns e_BadBelief
  have e_BadMark := c.fact 25 (f := .glo "BadMark") rfl
  have em_BadMark := He.glo_ok X Gn e_BadMark
  have en_BadMark := ga_ns e_BadMark
  have e_BadMenu := c.fact 26 (f := .glo "BadMenu") rfl
  have em_BadMenu := He.glo_ok X Gn e_BadMenu
  have en_BadMenu := ga_ns e_BadMenu
  have e_BadNumber := c.fact 27 (f := .glo "BadNumber") rfl
  have em_BadNumber := He.glo_ok X Gn e_BadNumber
  have en_BadNumber := ga_ns e_BadNumber
  have e_BadRow := c.fact 28 (f := .glo "BadRow") rfl
  have em_BadRow := He.glo_ok X Gn e_BadRow
  have en_BadRow := ga_ns e_BadRow
  have e_BadText := c.fact 29 (f := .glo "BadText") rfl
  have em_BadText := He.glo_ok X Gn e_BadText
  have en_BadText := ga_ns e_BadText
  have e_Busy := c.fact 30 (f := .glo "Busy") rfl
  have em_Busy := He.glo_ok X Gn e_Busy
  have en_Busy := ga_ns e_Busy
  have e_LastWord := c.fact 31 (f := .glo "LastWord") rfl
  have em_LastWord := He.glo_ok X Gn e_LastWord
  have en_LastWord := ga_ns e_LastWord
  have e_NoAnswer := c.fact 32 (f := .glo "NoAnswer") rfl
  have em_NoAnswer := He.glo_ok X Gn e_NoAnswer
  have en_NoAnswer := ga_ns e_NoAnswer
  have e_NoCell := c.fact 33 (f := .glo "NoCell") rfl
  have em_NoCell := He.glo_ok X Gn e_NoCell
  have en_NoCell := ga_ns e_NoCell
  have e_NotFrank := c.fact 34 (f := .glo "NotFrank") rfl
  have em_NotFrank := He.glo_ok X Gn e_NotFrank
  have en_NotFrank := ga_ns e_NotFrank
  have e_NothingToUndo := c.fact 35 (f := .glo "NothingToUndo") rfl
  have em_NothingToUndo := He.glo_ok X Gn e_NothingToUndo
  have en_NothingToUndo := ga_ns e_NothingToUndo
  have e_NoVersion := c.fact 36 (f := .glo "NoVersion") rfl
  have em_NoVersion := He.glo_ok X Gn e_NoVersion
  have en_NoVersion := ga_ns e_NoVersion
  have e_NoWord := c.fact 37 (f := .glo "NoWord") rfl
  have em_NoWord := He.glo_ok X Gn e_NoWord
  have en_NoWord := ga_ns e_NoWord
  have e_Rejected := c.fact 38 (f := .glo "Rejected") rfl
  have em_Rejected := He.glo_ok X Gn e_Rejected
  have en_Rejected := ga_ns e_Rejected
  have e_TooFew := c.fact 39 (f := .glo "TooFew") rfl
  have em_TooFew := He.glo_ok X Gn e_TooFew
  have en_TooFew := ga_ns e_TooFew
  have e_TooGreat := c.fact 40 (f := .glo "TooGreat") rfl
  have em_TooGreat := He.glo_ok X Gn e_TooGreat
  have en_TooGreat := ga_ns e_TooGreat
  have e_TooMany := c.fact 41 (f := .glo "TooMany") rfl
  have em_TooMany := He.glo_ok X Gn e_TooMany
  have en_TooMany := ga_ns e_TooMany
  have e_TooManyEdits := c.fact 42 (f := .glo "TooManyEdits") rfl
  have em_TooManyEdits := He.glo_ok X Gn e_TooManyEdits
  have en_TooManyEdits := ga_ns e_TooManyEdits
  have e_Unlike := c.fact 43 (f := .glo "Unlike") rfl
  have em_Unlike := He.glo_ok X Gn e_Unlike
  have en_Unlike := ga_ns e_Unlike
  have e := hfa.symm.trans m_law
  cases e
  refine ⟨fd_law, fun s v => FunD.bindsA (ps := ["_law_script"]) F_law (fun _ _ _ _ _ _ us hl => match us, hl with | [_], _ => rfl) s [v] rfl, fun base Kb _ TT => ?_⟩
  have B := smB_ok hs Kb
  have E : Xs P w K mg base := ⟨exc1_of em_BadAnswers (xcs_at hx 0 (x := .oex "BadAnswers" "given") rfl) rfl (init1 Fi_BadAnswers ⟨rfl, rfl, rfl, by decide +kernel, rfl, by decide +kernel, by decide +kernel⟩ rfl rfl (by decide) (by decide)) (Fi_BadAnswers.bindsN (fun _ _ _ _ _ _ us hl => match us, hl with | [_, _], _ => rfl)),
    exc0_of em_BadBatch (c.fact 44 (f := .exc "BadBatch") rfl),
    exc1_of em_BadBelief (xcs_at hx 1 (x := .oex "BadBelief" "given") rfl) rfl (init1 Fi_BadBelief ⟨rfl, rfl, rfl, by decide +kernel, rfl, by decide +kernel, by decide +kernel⟩ rfl rfl (by decide) (by decide)) (Fi_BadBelief.bindsN (fun _ _ _ _ _ _ us hl => match us, hl with | [_, _], _ => rfl)),
    exc1_of em_BadMark (xcs_at hx 2 (x := .oex "BadMark" "given") rfl) rfl (init1 Fi_BadMark ⟨rfl, rfl, rfl, by decide +kernel, rfl, by decide +kernel, by decide +kernel⟩ rfl rfl (by decide) (by decide)) (Fi_BadMark.bindsN (fun _ _ _ _ _ _ us hl => match us, hl with | [_, _], _ => rfl)),
    exc1_of em_BadMenu (xcs_at hx 3 (x := .oex "BadMenu" "error") rfl) rfl (init1 Fi_BadMenu ⟨rfl, rfl, rfl, by decide +kernel, rfl, by decide +kernel, by decide +kernel⟩ rfl rfl (by decide) (by decide)) (Fi_BadMenu.bindsN (fun _ _ _ _ _ _ us hl => match us, hl with | [_, _], _ => rfl)),
    exc1_of em_BadNumber (xcs_at hx 4 (x := .oex "BadNumber" "given") rfl) rfl (init1 Fi_BadNumber ⟨rfl, rfl, rfl, by decide +kernel, rfl, by decide +kernel, by decide +kernel⟩ rfl rfl (by decide) (by decide)) (Fi_BadNumber.bindsN (fun _ _ _ _ _ _ us hl => match us, hl with | [_, _], _ => rfl)),
    exc1_of em_BadRow (xcs_at hx 5 (x := .oex "BadRow" "given") rfl) rfl (init1 Fi_BadRow ⟨rfl, rfl, rfl, by decide +kernel, rfl, by decide +kernel, by decide +kernel⟩ rfl rfl (by decide) (by decide)) (Fi_BadRow.bindsN (fun _ _ _ _ _ _ us hl => match us, hl with | [_, _], _ => rfl)),
    exc1_of em_BadText (xcs_at hx 6 (x := .oex "BadText" "given") rfl) rfl (init1 Fi_BadText ⟨rfl, rfl, rfl, by decide +kernel, rfl, by decide +kernel, by decide +kernel⟩ rfl rfl (by decide) (by decide)) (Fi_BadText.bindsN (fun _ _ _ _ _ _ us hl => match us, hl with | [_, _], _ => rfl)),
    exc0_of em_Busy (c.fact 45 (f := .exc "Busy") rfl),
    exc0_of em_LastWord (c.fact 46 (f := .exc "LastWord") rfl),
    exc1_of em_NoAnswer (xcs_at hx 7 (x := .oex "NoAnswer" "given") rfl) rfl (init1 Fi_NoAnswer ⟨rfl, rfl, rfl, by decide +kernel, rfl, by decide +kernel, by decide +kernel⟩ rfl rfl (by decide) (by decide)) (Fi_NoAnswer.bindsN (fun _ _ _ _ _ _ us hl => match us, hl with | [_, _], _ => rfl)),
    exc1_of em_NoCell (xcs_at hx 8 (x := .oex "NoCell" "word") rfl) rfl (init1 Fi_NoCell ⟨rfl, rfl, rfl, by decide +kernel, rfl, by decide +kernel, by decide +kernel⟩ rfl rfl (by decide) (by decide)) (Fi_NoCell.bindsN (fun _ _ _ _ _ _ us hl => match us, hl with | [_, _], _ => rfl)),
    exc1_of em_NoVersion (xcs_at hx 9 (x := .oex "NoVersion" "given") rfl) rfl (init1 Fi_NoVersion ⟨rfl, rfl, rfl, by decide +kernel, rfl, by decide +kernel, by decide +kernel⟩ rfl rfl (by decide) (by decide)) (Fi_NoVersion.bindsN (fun _ _ _ _ _ _ us hl => match us, hl with | [_, _], _ => rfl)),
    exc1_of em_NoWord (xcs_at hx 10 (x := .oex "NoWord" "given") rfl) rfl (init1 Fi_NoWord ⟨rfl, rfl, rfl, by decide +kernel, rfl, by decide +kernel, by decide +kernel⟩ rfl rfl (by decide) (by decide)) (Fi_NoWord.bindsN (fun _ _ _ _ _ _ us hl => match us, hl with | [_, _], _ => rfl)),
    exc2_of em_NotFrank (xcs_at hx 12 (x := .oex "NotFrank" "word") rfl) (xcs_at hx 11 (x := .oex "NotFrank" "weights") rfl) rfl (init2 Fi_NotFrank ⟨rfl, rfl, rfl, by decide +kernel, rfl, by decide +kernel, by decide +kernel⟩ rfl rfl rfl (by decide) (by decide) (by decide) (by decide)) (Fi_NotFrank.bindsN (fun _ _ _ _ _ _ us hl => match us, hl with | [_, _, _], _ => rfl)),
    exc0_of em_NothingToUndo (c.fact 47 (f := .exc "NothingToUndo") rfl),
    exc1_of em_Rejected (xcs_at hx 13 (x := .oex "Rejected" "index") rfl) rfl (init1 Fi_Rejected ⟨rfl, rfl, rfl, by decide +kernel, rfl, by decide +kernel, by decide +kernel⟩ rfl rfl (by decide) (by decide)) (Fi_Rejected.bindsN (fun _ _ _ _ _ _ us hl => match us, hl with | [_, _], _ => rfl)),
    exc0_of em_TooFew (c.fact 48 (f := .exc "TooFew") rfl),
    exc0_of em_TooGreat (c.fact 49 (f := .exc "TooGreat") rfl),
    exc1_of em_TooMany (xcs_at hx 14 (x := .oex "TooMany" "limit") rfl) rfl (init1 Fi_TooMany ⟨rfl, rfl, rfl, by decide +kernel, rfl, by decide +kernel, by decide +kernel⟩ rfl rfl (by decide) (by decide)) (Fi_TooMany.bindsN (fun _ _ _ _ _ _ us hl => match us, hl with | [_, _], _ => rfl)),
    exc0_of em_TooManyEdits (c.fact 50 (f := .exc "TooManyEdits") rfl),
    exc0_of em_Unlike (c.fact 51 (f := .exc "Unlike") rfl),
    ⟨AllT.all ⟨here_m em_FrankError en_FrankError, here_m em_BadAnswers en_BadAnswers, here_m em_BadBatch en_BadBatch, here_m em_BadBelief en_BadBelief, here_m em_BadMark en_BadMark, here_m em_BadMenu en_BadMenu, here_m em_BadNumber en_BadNumber, here_m em_BadRow en_BadRow, here_m em_BadText en_BadText, here_m em_Busy en_Busy, here_m em_LastWord en_LastWord, here_m em_NoAnswer en_NoAnswer, here_m em_NoCell en_NoCell, here_m em_NotFrank en_NotFrank, here_m em_NothingToUndo en_NothingToUndo, here_m em_NoVersion en_NoVersion, here_m em_NoWord en_NoWord, here_m em_Rejected en_Rejected, here_m em_TooFew en_TooFew, here_m em_TooGreat en_TooGreat, here_m em_TooMany en_TooMany, here_m em_TooManyEdits en_TooManyEdits, here_m em_Unlike en_Unlike, trivial⟩⟩,
    ⟨_, em_BadAnswers, AllT.all ⟨here_n en_FrankError ⟨isx_ok (xcs_at hx 15 (x := .isx "FrankError") rfl), of_decide_eq_true (xcs_at hx 16 (x := .kit "FrankError" "BadAnswers" false) rfl)⟩, here_n en_BadAnswers ⟨isx_ok (xcs_at hx 17 (x := .isx "BadAnswers") rfl), of_decide_eq_true (xcs_at hx 18 (x := .kit "BadAnswers" "BadAnswers" true) rfl)⟩, here_n en_BadBatch ⟨isx_ok (xcs_at hx 19 (x := .isx "BadBatch") rfl), of_decide_eq_true (xcs_at hx 20 (x := .kit "BadBatch" "BadAnswers" false) rfl)⟩, here_n en_BadBelief ⟨isx_ok (xcs_at hx 21 (x := .isx "BadBelief") rfl), of_decide_eq_true (xcs_at hx 22 (x := .kit "BadBelief" "BadAnswers" false) rfl)⟩, here_n en_BadMark ⟨isx_ok (xcs_at hx 23 (x := .isx "BadMark") rfl), of_decide_eq_true (xcs_at hx 24 (x := .kit "BadMark" "BadAnswers" false) rfl)⟩, here_n en_BadMenu ⟨isx_ok (xcs_at hx 25 (x := .isx "BadMenu") rfl), of_decide_eq_true (xcs_at hx 26 (x := .kit "BadMenu" "BadAnswers" false) rfl)⟩, here_n en_BadNumber ⟨isx_ok (xcs_at hx 27 (x := .isx "BadNumber") rfl), of_decide_eq_true (xcs_at hx 28 (x := .kit "BadNumber" "BadAnswers" false) rfl)⟩, here_n en_BadRow ⟨isx_ok (xcs_at hx 29 (x := .isx "BadRow") rfl), of_decide_eq_true (xcs_at hx 30 (x := .kit "BadRow" "BadAnswers" false) rfl)⟩, here_n en_BadText ⟨isx_ok (xcs_at hx 31 (x := .isx "BadText") rfl), of_decide_eq_true (xcs_at hx 32 (x := .kit "BadText" "BadAnswers" false) rfl)⟩, here_n en_Busy ⟨isx_ok (xcs_at hx 33 (x := .isx "Busy") rfl), of_decide_eq_true (xcs_at hx 34 (x := .kit "Busy" "BadAnswers" false) rfl)⟩, here_n en_LastWord ⟨isx_ok (xcs_at hx 35 (x := .isx "LastWord") rfl), of_decide_eq_true (xcs_at hx 36 (x := .kit "LastWord" "BadAnswers" false) rfl)⟩, here_n en_NoAnswer ⟨isx_ok (xcs_at hx 37 (x := .isx "NoAnswer") rfl), of_decide_eq_true (xcs_at hx 38 (x := .kit "NoAnswer" "BadAnswers" false) rfl)⟩, here_n en_NoCell ⟨isx_ok (xcs_at hx 39 (x := .isx "NoCell") rfl), of_decide_eq_true (xcs_at hx 40 (x := .kit "NoCell" "BadAnswers" false) rfl)⟩, here_n en_NotFrank ⟨isx_ok (xcs_at hx 41 (x := .isx "NotFrank") rfl), of_decide_eq_true (xcs_at hx 42 (x := .kit "NotFrank" "BadAnswers" false) rfl)⟩, here_n en_NothingToUndo ⟨isx_ok (xcs_at hx 43 (x := .isx "NothingToUndo") rfl), of_decide_eq_true (xcs_at hx 44 (x := .kit "NothingToUndo" "BadAnswers" false) rfl)⟩, here_n en_NoVersion ⟨isx_ok (xcs_at hx 45 (x := .isx "NoVersion") rfl), of_decide_eq_true (xcs_at hx 46 (x := .kit "NoVersion" "BadAnswers" false) rfl)⟩, here_n en_NoWord ⟨isx_ok (xcs_at hx 47 (x := .isx "NoWord") rfl), of_decide_eq_true (xcs_at hx 48 (x := .kit "NoWord" "BadAnswers" false) rfl)⟩, here_n en_Rejected ⟨isx_ok (xcs_at hx 49 (x := .isx "Rejected") rfl), of_decide_eq_true (xcs_at hx 50 (x := .kit "Rejected" "BadAnswers" false) rfl)⟩, here_n en_TooFew ⟨isx_ok (xcs_at hx 51 (x := .isx "TooFew") rfl), of_decide_eq_true (xcs_at hx 52 (x := .kit "TooFew" "BadAnswers" false) rfl)⟩, here_n en_TooGreat ⟨isx_ok (xcs_at hx 53 (x := .isx "TooGreat") rfl), of_decide_eq_true (xcs_at hx 54 (x := .kit "TooGreat" "BadAnswers" false) rfl)⟩, here_n en_TooMany ⟨isx_ok (xcs_at hx 55 (x := .isx "TooMany") rfl), of_decide_eq_true (xcs_at hx 56 (x := .kit "TooMany" "BadAnswers" false) rfl)⟩, here_n en_TooManyEdits ⟨isx_ok (xcs_at hx 57 (x := .isx "TooManyEdits") rfl), of_decide_eq_true (xcs_at hx 58 (x := .kit "TooManyEdits" "BadAnswers" false) rfl)⟩, here_n en_Unlike ⟨isx_ok (xcs_at hx 59 (x := .isx "Unlike") rfl), of_decide_eq_true (xcs_at hx 60 (x := .kit "Unlike" "BadAnswers" false) rfl)⟩, trivial⟩⟩,
    ⟨_, em_BadBatch, AllT.all ⟨here_n en_FrankError ⟨isx_ok (xcs_at hx 15 (x := .isx "FrankError") rfl), of_decide_eq_true (xcs_at hx 61 (x := .kit "FrankError" "BadBatch" false) rfl)⟩, here_n en_BadAnswers ⟨isx_ok (xcs_at hx 17 (x := .isx "BadAnswers") rfl), of_decide_eq_true (xcs_at hx 62 (x := .kit "BadAnswers" "BadBatch" false) rfl)⟩, here_n en_BadBatch ⟨isx_ok (xcs_at hx 19 (x := .isx "BadBatch") rfl), of_decide_eq_true (xcs_at hx 63 (x := .kit "BadBatch" "BadBatch" true) rfl)⟩, here_n en_BadBelief ⟨isx_ok (xcs_at hx 21 (x := .isx "BadBelief") rfl), of_decide_eq_true (xcs_at hx 64 (x := .kit "BadBelief" "BadBatch" false) rfl)⟩, here_n en_BadMark ⟨isx_ok (xcs_at hx 23 (x := .isx "BadMark") rfl), of_decide_eq_true (xcs_at hx 65 (x := .kit "BadMark" "BadBatch" false) rfl)⟩, here_n en_BadMenu ⟨isx_ok (xcs_at hx 25 (x := .isx "BadMenu") rfl), of_decide_eq_true (xcs_at hx 66 (x := .kit "BadMenu" "BadBatch" false) rfl)⟩, here_n en_BadNumber ⟨isx_ok (xcs_at hx 27 (x := .isx "BadNumber") rfl), of_decide_eq_true (xcs_at hx 67 (x := .kit "BadNumber" "BadBatch" false) rfl)⟩, here_n en_BadRow ⟨isx_ok (xcs_at hx 29 (x := .isx "BadRow") rfl), of_decide_eq_true (xcs_at hx 68 (x := .kit "BadRow" "BadBatch" false) rfl)⟩, here_n en_BadText ⟨isx_ok (xcs_at hx 31 (x := .isx "BadText") rfl), of_decide_eq_true (xcs_at hx 69 (x := .kit "BadText" "BadBatch" false) rfl)⟩, here_n en_Busy ⟨isx_ok (xcs_at hx 33 (x := .isx "Busy") rfl), of_decide_eq_true (xcs_at hx 70 (x := .kit "Busy" "BadBatch" false) rfl)⟩, here_n en_LastWord ⟨isx_ok (xcs_at hx 35 (x := .isx "LastWord") rfl), of_decide_eq_true (xcs_at hx 71 (x := .kit "LastWord" "BadBatch" false) rfl)⟩, here_n en_NoAnswer ⟨isx_ok (xcs_at hx 37 (x := .isx "NoAnswer") rfl), of_decide_eq_true (xcs_at hx 72 (x := .kit "NoAnswer" "BadBatch" false) rfl)⟩, here_n en_NoCell ⟨isx_ok (xcs_at hx 39 (x := .isx "NoCell") rfl), of_decide_eq_true (xcs_at hx 73 (x := .kit "NoCell" "BadBatch" false) rfl)⟩, here_n en_NotFrank ⟨isx_ok (xcs_at hx 41 (x := .isx "NotFrank") rfl), of_decide_eq_true (xcs_at hx 74 (x := .kit "NotFrank" "BadBatch" false) rfl)⟩, here_n en_NothingToUndo ⟨isx_ok (xcs_at hx 43 (x := .isx "NothingToUndo") rfl), of_decide_eq_true (xcs_at hx 75 (x := .kit "NothingToUndo" "BadBatch" false) rfl)⟩, here_n en_NoVersion ⟨isx_ok (xcs_at hx 45 (x := .isx "NoVersion") rfl), of_decide_eq_true (xcs_at hx 76 (x := .kit "NoVersion" "BadBatch" false) rfl)⟩, here_n en_NoWord ⟨isx_ok (xcs_at hx 47 (x := .isx "NoWord") rfl), of_decide_eq_true (xcs_at hx 77 (x := .kit "NoWord" "BadBatch" false) rfl)⟩, here_n en_Rejected ⟨isx_ok (xcs_at hx 49 (x := .isx "Rejected") rfl), of_decide_eq_true (xcs_at hx 78 (x := .kit "Rejected" "BadBatch" false) rfl)⟩, here_n en_TooFew ⟨isx_ok (xcs_at hx 51 (x := .isx "TooFew") rfl), of_decide_eq_true (xcs_at hx 79 (x := .kit "TooFew" "BadBatch" false) rfl)⟩, here_n en_TooGreat ⟨isx_ok (xcs_at hx 53 (x := .isx "TooGreat") rfl), of_decide_eq_true (xcs_at hx 80 (x := .kit "TooGreat" "BadBatch" false) rfl)⟩, here_n en_TooMany ⟨isx_ok (xcs_at hx 55 (x := .isx "TooMany") rfl), of_decide_eq_true (xcs_at hx 81 (x := .kit "TooMany" "BadBatch" false) rfl)⟩, here_n en_TooManyEdits ⟨isx_ok (xcs_at hx 57 (x := .isx "TooManyEdits") rfl), of_decide_eq_true (xcs_at hx 82 (x := .kit "TooManyEdits" "BadBatch" false) rfl)⟩, here_n en_Unlike ⟨isx_ok (xcs_at hx 59 (x := .isx "Unlike") rfl), of_decide_eq_true (xcs_at hx 83 (x := .kit "Unlike" "BadBatch" false) rfl)⟩, trivial⟩⟩,
    ⟨_, em_BadBelief, AllT.all ⟨here_n en_FrankError ⟨isx_ok (xcs_at hx 15 (x := .isx "FrankError") rfl), of_decide_eq_true (xcs_at hx 84 (x := .kit "FrankError" "BadBelief" false) rfl)⟩, here_n en_BadAnswers ⟨isx_ok (xcs_at hx 17 (x := .isx "BadAnswers") rfl), of_decide_eq_true (xcs_at hx 85 (x := .kit "BadAnswers" "BadBelief" false) rfl)⟩, here_n en_BadBatch ⟨isx_ok (xcs_at hx 19 (x := .isx "BadBatch") rfl), of_decide_eq_true (xcs_at hx 86 (x := .kit "BadBatch" "BadBelief" false) rfl)⟩, here_n en_BadBelief ⟨isx_ok (xcs_at hx 21 (x := .isx "BadBelief") rfl), of_decide_eq_true (xcs_at hx 87 (x := .kit "BadBelief" "BadBelief" true) rfl)⟩, here_n en_BadMark ⟨isx_ok (xcs_at hx 23 (x := .isx "BadMark") rfl), of_decide_eq_true (xcs_at hx 88 (x := .kit "BadMark" "BadBelief" false) rfl)⟩, here_n en_BadMenu ⟨isx_ok (xcs_at hx 25 (x := .isx "BadMenu") rfl), of_decide_eq_true (xcs_at hx 89 (x := .kit "BadMenu" "BadBelief" false) rfl)⟩, here_n en_BadNumber ⟨isx_ok (xcs_at hx 27 (x := .isx "BadNumber") rfl), of_decide_eq_true (xcs_at hx 90 (x := .kit "BadNumber" "BadBelief" false) rfl)⟩, here_n en_BadRow ⟨isx_ok (xcs_at hx 29 (x := .isx "BadRow") rfl), of_decide_eq_true (xcs_at hx 91 (x := .kit "BadRow" "BadBelief" false) rfl)⟩, here_n en_BadText ⟨isx_ok (xcs_at hx 31 (x := .isx "BadText") rfl), of_decide_eq_true (xcs_at hx 92 (x := .kit "BadText" "BadBelief" false) rfl)⟩, here_n en_Busy ⟨isx_ok (xcs_at hx 33 (x := .isx "Busy") rfl), of_decide_eq_true (xcs_at hx 93 (x := .kit "Busy" "BadBelief" false) rfl)⟩, here_n en_LastWord ⟨isx_ok (xcs_at hx 35 (x := .isx "LastWord") rfl), of_decide_eq_true (xcs_at hx 94 (x := .kit "LastWord" "BadBelief" false) rfl)⟩, here_n en_NoAnswer ⟨isx_ok (xcs_at hx 37 (x := .isx "NoAnswer") rfl), of_decide_eq_true (xcs_at hx 95 (x := .kit "NoAnswer" "BadBelief" false) rfl)⟩, here_n en_NoCell ⟨isx_ok (xcs_at hx 39 (x := .isx "NoCell") rfl), of_decide_eq_true (xcs_at hx 96 (x := .kit "NoCell" "BadBelief" false) rfl)⟩, here_n en_NotFrank ⟨isx_ok (xcs_at hx 41 (x := .isx "NotFrank") rfl), of_decide_eq_true (xcs_at hx 97 (x := .kit "NotFrank" "BadBelief" false) rfl)⟩, here_n en_NothingToUndo ⟨isx_ok (xcs_at hx 43 (x := .isx "NothingToUndo") rfl), of_decide_eq_true (xcs_at hx 98 (x := .kit "NothingToUndo" "BadBelief" false) rfl)⟩, here_n en_NoVersion ⟨isx_ok (xcs_at hx 45 (x := .isx "NoVersion") rfl), of_decide_eq_true (xcs_at hx 99 (x := .kit "NoVersion" "BadBelief" false) rfl)⟩, here_n en_NoWord ⟨isx_ok (xcs_at hx 47 (x := .isx "NoWord") rfl), of_decide_eq_true (xcs_at hx 100 (x := .kit "NoWord" "BadBelief" false) rfl)⟩, here_n en_Rejected ⟨isx_ok (xcs_at hx 49 (x := .isx "Rejected") rfl), of_decide_eq_true (xcs_at hx 101 (x := .kit "Rejected" "BadBelief" false) rfl)⟩, here_n en_TooFew ⟨isx_ok (xcs_at hx 51 (x := .isx "TooFew") rfl), of_decide_eq_true (xcs_at hx 102 (x := .kit "TooFew" "BadBelief" false) rfl)⟩, here_n en_TooGreat ⟨isx_ok (xcs_at hx 53 (x := .isx "TooGreat") rfl), of_decide_eq_true (xcs_at hx 103 (x := .kit "TooGreat" "BadBelief" false) rfl)⟩, here_n en_TooMany ⟨isx_ok (xcs_at hx 55 (x := .isx "TooMany") rfl), of_decide_eq_true (xcs_at hx 104 (x := .kit "TooMany" "BadBelief" false) rfl)⟩, here_n en_TooManyEdits ⟨isx_ok (xcs_at hx 57 (x := .isx "TooManyEdits") rfl), of_decide_eq_true (xcs_at hx 105 (x := .kit "TooManyEdits" "BadBelief" false) rfl)⟩, here_n en_Unlike ⟨isx_ok (xcs_at hx 59 (x := .isx "Unlike") rfl), of_decide_eq_true (xcs_at hx 106 (x := .kit "Unlike" "BadBelief" false) rfl)⟩, trivial⟩⟩,
    ⟨_, em_BadMark, AllT.all ⟨here_n en_FrankError ⟨isx_ok (xcs_at hx 15 (x := .isx "FrankError") rfl), of_decide_eq_true (xcs_at hx 107 (x := .kit "FrankError" "BadMark" false) rfl)⟩, here_n en_BadAnswers ⟨isx_ok (xcs_at hx 17 (x := .isx "BadAnswers") rfl), of_decide_eq_true (xcs_at hx 108 (x := .kit "BadAnswers" "BadMark" false) rfl)⟩, here_n en_BadBatch ⟨isx_ok (xcs_at hx 19 (x := .isx "BadBatch") rfl), of_decide_eq_true (xcs_at hx 109 (x := .kit "BadBatch" "BadMark" false) rfl)⟩, here_n en_BadBelief ⟨isx_ok (xcs_at hx 21 (x := .isx "BadBelief") rfl), of_decide_eq_true (xcs_at hx 110 (x := .kit "BadBelief" "BadMark" false) rfl)⟩, here_n en_BadMark ⟨isx_ok (xcs_at hx 23 (x := .isx "BadMark") rfl), of_decide_eq_true (xcs_at hx 111 (x := .kit "BadMark" "BadMark" true) rfl)⟩, here_n en_BadMenu ⟨isx_ok (xcs_at hx 25 (x := .isx "BadMenu") rfl), of_decide_eq_true (xcs_at hx 112 (x := .kit "BadMenu" "BadMark" false) rfl)⟩, here_n en_BadNumber ⟨isx_ok (xcs_at hx 27 (x := .isx "BadNumber") rfl), of_decide_eq_true (xcs_at hx 113 (x := .kit "BadNumber" "BadMark" false) rfl)⟩, here_n en_BadRow ⟨isx_ok (xcs_at hx 29 (x := .isx "BadRow") rfl), of_decide_eq_true (xcs_at hx 114 (x := .kit "BadRow" "BadMark" false) rfl)⟩, here_n en_BadText ⟨isx_ok (xcs_at hx 31 (x := .isx "BadText") rfl), of_decide_eq_true (xcs_at hx 115 (x := .kit "BadText" "BadMark" false) rfl)⟩, here_n en_Busy ⟨isx_ok (xcs_at hx 33 (x := .isx "Busy") rfl), of_decide_eq_true (xcs_at hx 116 (x := .kit "Busy" "BadMark" false) rfl)⟩, here_n en_LastWord ⟨isx_ok (xcs_at hx 35 (x := .isx "LastWord") rfl), of_decide_eq_true (xcs_at hx 117 (x := .kit "LastWord" "BadMark" false) rfl)⟩, here_n en_NoAnswer ⟨isx_ok (xcs_at hx 37 (x := .isx "NoAnswer") rfl), of_decide_eq_true (xcs_at hx 118 (x := .kit "NoAnswer" "BadMark" false) rfl)⟩, here_n en_NoCell ⟨isx_ok (xcs_at hx 39 (x := .isx "NoCell") rfl), of_decide_eq_true (xcs_at hx 119 (x := .kit "NoCell" "BadMark" false) rfl)⟩, here_n en_NotFrank ⟨isx_ok (xcs_at hx 41 (x := .isx "NotFrank") rfl), of_decide_eq_true (xcs_at hx 120 (x := .kit "NotFrank" "BadMark" false) rfl)⟩, here_n en_NothingToUndo ⟨isx_ok (xcs_at hx 43 (x := .isx "NothingToUndo") rfl), of_decide_eq_true (xcs_at hx 121 (x := .kit "NothingToUndo" "BadMark" false) rfl)⟩, here_n en_NoVersion ⟨isx_ok (xcs_at hx 45 (x := .isx "NoVersion") rfl), of_decide_eq_true (xcs_at hx 122 (x := .kit "NoVersion" "BadMark" false) rfl)⟩, here_n en_NoWord ⟨isx_ok (xcs_at hx 47 (x := .isx "NoWord") rfl), of_decide_eq_true (xcs_at hx 123 (x := .kit "NoWord" "BadMark" false) rfl)⟩, here_n en_Rejected ⟨isx_ok (xcs_at hx 49 (x := .isx "Rejected") rfl), of_decide_eq_true (xcs_at hx 124 (x := .kit "Rejected" "BadMark" false) rfl)⟩, here_n en_TooFew ⟨isx_ok (xcs_at hx 51 (x := .isx "TooFew") rfl), of_decide_eq_true (xcs_at hx 125 (x := .kit "TooFew" "BadMark" false) rfl)⟩, here_n en_TooGreat ⟨isx_ok (xcs_at hx 53 (x := .isx "TooGreat") rfl), of_decide_eq_true (xcs_at hx 126 (x := .kit "TooGreat" "BadMark" false) rfl)⟩, here_n en_TooMany ⟨isx_ok (xcs_at hx 55 (x := .isx "TooMany") rfl), of_decide_eq_true (xcs_at hx 127 (x := .kit "TooMany" "BadMark" false) rfl)⟩, here_n en_TooManyEdits ⟨isx_ok (xcs_at hx 57 (x := .isx "TooManyEdits") rfl), of_decide_eq_true (xcs_at hx 128 (x := .kit "TooManyEdits" "BadMark" false) rfl)⟩, here_n en_Unlike ⟨isx_ok (xcs_at hx 59 (x := .isx "Unlike") rfl), of_decide_eq_true (xcs_at hx 129 (x := .kit "Unlike" "BadMark" false) rfl)⟩, trivial⟩⟩,
    ⟨_, em_BadMenu, AllT.all ⟨here_n en_FrankError ⟨isx_ok (xcs_at hx 15 (x := .isx "FrankError") rfl), of_decide_eq_true (xcs_at hx 130 (x := .kit "FrankError" "BadMenu" false) rfl)⟩, here_n en_BadAnswers ⟨isx_ok (xcs_at hx 17 (x := .isx "BadAnswers") rfl), of_decide_eq_true (xcs_at hx 131 (x := .kit "BadAnswers" "BadMenu" false) rfl)⟩, here_n en_BadBatch ⟨isx_ok (xcs_at hx 19 (x := .isx "BadBatch") rfl), of_decide_eq_true (xcs_at hx 132 (x := .kit "BadBatch" "BadMenu" false) rfl)⟩, here_n en_BadBelief ⟨isx_ok (xcs_at hx 21 (x := .isx "BadBelief") rfl), of_decide_eq_true (xcs_at hx 133 (x := .kit "BadBelief" "BadMenu" false) rfl)⟩, here_n en_BadMark ⟨isx_ok (xcs_at hx 23 (x := .isx "BadMark") rfl), of_decide_eq_true (xcs_at hx 134 (x := .kit "BadMark" "BadMenu" false) rfl)⟩, here_n en_BadMenu ⟨isx_ok (xcs_at hx 25 (x := .isx "BadMenu") rfl), of_decide_eq_true (xcs_at hx 135 (x := .kit "BadMenu" "BadMenu" true) rfl)⟩, here_n en_BadNumber ⟨isx_ok (xcs_at hx 27 (x := .isx "BadNumber") rfl), of_decide_eq_true (xcs_at hx 136 (x := .kit "BadNumber" "BadMenu" false) rfl)⟩, here_n en_BadRow ⟨isx_ok (xcs_at hx 29 (x := .isx "BadRow") rfl), of_decide_eq_true (xcs_at hx 137 (x := .kit "BadRow" "BadMenu" false) rfl)⟩, here_n en_BadText ⟨isx_ok (xcs_at hx 31 (x := .isx "BadText") rfl), of_decide_eq_true (xcs_at hx 138 (x := .kit "BadText" "BadMenu" false) rfl)⟩, here_n en_Busy ⟨isx_ok (xcs_at hx 33 (x := .isx "Busy") rfl), of_decide_eq_true (xcs_at hx 139 (x := .kit "Busy" "BadMenu" false) rfl)⟩, here_n en_LastWord ⟨isx_ok (xcs_at hx 35 (x := .isx "LastWord") rfl), of_decide_eq_true (xcs_at hx 140 (x := .kit "LastWord" "BadMenu" false) rfl)⟩, here_n en_NoAnswer ⟨isx_ok (xcs_at hx 37 (x := .isx "NoAnswer") rfl), of_decide_eq_true (xcs_at hx 141 (x := .kit "NoAnswer" "BadMenu" false) rfl)⟩, here_n en_NoCell ⟨isx_ok (xcs_at hx 39 (x := .isx "NoCell") rfl), of_decide_eq_true (xcs_at hx 142 (x := .kit "NoCell" "BadMenu" false) rfl)⟩, here_n en_NotFrank ⟨isx_ok (xcs_at hx 41 (x := .isx "NotFrank") rfl), of_decide_eq_true (xcs_at hx 143 (x := .kit "NotFrank" "BadMenu" false) rfl)⟩, here_n en_NothingToUndo ⟨isx_ok (xcs_at hx 43 (x := .isx "NothingToUndo") rfl), of_decide_eq_true (xcs_at hx 144 (x := .kit "NothingToUndo" "BadMenu" false) rfl)⟩, here_n en_NoVersion ⟨isx_ok (xcs_at hx 45 (x := .isx "NoVersion") rfl), of_decide_eq_true (xcs_at hx 145 (x := .kit "NoVersion" "BadMenu" false) rfl)⟩, here_n en_NoWord ⟨isx_ok (xcs_at hx 47 (x := .isx "NoWord") rfl), of_decide_eq_true (xcs_at hx 146 (x := .kit "NoWord" "BadMenu" false) rfl)⟩, here_n en_Rejected ⟨isx_ok (xcs_at hx 49 (x := .isx "Rejected") rfl), of_decide_eq_true (xcs_at hx 147 (x := .kit "Rejected" "BadMenu" false) rfl)⟩, here_n en_TooFew ⟨isx_ok (xcs_at hx 51 (x := .isx "TooFew") rfl), of_decide_eq_true (xcs_at hx 148 (x := .kit "TooFew" "BadMenu" false) rfl)⟩, here_n en_TooGreat ⟨isx_ok (xcs_at hx 53 (x := .isx "TooGreat") rfl), of_decide_eq_true (xcs_at hx 149 (x := .kit "TooGreat" "BadMenu" false) rfl)⟩, here_n en_TooMany ⟨isx_ok (xcs_at hx 55 (x := .isx "TooMany") rfl), of_decide_eq_true (xcs_at hx 150 (x := .kit "TooMany" "BadMenu" false) rfl)⟩, here_n en_TooManyEdits ⟨isx_ok (xcs_at hx 57 (x := .isx "TooManyEdits") rfl), of_decide_eq_true (xcs_at hx 151 (x := .kit "TooManyEdits" "BadMenu" false) rfl)⟩, here_n en_Unlike ⟨isx_ok (xcs_at hx 59 (x := .isx "Unlike") rfl), of_decide_eq_true (xcs_at hx 152 (x := .kit "Unlike" "BadMenu" false) rfl)⟩, trivial⟩⟩,
    ⟨_, em_BadNumber, AllT.all ⟨here_n en_FrankError ⟨isx_ok (xcs_at hx 15 (x := .isx "FrankError") rfl), of_decide_eq_true (xcs_at hx 153 (x := .kit "FrankError" "BadNumber" false) rfl)⟩, here_n en_BadAnswers ⟨isx_ok (xcs_at hx 17 (x := .isx "BadAnswers") rfl), of_decide_eq_true (xcs_at hx 154 (x := .kit "BadAnswers" "BadNumber" false) rfl)⟩, here_n en_BadBatch ⟨isx_ok (xcs_at hx 19 (x := .isx "BadBatch") rfl), of_decide_eq_true (xcs_at hx 155 (x := .kit "BadBatch" "BadNumber" false) rfl)⟩, here_n en_BadBelief ⟨isx_ok (xcs_at hx 21 (x := .isx "BadBelief") rfl), of_decide_eq_true (xcs_at hx 156 (x := .kit "BadBelief" "BadNumber" false) rfl)⟩, here_n en_BadMark ⟨isx_ok (xcs_at hx 23 (x := .isx "BadMark") rfl), of_decide_eq_true (xcs_at hx 157 (x := .kit "BadMark" "BadNumber" false) rfl)⟩, here_n en_BadMenu ⟨isx_ok (xcs_at hx 25 (x := .isx "BadMenu") rfl), of_decide_eq_true (xcs_at hx 158 (x := .kit "BadMenu" "BadNumber" false) rfl)⟩, here_n en_BadNumber ⟨isx_ok (xcs_at hx 27 (x := .isx "BadNumber") rfl), of_decide_eq_true (xcs_at hx 159 (x := .kit "BadNumber" "BadNumber" true) rfl)⟩, here_n en_BadRow ⟨isx_ok (xcs_at hx 29 (x := .isx "BadRow") rfl), of_decide_eq_true (xcs_at hx 160 (x := .kit "BadRow" "BadNumber" false) rfl)⟩, here_n en_BadText ⟨isx_ok (xcs_at hx 31 (x := .isx "BadText") rfl), of_decide_eq_true (xcs_at hx 161 (x := .kit "BadText" "BadNumber" false) rfl)⟩, here_n en_Busy ⟨isx_ok (xcs_at hx 33 (x := .isx "Busy") rfl), of_decide_eq_true (xcs_at hx 162 (x := .kit "Busy" "BadNumber" false) rfl)⟩, here_n en_LastWord ⟨isx_ok (xcs_at hx 35 (x := .isx "LastWord") rfl), of_decide_eq_true (xcs_at hx 163 (x := .kit "LastWord" "BadNumber" false) rfl)⟩, here_n en_NoAnswer ⟨isx_ok (xcs_at hx 37 (x := .isx "NoAnswer") rfl), of_decide_eq_true (xcs_at hx 164 (x := .kit "NoAnswer" "BadNumber" false) rfl)⟩, here_n en_NoCell ⟨isx_ok (xcs_at hx 39 (x := .isx "NoCell") rfl), of_decide_eq_true (xcs_at hx 165 (x := .kit "NoCell" "BadNumber" false) rfl)⟩, here_n en_NotFrank ⟨isx_ok (xcs_at hx 41 (x := .isx "NotFrank") rfl), of_decide_eq_true (xcs_at hx 166 (x := .kit "NotFrank" "BadNumber" false) rfl)⟩, here_n en_NothingToUndo ⟨isx_ok (xcs_at hx 43 (x := .isx "NothingToUndo") rfl), of_decide_eq_true (xcs_at hx 167 (x := .kit "NothingToUndo" "BadNumber" false) rfl)⟩, here_n en_NoVersion ⟨isx_ok (xcs_at hx 45 (x := .isx "NoVersion") rfl), of_decide_eq_true (xcs_at hx 168 (x := .kit "NoVersion" "BadNumber" false) rfl)⟩, here_n en_NoWord ⟨isx_ok (xcs_at hx 47 (x := .isx "NoWord") rfl), of_decide_eq_true (xcs_at hx 169 (x := .kit "NoWord" "BadNumber" false) rfl)⟩, here_n en_Rejected ⟨isx_ok (xcs_at hx 49 (x := .isx "Rejected") rfl), of_decide_eq_true (xcs_at hx 170 (x := .kit "Rejected" "BadNumber" false) rfl)⟩, here_n en_TooFew ⟨isx_ok (xcs_at hx 51 (x := .isx "TooFew") rfl), of_decide_eq_true (xcs_at hx 171 (x := .kit "TooFew" "BadNumber" false) rfl)⟩, here_n en_TooGreat ⟨isx_ok (xcs_at hx 53 (x := .isx "TooGreat") rfl), of_decide_eq_true (xcs_at hx 172 (x := .kit "TooGreat" "BadNumber" false) rfl)⟩, here_n en_TooMany ⟨isx_ok (xcs_at hx 55 (x := .isx "TooMany") rfl), of_decide_eq_true (xcs_at hx 173 (x := .kit "TooMany" "BadNumber" false) rfl)⟩, here_n en_TooManyEdits ⟨isx_ok (xcs_at hx 57 (x := .isx "TooManyEdits") rfl), of_decide_eq_true (xcs_at hx 174 (x := .kit "TooManyEdits" "BadNumber" false) rfl)⟩, here_n en_Unlike ⟨isx_ok (xcs_at hx 59 (x := .isx "Unlike") rfl), of_decide_eq_true (xcs_at hx 175 (x := .kit "Unlike" "BadNumber" false) rfl)⟩, trivial⟩⟩,
    ⟨_, em_BadRow, AllT.all ⟨here_n en_FrankError ⟨isx_ok (xcs_at hx 15 (x := .isx "FrankError") rfl), of_decide_eq_true (xcs_at hx 176 (x := .kit "FrankError" "BadRow" false) rfl)⟩, here_n en_BadAnswers ⟨isx_ok (xcs_at hx 17 (x := .isx "BadAnswers") rfl), of_decide_eq_true (xcs_at hx 177 (x := .kit "BadAnswers" "BadRow" false) rfl)⟩, here_n en_BadBatch ⟨isx_ok (xcs_at hx 19 (x := .isx "BadBatch") rfl), of_decide_eq_true (xcs_at hx 178 (x := .kit "BadBatch" "BadRow" false) rfl)⟩, here_n en_BadBelief ⟨isx_ok (xcs_at hx 21 (x := .isx "BadBelief") rfl), of_decide_eq_true (xcs_at hx 179 (x := .kit "BadBelief" "BadRow" false) rfl)⟩, here_n en_BadMark ⟨isx_ok (xcs_at hx 23 (x := .isx "BadMark") rfl), of_decide_eq_true (xcs_at hx 180 (x := .kit "BadMark" "BadRow" false) rfl)⟩, here_n en_BadMenu ⟨isx_ok (xcs_at hx 25 (x := .isx "BadMenu") rfl), of_decide_eq_true (xcs_at hx 181 (x := .kit "BadMenu" "BadRow" false) rfl)⟩, here_n en_BadNumber ⟨isx_ok (xcs_at hx 27 (x := .isx "BadNumber") rfl), of_decide_eq_true (xcs_at hx 182 (x := .kit "BadNumber" "BadRow" false) rfl)⟩, here_n en_BadRow ⟨isx_ok (xcs_at hx 29 (x := .isx "BadRow") rfl), of_decide_eq_true (xcs_at hx 183 (x := .kit "BadRow" "BadRow" true) rfl)⟩, here_n en_BadText ⟨isx_ok (xcs_at hx 31 (x := .isx "BadText") rfl), of_decide_eq_true (xcs_at hx 184 (x := .kit "BadText" "BadRow" false) rfl)⟩, here_n en_Busy ⟨isx_ok (xcs_at hx 33 (x := .isx "Busy") rfl), of_decide_eq_true (xcs_at hx 185 (x := .kit "Busy" "BadRow" false) rfl)⟩, here_n en_LastWord ⟨isx_ok (xcs_at hx 35 (x := .isx "LastWord") rfl), of_decide_eq_true (xcs_at hx 186 (x := .kit "LastWord" "BadRow" false) rfl)⟩, here_n en_NoAnswer ⟨isx_ok (xcs_at hx 37 (x := .isx "NoAnswer") rfl), of_decide_eq_true (xcs_at hx 187 (x := .kit "NoAnswer" "BadRow" false) rfl)⟩, here_n en_NoCell ⟨isx_ok (xcs_at hx 39 (x := .isx "NoCell") rfl), of_decide_eq_true (xcs_at hx 188 (x := .kit "NoCell" "BadRow" false) rfl)⟩, here_n en_NotFrank ⟨isx_ok (xcs_at hx 41 (x := .isx "NotFrank") rfl), of_decide_eq_true (xcs_at hx 189 (x := .kit "NotFrank" "BadRow" false) rfl)⟩, here_n en_NothingToUndo ⟨isx_ok (xcs_at hx 43 (x := .isx "NothingToUndo") rfl), of_decide_eq_true (xcs_at hx 190 (x := .kit "NothingToUndo" "BadRow" false) rfl)⟩, here_n en_NoVersion ⟨isx_ok (xcs_at hx 45 (x := .isx "NoVersion") rfl), of_decide_eq_true (xcs_at hx 191 (x := .kit "NoVersion" "BadRow" false) rfl)⟩, here_n en_NoWord ⟨isx_ok (xcs_at hx 47 (x := .isx "NoWord") rfl), of_decide_eq_true (xcs_at hx 192 (x := .kit "NoWord" "BadRow" false) rfl)⟩, here_n en_Rejected ⟨isx_ok (xcs_at hx 49 (x := .isx "Rejected") rfl), of_decide_eq_true (xcs_at hx 193 (x := .kit "Rejected" "BadRow" false) rfl)⟩, here_n en_TooFew ⟨isx_ok (xcs_at hx 51 (x := .isx "TooFew") rfl), of_decide_eq_true (xcs_at hx 194 (x := .kit "TooFew" "BadRow" false) rfl)⟩, here_n en_TooGreat ⟨isx_ok (xcs_at hx 53 (x := .isx "TooGreat") rfl), of_decide_eq_true (xcs_at hx 195 (x := .kit "TooGreat" "BadRow" false) rfl)⟩, here_n en_TooMany ⟨isx_ok (xcs_at hx 55 (x := .isx "TooMany") rfl), of_decide_eq_true (xcs_at hx 196 (x := .kit "TooMany" "BadRow" false) rfl)⟩, here_n en_TooManyEdits ⟨isx_ok (xcs_at hx 57 (x := .isx "TooManyEdits") rfl), of_decide_eq_true (xcs_at hx 197 (x := .kit "TooManyEdits" "BadRow" false) rfl)⟩, here_n en_Unlike ⟨isx_ok (xcs_at hx 59 (x := .isx "Unlike") rfl), of_decide_eq_true (xcs_at hx 198 (x := .kit "Unlike" "BadRow" false) rfl)⟩, trivial⟩⟩,
    ⟨_, em_BadText, AllT.all ⟨here_n en_FrankError ⟨isx_ok (xcs_at hx 15 (x := .isx "FrankError") rfl), of_decide_eq_true (xcs_at hx 199 (x := .kit "FrankError" "BadText" false) rfl)⟩, here_n en_BadAnswers ⟨isx_ok (xcs_at hx 17 (x := .isx "BadAnswers") rfl), of_decide_eq_true (xcs_at hx 200 (x := .kit "BadAnswers" "BadText" false) rfl)⟩, here_n en_BadBatch ⟨isx_ok (xcs_at hx 19 (x := .isx "BadBatch") rfl), of_decide_eq_true (xcs_at hx 201 (x := .kit "BadBatch" "BadText" false) rfl)⟩, here_n en_BadBelief ⟨isx_ok (xcs_at hx 21 (x := .isx "BadBelief") rfl), of_decide_eq_true (xcs_at hx 202 (x := .kit "BadBelief" "BadText" false) rfl)⟩, here_n en_BadMark ⟨isx_ok (xcs_at hx 23 (x := .isx "BadMark") rfl), of_decide_eq_true (xcs_at hx 203 (x := .kit "BadMark" "BadText" false) rfl)⟩, here_n en_BadMenu ⟨isx_ok (xcs_at hx 25 (x := .isx "BadMenu") rfl), of_decide_eq_true (xcs_at hx 204 (x := .kit "BadMenu" "BadText" false) rfl)⟩, here_n en_BadNumber ⟨isx_ok (xcs_at hx 27 (x := .isx "BadNumber") rfl), of_decide_eq_true (xcs_at hx 205 (x := .kit "BadNumber" "BadText" false) rfl)⟩, here_n en_BadRow ⟨isx_ok (xcs_at hx 29 (x := .isx "BadRow") rfl), of_decide_eq_true (xcs_at hx 206 (x := .kit "BadRow" "BadText" false) rfl)⟩, here_n en_BadText ⟨isx_ok (xcs_at hx 31 (x := .isx "BadText") rfl), of_decide_eq_true (xcs_at hx 207 (x := .kit "BadText" "BadText" true) rfl)⟩, here_n en_Busy ⟨isx_ok (xcs_at hx 33 (x := .isx "Busy") rfl), of_decide_eq_true (xcs_at hx 208 (x := .kit "Busy" "BadText" false) rfl)⟩, here_n en_LastWord ⟨isx_ok (xcs_at hx 35 (x := .isx "LastWord") rfl), of_decide_eq_true (xcs_at hx 209 (x := .kit "LastWord" "BadText" false) rfl)⟩, here_n en_NoAnswer ⟨isx_ok (xcs_at hx 37 (x := .isx "NoAnswer") rfl), of_decide_eq_true (xcs_at hx 210 (x := .kit "NoAnswer" "BadText" false) rfl)⟩, here_n en_NoCell ⟨isx_ok (xcs_at hx 39 (x := .isx "NoCell") rfl), of_decide_eq_true (xcs_at hx 211 (x := .kit "NoCell" "BadText" false) rfl)⟩, here_n en_NotFrank ⟨isx_ok (xcs_at hx 41 (x := .isx "NotFrank") rfl), of_decide_eq_true (xcs_at hx 212 (x := .kit "NotFrank" "BadText" false) rfl)⟩, here_n en_NothingToUndo ⟨isx_ok (xcs_at hx 43 (x := .isx "NothingToUndo") rfl), of_decide_eq_true (xcs_at hx 213 (x := .kit "NothingToUndo" "BadText" false) rfl)⟩, here_n en_NoVersion ⟨isx_ok (xcs_at hx 45 (x := .isx "NoVersion") rfl), of_decide_eq_true (xcs_at hx 214 (x := .kit "NoVersion" "BadText" false) rfl)⟩, here_n en_NoWord ⟨isx_ok (xcs_at hx 47 (x := .isx "NoWord") rfl), of_decide_eq_true (xcs_at hx 215 (x := .kit "NoWord" "BadText" false) rfl)⟩, here_n en_Rejected ⟨isx_ok (xcs_at hx 49 (x := .isx "Rejected") rfl), of_decide_eq_true (xcs_at hx 216 (x := .kit "Rejected" "BadText" false) rfl)⟩, here_n en_TooFew ⟨isx_ok (xcs_at hx 51 (x := .isx "TooFew") rfl), of_decide_eq_true (xcs_at hx 217 (x := .kit "TooFew" "BadText" false) rfl)⟩, here_n en_TooGreat ⟨isx_ok (xcs_at hx 53 (x := .isx "TooGreat") rfl), of_decide_eq_true (xcs_at hx 218 (x := .kit "TooGreat" "BadText" false) rfl)⟩, here_n en_TooMany ⟨isx_ok (xcs_at hx 55 (x := .isx "TooMany") rfl), of_decide_eq_true (xcs_at hx 219 (x := .kit "TooMany" "BadText" false) rfl)⟩, here_n en_TooManyEdits ⟨isx_ok (xcs_at hx 57 (x := .isx "TooManyEdits") rfl), of_decide_eq_true (xcs_at hx 220 (x := .kit "TooManyEdits" "BadText" false) rfl)⟩, here_n en_Unlike ⟨isx_ok (xcs_at hx 59 (x := .isx "Unlike") rfl), of_decide_eq_true (xcs_at hx 221 (x := .kit "Unlike" "BadText" false) rfl)⟩, trivial⟩⟩,
    ⟨_, em_Busy, AllT.all ⟨here_n en_FrankError ⟨isx_ok (xcs_at hx 15 (x := .isx "FrankError") rfl), of_decide_eq_true (xcs_at hx 222 (x := .kit "FrankError" "Busy" false) rfl)⟩, here_n en_BadAnswers ⟨isx_ok (xcs_at hx 17 (x := .isx "BadAnswers") rfl), of_decide_eq_true (xcs_at hx 223 (x := .kit "BadAnswers" "Busy" false) rfl)⟩, here_n en_BadBatch ⟨isx_ok (xcs_at hx 19 (x := .isx "BadBatch") rfl), of_decide_eq_true (xcs_at hx 224 (x := .kit "BadBatch" "Busy" false) rfl)⟩, here_n en_BadBelief ⟨isx_ok (xcs_at hx 21 (x := .isx "BadBelief") rfl), of_decide_eq_true (xcs_at hx 225 (x := .kit "BadBelief" "Busy" false) rfl)⟩, here_n en_BadMark ⟨isx_ok (xcs_at hx 23 (x := .isx "BadMark") rfl), of_decide_eq_true (xcs_at hx 226 (x := .kit "BadMark" "Busy" false) rfl)⟩, here_n en_BadMenu ⟨isx_ok (xcs_at hx 25 (x := .isx "BadMenu") rfl), of_decide_eq_true (xcs_at hx 227 (x := .kit "BadMenu" "Busy" false) rfl)⟩, here_n en_BadNumber ⟨isx_ok (xcs_at hx 27 (x := .isx "BadNumber") rfl), of_decide_eq_true (xcs_at hx 228 (x := .kit "BadNumber" "Busy" false) rfl)⟩, here_n en_BadRow ⟨isx_ok (xcs_at hx 29 (x := .isx "BadRow") rfl), of_decide_eq_true (xcs_at hx 229 (x := .kit "BadRow" "Busy" false) rfl)⟩, here_n en_BadText ⟨isx_ok (xcs_at hx 31 (x := .isx "BadText") rfl), of_decide_eq_true (xcs_at hx 230 (x := .kit "BadText" "Busy" false) rfl)⟩, here_n en_Busy ⟨isx_ok (xcs_at hx 33 (x := .isx "Busy") rfl), of_decide_eq_true (xcs_at hx 231 (x := .kit "Busy" "Busy" true) rfl)⟩, here_n en_LastWord ⟨isx_ok (xcs_at hx 35 (x := .isx "LastWord") rfl), of_decide_eq_true (xcs_at hx 232 (x := .kit "LastWord" "Busy" false) rfl)⟩, here_n en_NoAnswer ⟨isx_ok (xcs_at hx 37 (x := .isx "NoAnswer") rfl), of_decide_eq_true (xcs_at hx 233 (x := .kit "NoAnswer" "Busy" false) rfl)⟩, here_n en_NoCell ⟨isx_ok (xcs_at hx 39 (x := .isx "NoCell") rfl), of_decide_eq_true (xcs_at hx 234 (x := .kit "NoCell" "Busy" false) rfl)⟩, here_n en_NotFrank ⟨isx_ok (xcs_at hx 41 (x := .isx "NotFrank") rfl), of_decide_eq_true (xcs_at hx 235 (x := .kit "NotFrank" "Busy" false) rfl)⟩, here_n en_NothingToUndo ⟨isx_ok (xcs_at hx 43 (x := .isx "NothingToUndo") rfl), of_decide_eq_true (xcs_at hx 236 (x := .kit "NothingToUndo" "Busy" false) rfl)⟩, here_n en_NoVersion ⟨isx_ok (xcs_at hx 45 (x := .isx "NoVersion") rfl), of_decide_eq_true (xcs_at hx 237 (x := .kit "NoVersion" "Busy" false) rfl)⟩, here_n en_NoWord ⟨isx_ok (xcs_at hx 47 (x := .isx "NoWord") rfl), of_decide_eq_true (xcs_at hx 238 (x := .kit "NoWord" "Busy" false) rfl)⟩, here_n en_Rejected ⟨isx_ok (xcs_at hx 49 (x := .isx "Rejected") rfl), of_decide_eq_true (xcs_at hx 239 (x := .kit "Rejected" "Busy" false) rfl)⟩, here_n en_TooFew ⟨isx_ok (xcs_at hx 51 (x := .isx "TooFew") rfl), of_decide_eq_true (xcs_at hx 240 (x := .kit "TooFew" "Busy" false) rfl)⟩, here_n en_TooGreat ⟨isx_ok (xcs_at hx 53 (x := .isx "TooGreat") rfl), of_decide_eq_true (xcs_at hx 241 (x := .kit "TooGreat" "Busy" false) rfl)⟩, here_n en_TooMany ⟨isx_ok (xcs_at hx 55 (x := .isx "TooMany") rfl), of_decide_eq_true (xcs_at hx 242 (x := .kit "TooMany" "Busy" false) rfl)⟩, here_n en_TooManyEdits ⟨isx_ok (xcs_at hx 57 (x := .isx "TooManyEdits") rfl), of_decide_eq_true (xcs_at hx 243 (x := .kit "TooManyEdits" "Busy" false) rfl)⟩, here_n en_Unlike ⟨isx_ok (xcs_at hx 59 (x := .isx "Unlike") rfl), of_decide_eq_true (xcs_at hx 244 (x := .kit "Unlike" "Busy" false) rfl)⟩, trivial⟩⟩,
    ⟨_, em_FrankError, AllT.all ⟨here_n en_FrankError ⟨isx_ok (xcs_at hx 15 (x := .isx "FrankError") rfl), of_decide_eq_true (xcs_at hx 245 (x := .kit "FrankError" "FrankError" true) rfl)⟩, here_n en_BadAnswers ⟨isx_ok (xcs_at hx 17 (x := .isx "BadAnswers") rfl), of_decide_eq_true (xcs_at hx 246 (x := .kit "BadAnswers" "FrankError" true) rfl)⟩, here_n en_BadBatch ⟨isx_ok (xcs_at hx 19 (x := .isx "BadBatch") rfl), of_decide_eq_true (xcs_at hx 247 (x := .kit "BadBatch" "FrankError" true) rfl)⟩, here_n en_BadBelief ⟨isx_ok (xcs_at hx 21 (x := .isx "BadBelief") rfl), of_decide_eq_true (xcs_at hx 248 (x := .kit "BadBelief" "FrankError" true) rfl)⟩, here_n en_BadMark ⟨isx_ok (xcs_at hx 23 (x := .isx "BadMark") rfl), of_decide_eq_true (xcs_at hx 249 (x := .kit "BadMark" "FrankError" true) rfl)⟩, here_n en_BadMenu ⟨isx_ok (xcs_at hx 25 (x := .isx "BadMenu") rfl), of_decide_eq_true (xcs_at hx 250 (x := .kit "BadMenu" "FrankError" true) rfl)⟩, here_n en_BadNumber ⟨isx_ok (xcs_at hx 27 (x := .isx "BadNumber") rfl), of_decide_eq_true (xcs_at hx 251 (x := .kit "BadNumber" "FrankError" true) rfl)⟩, here_n en_BadRow ⟨isx_ok (xcs_at hx 29 (x := .isx "BadRow") rfl), of_decide_eq_true (xcs_at hx 252 (x := .kit "BadRow" "FrankError" true) rfl)⟩, here_n en_BadText ⟨isx_ok (xcs_at hx 31 (x := .isx "BadText") rfl), of_decide_eq_true (xcs_at hx 253 (x := .kit "BadText" "FrankError" true) rfl)⟩, here_n en_Busy ⟨isx_ok (xcs_at hx 33 (x := .isx "Busy") rfl), of_decide_eq_true (xcs_at hx 254 (x := .kit "Busy" "FrankError" true) rfl)⟩, here_n en_LastWord ⟨isx_ok (xcs_at hx 35 (x := .isx "LastWord") rfl), of_decide_eq_true (xcs_at hx 255 (x := .kit "LastWord" "FrankError" true) rfl)⟩, here_n en_NoAnswer ⟨isx_ok (xcs_at hx 37 (x := .isx "NoAnswer") rfl), of_decide_eq_true (xcs_at hx 256 (x := .kit "NoAnswer" "FrankError" true) rfl)⟩, here_n en_NoCell ⟨isx_ok (xcs_at hx 39 (x := .isx "NoCell") rfl), of_decide_eq_true (xcs_at hx 257 (x := .kit "NoCell" "FrankError" true) rfl)⟩, here_n en_NotFrank ⟨isx_ok (xcs_at hx 41 (x := .isx "NotFrank") rfl), of_decide_eq_true (xcs_at hx 258 (x := .kit "NotFrank" "FrankError" true) rfl)⟩, here_n en_NothingToUndo ⟨isx_ok (xcs_at hx 43 (x := .isx "NothingToUndo") rfl), of_decide_eq_true (xcs_at hx 259 (x := .kit "NothingToUndo" "FrankError" true) rfl)⟩, here_n en_NoVersion ⟨isx_ok (xcs_at hx 45 (x := .isx "NoVersion") rfl), of_decide_eq_true (xcs_at hx 260 (x := .kit "NoVersion" "FrankError" true) rfl)⟩, here_n en_NoWord ⟨isx_ok (xcs_at hx 47 (x := .isx "NoWord") rfl), of_decide_eq_true (xcs_at hx 261 (x := .kit "NoWord" "FrankError" true) rfl)⟩, here_n en_Rejected ⟨isx_ok (xcs_at hx 49 (x := .isx "Rejected") rfl), of_decide_eq_true (xcs_at hx 262 (x := .kit "Rejected" "FrankError" true) rfl)⟩, here_n en_TooFew ⟨isx_ok (xcs_at hx 51 (x := .isx "TooFew") rfl), of_decide_eq_true (xcs_at hx 263 (x := .kit "TooFew" "FrankError" true) rfl)⟩, here_n en_TooGreat ⟨isx_ok (xcs_at hx 53 (x := .isx "TooGreat") rfl), of_decide_eq_true (xcs_at hx 264 (x := .kit "TooGreat" "FrankError" true) rfl)⟩, here_n en_TooMany ⟨isx_ok (xcs_at hx 55 (x := .isx "TooMany") rfl), of_decide_eq_true (xcs_at hx 265 (x := .kit "TooMany" "FrankError" true) rfl)⟩, here_n en_TooManyEdits ⟨isx_ok (xcs_at hx 57 (x := .isx "TooManyEdits") rfl), of_decide_eq_true (xcs_at hx 266 (x := .kit "TooManyEdits" "FrankError" true) rfl)⟩, here_n en_Unlike ⟨isx_ok (xcs_at hx 59 (x := .isx "Unlike") rfl), of_decide_eq_true (xcs_at hx 267 (x := .kit "Unlike" "FrankError" true) rfl)⟩, trivial⟩⟩,
    ⟨_, em_LastWord, AllT.all ⟨here_n en_FrankError ⟨isx_ok (xcs_at hx 15 (x := .isx "FrankError") rfl), of_decide_eq_true (xcs_at hx 268 (x := .kit "FrankError" "LastWord" false) rfl)⟩, here_n en_BadAnswers ⟨isx_ok (xcs_at hx 17 (x := .isx "BadAnswers") rfl), of_decide_eq_true (xcs_at hx 269 (x := .kit "BadAnswers" "LastWord" false) rfl)⟩, here_n en_BadBatch ⟨isx_ok (xcs_at hx 19 (x := .isx "BadBatch") rfl), of_decide_eq_true (xcs_at hx 270 (x := .kit "BadBatch" "LastWord" false) rfl)⟩, here_n en_BadBelief ⟨isx_ok (xcs_at hx 21 (x := .isx "BadBelief") rfl), of_decide_eq_true (xcs_at hx 271 (x := .kit "BadBelief" "LastWord" false) rfl)⟩, here_n en_BadMark ⟨isx_ok (xcs_at hx 23 (x := .isx "BadMark") rfl), of_decide_eq_true (xcs_at hx 272 (x := .kit "BadMark" "LastWord" false) rfl)⟩, here_n en_BadMenu ⟨isx_ok (xcs_at hx 25 (x := .isx "BadMenu") rfl), of_decide_eq_true (xcs_at hx 273 (x := .kit "BadMenu" "LastWord" false) rfl)⟩, here_n en_BadNumber ⟨isx_ok (xcs_at hx 27 (x := .isx "BadNumber") rfl), of_decide_eq_true (xcs_at hx 274 (x := .kit "BadNumber" "LastWord" false) rfl)⟩, here_n en_BadRow ⟨isx_ok (xcs_at hx 29 (x := .isx "BadRow") rfl), of_decide_eq_true (xcs_at hx 275 (x := .kit "BadRow" "LastWord" false) rfl)⟩, here_n en_BadText ⟨isx_ok (xcs_at hx 31 (x := .isx "BadText") rfl), of_decide_eq_true (xcs_at hx 276 (x := .kit "BadText" "LastWord" false) rfl)⟩, here_n en_Busy ⟨isx_ok (xcs_at hx 33 (x := .isx "Busy") rfl), of_decide_eq_true (xcs_at hx 277 (x := .kit "Busy" "LastWord" false) rfl)⟩, here_n en_LastWord ⟨isx_ok (xcs_at hx 35 (x := .isx "LastWord") rfl), of_decide_eq_true (xcs_at hx 278 (x := .kit "LastWord" "LastWord" true) rfl)⟩, here_n en_NoAnswer ⟨isx_ok (xcs_at hx 37 (x := .isx "NoAnswer") rfl), of_decide_eq_true (xcs_at hx 279 (x := .kit "NoAnswer" "LastWord" false) rfl)⟩, here_n en_NoCell ⟨isx_ok (xcs_at hx 39 (x := .isx "NoCell") rfl), of_decide_eq_true (xcs_at hx 280 (x := .kit "NoCell" "LastWord" false) rfl)⟩, here_n en_NotFrank ⟨isx_ok (xcs_at hx 41 (x := .isx "NotFrank") rfl), of_decide_eq_true (xcs_at hx 281 (x := .kit "NotFrank" "LastWord" false) rfl)⟩, here_n en_NothingToUndo ⟨isx_ok (xcs_at hx 43 (x := .isx "NothingToUndo") rfl), of_decide_eq_true (xcs_at hx 282 (x := .kit "NothingToUndo" "LastWord" false) rfl)⟩, here_n en_NoVersion ⟨isx_ok (xcs_at hx 45 (x := .isx "NoVersion") rfl), of_decide_eq_true (xcs_at hx 283 (x := .kit "NoVersion" "LastWord" false) rfl)⟩, here_n en_NoWord ⟨isx_ok (xcs_at hx 47 (x := .isx "NoWord") rfl), of_decide_eq_true (xcs_at hx 284 (x := .kit "NoWord" "LastWord" false) rfl)⟩, here_n en_Rejected ⟨isx_ok (xcs_at hx 49 (x := .isx "Rejected") rfl), of_decide_eq_true (xcs_at hx 285 (x := .kit "Rejected" "LastWord" false) rfl)⟩, here_n en_TooFew ⟨isx_ok (xcs_at hx 51 (x := .isx "TooFew") rfl), of_decide_eq_true (xcs_at hx 286 (x := .kit "TooFew" "LastWord" false) rfl)⟩, here_n en_TooGreat ⟨isx_ok (xcs_at hx 53 (x := .isx "TooGreat") rfl), of_decide_eq_true (xcs_at hx 287 (x := .kit "TooGreat" "LastWord" false) rfl)⟩, here_n en_TooMany ⟨isx_ok (xcs_at hx 55 (x := .isx "TooMany") rfl), of_decide_eq_true (xcs_at hx 288 (x := .kit "TooMany" "LastWord" false) rfl)⟩, here_n en_TooManyEdits ⟨isx_ok (xcs_at hx 57 (x := .isx "TooManyEdits") rfl), of_decide_eq_true (xcs_at hx 289 (x := .kit "TooManyEdits" "LastWord" false) rfl)⟩, here_n en_Unlike ⟨isx_ok (xcs_at hx 59 (x := .isx "Unlike") rfl), of_decide_eq_true (xcs_at hx 290 (x := .kit "Unlike" "LastWord" false) rfl)⟩, trivial⟩⟩,
    ⟨_, em_NoAnswer, AllT.all ⟨here_n en_FrankError ⟨isx_ok (xcs_at hx 15 (x := .isx "FrankError") rfl), of_decide_eq_true (xcs_at hx 291 (x := .kit "FrankError" "NoAnswer" false) rfl)⟩, here_n en_BadAnswers ⟨isx_ok (xcs_at hx 17 (x := .isx "BadAnswers") rfl), of_decide_eq_true (xcs_at hx 292 (x := .kit "BadAnswers" "NoAnswer" false) rfl)⟩, here_n en_BadBatch ⟨isx_ok (xcs_at hx 19 (x := .isx "BadBatch") rfl), of_decide_eq_true (xcs_at hx 293 (x := .kit "BadBatch" "NoAnswer" false) rfl)⟩, here_n en_BadBelief ⟨isx_ok (xcs_at hx 21 (x := .isx "BadBelief") rfl), of_decide_eq_true (xcs_at hx 294 (x := .kit "BadBelief" "NoAnswer" false) rfl)⟩, here_n en_BadMark ⟨isx_ok (xcs_at hx 23 (x := .isx "BadMark") rfl), of_decide_eq_true (xcs_at hx 295 (x := .kit "BadMark" "NoAnswer" false) rfl)⟩, here_n en_BadMenu ⟨isx_ok (xcs_at hx 25 (x := .isx "BadMenu") rfl), of_decide_eq_true (xcs_at hx 296 (x := .kit "BadMenu" "NoAnswer" false) rfl)⟩, here_n en_BadNumber ⟨isx_ok (xcs_at hx 27 (x := .isx "BadNumber") rfl), of_decide_eq_true (xcs_at hx 297 (x := .kit "BadNumber" "NoAnswer" false) rfl)⟩, here_n en_BadRow ⟨isx_ok (xcs_at hx 29 (x := .isx "BadRow") rfl), of_decide_eq_true (xcs_at hx 298 (x := .kit "BadRow" "NoAnswer" false) rfl)⟩, here_n en_BadText ⟨isx_ok (xcs_at hx 31 (x := .isx "BadText") rfl), of_decide_eq_true (xcs_at hx 299 (x := .kit "BadText" "NoAnswer" false) rfl)⟩, here_n en_Busy ⟨isx_ok (xcs_at hx 33 (x := .isx "Busy") rfl), of_decide_eq_true (xcs_at hx 300 (x := .kit "Busy" "NoAnswer" false) rfl)⟩, here_n en_LastWord ⟨isx_ok (xcs_at hx 35 (x := .isx "LastWord") rfl), of_decide_eq_true (xcs_at hx 301 (x := .kit "LastWord" "NoAnswer" false) rfl)⟩, here_n en_NoAnswer ⟨isx_ok (xcs_at hx 37 (x := .isx "NoAnswer") rfl), of_decide_eq_true (xcs_at hx 302 (x := .kit "NoAnswer" "NoAnswer" true) rfl)⟩, here_n en_NoCell ⟨isx_ok (xcs_at hx 39 (x := .isx "NoCell") rfl), of_decide_eq_true (xcs_at hx 303 (x := .kit "NoCell" "NoAnswer" false) rfl)⟩, here_n en_NotFrank ⟨isx_ok (xcs_at hx 41 (x := .isx "NotFrank") rfl), of_decide_eq_true (xcs_at hx 304 (x := .kit "NotFrank" "NoAnswer" false) rfl)⟩, here_n en_NothingToUndo ⟨isx_ok (xcs_at hx 43 (x := .isx "NothingToUndo") rfl), of_decide_eq_true (xcs_at hx 305 (x := .kit "NothingToUndo" "NoAnswer" false) rfl)⟩, here_n en_NoVersion ⟨isx_ok (xcs_at hx 45 (x := .isx "NoVersion") rfl), of_decide_eq_true (xcs_at hx 306 (x := .kit "NoVersion" "NoAnswer" false) rfl)⟩, here_n en_NoWord ⟨isx_ok (xcs_at hx 47 (x := .isx "NoWord") rfl), of_decide_eq_true (xcs_at hx 307 (x := .kit "NoWord" "NoAnswer" false) rfl)⟩, here_n en_Rejected ⟨isx_ok (xcs_at hx 49 (x := .isx "Rejected") rfl), of_decide_eq_true (xcs_at hx 308 (x := .kit "Rejected" "NoAnswer" false) rfl)⟩, here_n en_TooFew ⟨isx_ok (xcs_at hx 51 (x := .isx "TooFew") rfl), of_decide_eq_true (xcs_at hx 309 (x := .kit "TooFew" "NoAnswer" false) rfl)⟩, here_n en_TooGreat ⟨isx_ok (xcs_at hx 53 (x := .isx "TooGreat") rfl), of_decide_eq_true (xcs_at hx 310 (x := .kit "TooGreat" "NoAnswer" false) rfl)⟩, here_n en_TooMany ⟨isx_ok (xcs_at hx 55 (x := .isx "TooMany") rfl), of_decide_eq_true (xcs_at hx 311 (x := .kit "TooMany" "NoAnswer" false) rfl)⟩, here_n en_TooManyEdits ⟨isx_ok (xcs_at hx 57 (x := .isx "TooManyEdits") rfl), of_decide_eq_true (xcs_at hx 312 (x := .kit "TooManyEdits" "NoAnswer" false) rfl)⟩, here_n en_Unlike ⟨isx_ok (xcs_at hx 59 (x := .isx "Unlike") rfl), of_decide_eq_true (xcs_at hx 313 (x := .kit "Unlike" "NoAnswer" false) rfl)⟩, trivial⟩⟩,
    ⟨_, em_NoCell, AllT.all ⟨here_n en_FrankError ⟨isx_ok (xcs_at hx 15 (x := .isx "FrankError") rfl), of_decide_eq_true (xcs_at hx 314 (x := .kit "FrankError" "NoCell" false) rfl)⟩, here_n en_BadAnswers ⟨isx_ok (xcs_at hx 17 (x := .isx "BadAnswers") rfl), of_decide_eq_true (xcs_at hx 315 (x := .kit "BadAnswers" "NoCell" false) rfl)⟩, here_n en_BadBatch ⟨isx_ok (xcs_at hx 19 (x := .isx "BadBatch") rfl), of_decide_eq_true (xcs_at hx 316 (x := .kit "BadBatch" "NoCell" false) rfl)⟩, here_n en_BadBelief ⟨isx_ok (xcs_at hx 21 (x := .isx "BadBelief") rfl), of_decide_eq_true (xcs_at hx 317 (x := .kit "BadBelief" "NoCell" false) rfl)⟩, here_n en_BadMark ⟨isx_ok (xcs_at hx 23 (x := .isx "BadMark") rfl), of_decide_eq_true (xcs_at hx 318 (x := .kit "BadMark" "NoCell" false) rfl)⟩, here_n en_BadMenu ⟨isx_ok (xcs_at hx 25 (x := .isx "BadMenu") rfl), of_decide_eq_true (xcs_at hx 319 (x := .kit "BadMenu" "NoCell" false) rfl)⟩, here_n en_BadNumber ⟨isx_ok (xcs_at hx 27 (x := .isx "BadNumber") rfl), of_decide_eq_true (xcs_at hx 320 (x := .kit "BadNumber" "NoCell" false) rfl)⟩, here_n en_BadRow ⟨isx_ok (xcs_at hx 29 (x := .isx "BadRow") rfl), of_decide_eq_true (xcs_at hx 321 (x := .kit "BadRow" "NoCell" false) rfl)⟩, here_n en_BadText ⟨isx_ok (xcs_at hx 31 (x := .isx "BadText") rfl), of_decide_eq_true (xcs_at hx 322 (x := .kit "BadText" "NoCell" false) rfl)⟩, here_n en_Busy ⟨isx_ok (xcs_at hx 33 (x := .isx "Busy") rfl), of_decide_eq_true (xcs_at hx 323 (x := .kit "Busy" "NoCell" false) rfl)⟩, here_n en_LastWord ⟨isx_ok (xcs_at hx 35 (x := .isx "LastWord") rfl), of_decide_eq_true (xcs_at hx 324 (x := .kit "LastWord" "NoCell" false) rfl)⟩, here_n en_NoAnswer ⟨isx_ok (xcs_at hx 37 (x := .isx "NoAnswer") rfl), of_decide_eq_true (xcs_at hx 325 (x := .kit "NoAnswer" "NoCell" false) rfl)⟩, here_n en_NoCell ⟨isx_ok (xcs_at hx 39 (x := .isx "NoCell") rfl), of_decide_eq_true (xcs_at hx 326 (x := .kit "NoCell" "NoCell" true) rfl)⟩, here_n en_NotFrank ⟨isx_ok (xcs_at hx 41 (x := .isx "NotFrank") rfl), of_decide_eq_true (xcs_at hx 327 (x := .kit "NotFrank" "NoCell" false) rfl)⟩, here_n en_NothingToUndo ⟨isx_ok (xcs_at hx 43 (x := .isx "NothingToUndo") rfl), of_decide_eq_true (xcs_at hx 328 (x := .kit "NothingToUndo" "NoCell" false) rfl)⟩, here_n en_NoVersion ⟨isx_ok (xcs_at hx 45 (x := .isx "NoVersion") rfl), of_decide_eq_true (xcs_at hx 329 (x := .kit "NoVersion" "NoCell" false) rfl)⟩, here_n en_NoWord ⟨isx_ok (xcs_at hx 47 (x := .isx "NoWord") rfl), of_decide_eq_true (xcs_at hx 330 (x := .kit "NoWord" "NoCell" false) rfl)⟩, here_n en_Rejected ⟨isx_ok (xcs_at hx 49 (x := .isx "Rejected") rfl), of_decide_eq_true (xcs_at hx 331 (x := .kit "Rejected" "NoCell" false) rfl)⟩, here_n en_TooFew ⟨isx_ok (xcs_at hx 51 (x := .isx "TooFew") rfl), of_decide_eq_true (xcs_at hx 332 (x := .kit "TooFew" "NoCell" false) rfl)⟩, here_n en_TooGreat ⟨isx_ok (xcs_at hx 53 (x := .isx "TooGreat") rfl), of_decide_eq_true (xcs_at hx 333 (x := .kit "TooGreat" "NoCell" false) rfl)⟩, here_n en_TooMany ⟨isx_ok (xcs_at hx 55 (x := .isx "TooMany") rfl), of_decide_eq_true (xcs_at hx 334 (x := .kit "TooMany" "NoCell" false) rfl)⟩, here_n en_TooManyEdits ⟨isx_ok (xcs_at hx 57 (x := .isx "TooManyEdits") rfl), of_decide_eq_true (xcs_at hx 335 (x := .kit "TooManyEdits" "NoCell" false) rfl)⟩, here_n en_Unlike ⟨isx_ok (xcs_at hx 59 (x := .isx "Unlike") rfl), of_decide_eq_true (xcs_at hx 336 (x := .kit "Unlike" "NoCell" false) rfl)⟩, trivial⟩⟩,
    ⟨_, em_NoVersion, AllT.all ⟨here_n en_FrankError ⟨isx_ok (xcs_at hx 15 (x := .isx "FrankError") rfl), of_decide_eq_true (xcs_at hx 337 (x := .kit "FrankError" "NoVersion" false) rfl)⟩, here_n en_BadAnswers ⟨isx_ok (xcs_at hx 17 (x := .isx "BadAnswers") rfl), of_decide_eq_true (xcs_at hx 338 (x := .kit "BadAnswers" "NoVersion" false) rfl)⟩, here_n en_BadBatch ⟨isx_ok (xcs_at hx 19 (x := .isx "BadBatch") rfl), of_decide_eq_true (xcs_at hx 339 (x := .kit "BadBatch" "NoVersion" false) rfl)⟩, here_n en_BadBelief ⟨isx_ok (xcs_at hx 21 (x := .isx "BadBelief") rfl), of_decide_eq_true (xcs_at hx 340 (x := .kit "BadBelief" "NoVersion" false) rfl)⟩, here_n en_BadMark ⟨isx_ok (xcs_at hx 23 (x := .isx "BadMark") rfl), of_decide_eq_true (xcs_at hx 341 (x := .kit "BadMark" "NoVersion" false) rfl)⟩, here_n en_BadMenu ⟨isx_ok (xcs_at hx 25 (x := .isx "BadMenu") rfl), of_decide_eq_true (xcs_at hx 342 (x := .kit "BadMenu" "NoVersion" false) rfl)⟩, here_n en_BadNumber ⟨isx_ok (xcs_at hx 27 (x := .isx "BadNumber") rfl), of_decide_eq_true (xcs_at hx 343 (x := .kit "BadNumber" "NoVersion" false) rfl)⟩, here_n en_BadRow ⟨isx_ok (xcs_at hx 29 (x := .isx "BadRow") rfl), of_decide_eq_true (xcs_at hx 344 (x := .kit "BadRow" "NoVersion" false) rfl)⟩, here_n en_BadText ⟨isx_ok (xcs_at hx 31 (x := .isx "BadText") rfl), of_decide_eq_true (xcs_at hx 345 (x := .kit "BadText" "NoVersion" false) rfl)⟩, here_n en_Busy ⟨isx_ok (xcs_at hx 33 (x := .isx "Busy") rfl), of_decide_eq_true (xcs_at hx 346 (x := .kit "Busy" "NoVersion" false) rfl)⟩, here_n en_LastWord ⟨isx_ok (xcs_at hx 35 (x := .isx "LastWord") rfl), of_decide_eq_true (xcs_at hx 347 (x := .kit "LastWord" "NoVersion" false) rfl)⟩, here_n en_NoAnswer ⟨isx_ok (xcs_at hx 37 (x := .isx "NoAnswer") rfl), of_decide_eq_true (xcs_at hx 348 (x := .kit "NoAnswer" "NoVersion" false) rfl)⟩, here_n en_NoCell ⟨isx_ok (xcs_at hx 39 (x := .isx "NoCell") rfl), of_decide_eq_true (xcs_at hx 349 (x := .kit "NoCell" "NoVersion" false) rfl)⟩, here_n en_NotFrank ⟨isx_ok (xcs_at hx 41 (x := .isx "NotFrank") rfl), of_decide_eq_true (xcs_at hx 350 (x := .kit "NotFrank" "NoVersion" false) rfl)⟩, here_n en_NothingToUndo ⟨isx_ok (xcs_at hx 43 (x := .isx "NothingToUndo") rfl), of_decide_eq_true (xcs_at hx 351 (x := .kit "NothingToUndo" "NoVersion" false) rfl)⟩, here_n en_NoVersion ⟨isx_ok (xcs_at hx 45 (x := .isx "NoVersion") rfl), of_decide_eq_true (xcs_at hx 352 (x := .kit "NoVersion" "NoVersion" true) rfl)⟩, here_n en_NoWord ⟨isx_ok (xcs_at hx 47 (x := .isx "NoWord") rfl), of_decide_eq_true (xcs_at hx 353 (x := .kit "NoWord" "NoVersion" false) rfl)⟩, here_n en_Rejected ⟨isx_ok (xcs_at hx 49 (x := .isx "Rejected") rfl), of_decide_eq_true (xcs_at hx 354 (x := .kit "Rejected" "NoVersion" false) rfl)⟩, here_n en_TooFew ⟨isx_ok (xcs_at hx 51 (x := .isx "TooFew") rfl), of_decide_eq_true (xcs_at hx 355 (x := .kit "TooFew" "NoVersion" false) rfl)⟩, here_n en_TooGreat ⟨isx_ok (xcs_at hx 53 (x := .isx "TooGreat") rfl), of_decide_eq_true (xcs_at hx 356 (x := .kit "TooGreat" "NoVersion" false) rfl)⟩, here_n en_TooMany ⟨isx_ok (xcs_at hx 55 (x := .isx "TooMany") rfl), of_decide_eq_true (xcs_at hx 357 (x := .kit "TooMany" "NoVersion" false) rfl)⟩, here_n en_TooManyEdits ⟨isx_ok (xcs_at hx 57 (x := .isx "TooManyEdits") rfl), of_decide_eq_true (xcs_at hx 358 (x := .kit "TooManyEdits" "NoVersion" false) rfl)⟩, here_n en_Unlike ⟨isx_ok (xcs_at hx 59 (x := .isx "Unlike") rfl), of_decide_eq_true (xcs_at hx 359 (x := .kit "Unlike" "NoVersion" false) rfl)⟩, trivial⟩⟩,
    ⟨_, em_NoWord, AllT.all ⟨here_n en_FrankError ⟨isx_ok (xcs_at hx 15 (x := .isx "FrankError") rfl), of_decide_eq_true (xcs_at hx 360 (x := .kit "FrankError" "NoWord" false) rfl)⟩, here_n en_BadAnswers ⟨isx_ok (xcs_at hx 17 (x := .isx "BadAnswers") rfl), of_decide_eq_true (xcs_at hx 361 (x := .kit "BadAnswers" "NoWord" false) rfl)⟩, here_n en_BadBatch ⟨isx_ok (xcs_at hx 19 (x := .isx "BadBatch") rfl), of_decide_eq_true (xcs_at hx 362 (x := .kit "BadBatch" "NoWord" false) rfl)⟩, here_n en_BadBelief ⟨isx_ok (xcs_at hx 21 (x := .isx "BadBelief") rfl), of_decide_eq_true (xcs_at hx 363 (x := .kit "BadBelief" "NoWord" false) rfl)⟩, here_n en_BadMark ⟨isx_ok (xcs_at hx 23 (x := .isx "BadMark") rfl), of_decide_eq_true (xcs_at hx 364 (x := .kit "BadMark" "NoWord" false) rfl)⟩, here_n en_BadMenu ⟨isx_ok (xcs_at hx 25 (x := .isx "BadMenu") rfl), of_decide_eq_true (xcs_at hx 365 (x := .kit "BadMenu" "NoWord" false) rfl)⟩, here_n en_BadNumber ⟨isx_ok (xcs_at hx 27 (x := .isx "BadNumber") rfl), of_decide_eq_true (xcs_at hx 366 (x := .kit "BadNumber" "NoWord" false) rfl)⟩, here_n en_BadRow ⟨isx_ok (xcs_at hx 29 (x := .isx "BadRow") rfl), of_decide_eq_true (xcs_at hx 367 (x := .kit "BadRow" "NoWord" false) rfl)⟩, here_n en_BadText ⟨isx_ok (xcs_at hx 31 (x := .isx "BadText") rfl), of_decide_eq_true (xcs_at hx 368 (x := .kit "BadText" "NoWord" false) rfl)⟩, here_n en_Busy ⟨isx_ok (xcs_at hx 33 (x := .isx "Busy") rfl), of_decide_eq_true (xcs_at hx 369 (x := .kit "Busy" "NoWord" false) rfl)⟩, here_n en_LastWord ⟨isx_ok (xcs_at hx 35 (x := .isx "LastWord") rfl), of_decide_eq_true (xcs_at hx 370 (x := .kit "LastWord" "NoWord" false) rfl)⟩, here_n en_NoAnswer ⟨isx_ok (xcs_at hx 37 (x := .isx "NoAnswer") rfl), of_decide_eq_true (xcs_at hx 371 (x := .kit "NoAnswer" "NoWord" false) rfl)⟩, here_n en_NoCell ⟨isx_ok (xcs_at hx 39 (x := .isx "NoCell") rfl), of_decide_eq_true (xcs_at hx 372 (x := .kit "NoCell" "NoWord" false) rfl)⟩, here_n en_NotFrank ⟨isx_ok (xcs_at hx 41 (x := .isx "NotFrank") rfl), of_decide_eq_true (xcs_at hx 373 (x := .kit "NotFrank" "NoWord" false) rfl)⟩, here_n en_NothingToUndo ⟨isx_ok (xcs_at hx 43 (x := .isx "NothingToUndo") rfl), of_decide_eq_true (xcs_at hx 374 (x := .kit "NothingToUndo" "NoWord" false) rfl)⟩, here_n en_NoVersion ⟨isx_ok (xcs_at hx 45 (x := .isx "NoVersion") rfl), of_decide_eq_true (xcs_at hx 375 (x := .kit "NoVersion" "NoWord" false) rfl)⟩, here_n en_NoWord ⟨isx_ok (xcs_at hx 47 (x := .isx "NoWord") rfl), of_decide_eq_true (xcs_at hx 376 (x := .kit "NoWord" "NoWord" true) rfl)⟩, here_n en_Rejected ⟨isx_ok (xcs_at hx 49 (x := .isx "Rejected") rfl), of_decide_eq_true (xcs_at hx 377 (x := .kit "Rejected" "NoWord" false) rfl)⟩, here_n en_TooFew ⟨isx_ok (xcs_at hx 51 (x := .isx "TooFew") rfl), of_decide_eq_true (xcs_at hx 378 (x := .kit "TooFew" "NoWord" false) rfl)⟩, here_n en_TooGreat ⟨isx_ok (xcs_at hx 53 (x := .isx "TooGreat") rfl), of_decide_eq_true (xcs_at hx 379 (x := .kit "TooGreat" "NoWord" false) rfl)⟩, here_n en_TooMany ⟨isx_ok (xcs_at hx 55 (x := .isx "TooMany") rfl), of_decide_eq_true (xcs_at hx 380 (x := .kit "TooMany" "NoWord" false) rfl)⟩, here_n en_TooManyEdits ⟨isx_ok (xcs_at hx 57 (x := .isx "TooManyEdits") rfl), of_decide_eq_true (xcs_at hx 381 (x := .kit "TooManyEdits" "NoWord" false) rfl)⟩, here_n en_Unlike ⟨isx_ok (xcs_at hx 59 (x := .isx "Unlike") rfl), of_decide_eq_true (xcs_at hx 382 (x := .kit "Unlike" "NoWord" false) rfl)⟩, trivial⟩⟩,
    ⟨_, em_NotFrank, AllT.all ⟨here_n en_FrankError ⟨isx_ok (xcs_at hx 15 (x := .isx "FrankError") rfl), of_decide_eq_true (xcs_at hx 383 (x := .kit "FrankError" "NotFrank" false) rfl)⟩, here_n en_BadAnswers ⟨isx_ok (xcs_at hx 17 (x := .isx "BadAnswers") rfl), of_decide_eq_true (xcs_at hx 384 (x := .kit "BadAnswers" "NotFrank" false) rfl)⟩, here_n en_BadBatch ⟨isx_ok (xcs_at hx 19 (x := .isx "BadBatch") rfl), of_decide_eq_true (xcs_at hx 385 (x := .kit "BadBatch" "NotFrank" false) rfl)⟩, here_n en_BadBelief ⟨isx_ok (xcs_at hx 21 (x := .isx "BadBelief") rfl), of_decide_eq_true (xcs_at hx 386 (x := .kit "BadBelief" "NotFrank" false) rfl)⟩, here_n en_BadMark ⟨isx_ok (xcs_at hx 23 (x := .isx "BadMark") rfl), of_decide_eq_true (xcs_at hx 387 (x := .kit "BadMark" "NotFrank" false) rfl)⟩, here_n en_BadMenu ⟨isx_ok (xcs_at hx 25 (x := .isx "BadMenu") rfl), of_decide_eq_true (xcs_at hx 388 (x := .kit "BadMenu" "NotFrank" false) rfl)⟩, here_n en_BadNumber ⟨isx_ok (xcs_at hx 27 (x := .isx "BadNumber") rfl), of_decide_eq_true (xcs_at hx 389 (x := .kit "BadNumber" "NotFrank" false) rfl)⟩, here_n en_BadRow ⟨isx_ok (xcs_at hx 29 (x := .isx "BadRow") rfl), of_decide_eq_true (xcs_at hx 390 (x := .kit "BadRow" "NotFrank" false) rfl)⟩, here_n en_BadText ⟨isx_ok (xcs_at hx 31 (x := .isx "BadText") rfl), of_decide_eq_true (xcs_at hx 391 (x := .kit "BadText" "NotFrank" false) rfl)⟩, here_n en_Busy ⟨isx_ok (xcs_at hx 33 (x := .isx "Busy") rfl), of_decide_eq_true (xcs_at hx 392 (x := .kit "Busy" "NotFrank" false) rfl)⟩, here_n en_LastWord ⟨isx_ok (xcs_at hx 35 (x := .isx "LastWord") rfl), of_decide_eq_true (xcs_at hx 393 (x := .kit "LastWord" "NotFrank" false) rfl)⟩, here_n en_NoAnswer ⟨isx_ok (xcs_at hx 37 (x := .isx "NoAnswer") rfl), of_decide_eq_true (xcs_at hx 394 (x := .kit "NoAnswer" "NotFrank" false) rfl)⟩, here_n en_NoCell ⟨isx_ok (xcs_at hx 39 (x := .isx "NoCell") rfl), of_decide_eq_true (xcs_at hx 395 (x := .kit "NoCell" "NotFrank" false) rfl)⟩, here_n en_NotFrank ⟨isx_ok (xcs_at hx 41 (x := .isx "NotFrank") rfl), of_decide_eq_true (xcs_at hx 396 (x := .kit "NotFrank" "NotFrank" true) rfl)⟩, here_n en_NothingToUndo ⟨isx_ok (xcs_at hx 43 (x := .isx "NothingToUndo") rfl), of_decide_eq_true (xcs_at hx 397 (x := .kit "NothingToUndo" "NotFrank" false) rfl)⟩, here_n en_NoVersion ⟨isx_ok (xcs_at hx 45 (x := .isx "NoVersion") rfl), of_decide_eq_true (xcs_at hx 398 (x := .kit "NoVersion" "NotFrank" false) rfl)⟩, here_n en_NoWord ⟨isx_ok (xcs_at hx 47 (x := .isx "NoWord") rfl), of_decide_eq_true (xcs_at hx 399 (x := .kit "NoWord" "NotFrank" false) rfl)⟩, here_n en_Rejected ⟨isx_ok (xcs_at hx 49 (x := .isx "Rejected") rfl), of_decide_eq_true (xcs_at hx 400 (x := .kit "Rejected" "NotFrank" false) rfl)⟩, here_n en_TooFew ⟨isx_ok (xcs_at hx 51 (x := .isx "TooFew") rfl), of_decide_eq_true (xcs_at hx 401 (x := .kit "TooFew" "NotFrank" false) rfl)⟩, here_n en_TooGreat ⟨isx_ok (xcs_at hx 53 (x := .isx "TooGreat") rfl), of_decide_eq_true (xcs_at hx 402 (x := .kit "TooGreat" "NotFrank" false) rfl)⟩, here_n en_TooMany ⟨isx_ok (xcs_at hx 55 (x := .isx "TooMany") rfl), of_decide_eq_true (xcs_at hx 403 (x := .kit "TooMany" "NotFrank" false) rfl)⟩, here_n en_TooManyEdits ⟨isx_ok (xcs_at hx 57 (x := .isx "TooManyEdits") rfl), of_decide_eq_true (xcs_at hx 404 (x := .kit "TooManyEdits" "NotFrank" false) rfl)⟩, here_n en_Unlike ⟨isx_ok (xcs_at hx 59 (x := .isx "Unlike") rfl), of_decide_eq_true (xcs_at hx 405 (x := .kit "Unlike" "NotFrank" false) rfl)⟩, trivial⟩⟩,
    ⟨_, em_NothingToUndo, AllT.all ⟨here_n en_FrankError ⟨isx_ok (xcs_at hx 15 (x := .isx "FrankError") rfl), of_decide_eq_true (xcs_at hx 406 (x := .kit "FrankError" "NothingToUndo" false) rfl)⟩, here_n en_BadAnswers ⟨isx_ok (xcs_at hx 17 (x := .isx "BadAnswers") rfl), of_decide_eq_true (xcs_at hx 407 (x := .kit "BadAnswers" "NothingToUndo" false) rfl)⟩, here_n en_BadBatch ⟨isx_ok (xcs_at hx 19 (x := .isx "BadBatch") rfl), of_decide_eq_true (xcs_at hx 408 (x := .kit "BadBatch" "NothingToUndo" false) rfl)⟩, here_n en_BadBelief ⟨isx_ok (xcs_at hx 21 (x := .isx "BadBelief") rfl), of_decide_eq_true (xcs_at hx 409 (x := .kit "BadBelief" "NothingToUndo" false) rfl)⟩, here_n en_BadMark ⟨isx_ok (xcs_at hx 23 (x := .isx "BadMark") rfl), of_decide_eq_true (xcs_at hx 410 (x := .kit "BadMark" "NothingToUndo" false) rfl)⟩, here_n en_BadMenu ⟨isx_ok (xcs_at hx 25 (x := .isx "BadMenu") rfl), of_decide_eq_true (xcs_at hx 411 (x := .kit "BadMenu" "NothingToUndo" false) rfl)⟩, here_n en_BadNumber ⟨isx_ok (xcs_at hx 27 (x := .isx "BadNumber") rfl), of_decide_eq_true (xcs_at hx 412 (x := .kit "BadNumber" "NothingToUndo" false) rfl)⟩, here_n en_BadRow ⟨isx_ok (xcs_at hx 29 (x := .isx "BadRow") rfl), of_decide_eq_true (xcs_at hx 413 (x := .kit "BadRow" "NothingToUndo" false) rfl)⟩, here_n en_BadText ⟨isx_ok (xcs_at hx 31 (x := .isx "BadText") rfl), of_decide_eq_true (xcs_at hx 414 (x := .kit "BadText" "NothingToUndo" false) rfl)⟩, here_n en_Busy ⟨isx_ok (xcs_at hx 33 (x := .isx "Busy") rfl), of_decide_eq_true (xcs_at hx 415 (x := .kit "Busy" "NothingToUndo" false) rfl)⟩, here_n en_LastWord ⟨isx_ok (xcs_at hx 35 (x := .isx "LastWord") rfl), of_decide_eq_true (xcs_at hx 416 (x := .kit "LastWord" "NothingToUndo" false) rfl)⟩, here_n en_NoAnswer ⟨isx_ok (xcs_at hx 37 (x := .isx "NoAnswer") rfl), of_decide_eq_true (xcs_at hx 417 (x := .kit "NoAnswer" "NothingToUndo" false) rfl)⟩, here_n en_NoCell ⟨isx_ok (xcs_at hx 39 (x := .isx "NoCell") rfl), of_decide_eq_true (xcs_at hx 418 (x := .kit "NoCell" "NothingToUndo" false) rfl)⟩, here_n en_NotFrank ⟨isx_ok (xcs_at hx 41 (x := .isx "NotFrank") rfl), of_decide_eq_true (xcs_at hx 419 (x := .kit "NotFrank" "NothingToUndo" false) rfl)⟩, here_n en_NothingToUndo ⟨isx_ok (xcs_at hx 43 (x := .isx "NothingToUndo") rfl), of_decide_eq_true (xcs_at hx 420 (x := .kit "NothingToUndo" "NothingToUndo" true) rfl)⟩, here_n en_NoVersion ⟨isx_ok (xcs_at hx 45 (x := .isx "NoVersion") rfl), of_decide_eq_true (xcs_at hx 421 (x := .kit "NoVersion" "NothingToUndo" false) rfl)⟩, here_n en_NoWord ⟨isx_ok (xcs_at hx 47 (x := .isx "NoWord") rfl), of_decide_eq_true (xcs_at hx 422 (x := .kit "NoWord" "NothingToUndo" false) rfl)⟩, here_n en_Rejected ⟨isx_ok (xcs_at hx 49 (x := .isx "Rejected") rfl), of_decide_eq_true (xcs_at hx 423 (x := .kit "Rejected" "NothingToUndo" false) rfl)⟩, here_n en_TooFew ⟨isx_ok (xcs_at hx 51 (x := .isx "TooFew") rfl), of_decide_eq_true (xcs_at hx 424 (x := .kit "TooFew" "NothingToUndo" false) rfl)⟩, here_n en_TooGreat ⟨isx_ok (xcs_at hx 53 (x := .isx "TooGreat") rfl), of_decide_eq_true (xcs_at hx 425 (x := .kit "TooGreat" "NothingToUndo" false) rfl)⟩, here_n en_TooMany ⟨isx_ok (xcs_at hx 55 (x := .isx "TooMany") rfl), of_decide_eq_true (xcs_at hx 426 (x := .kit "TooMany" "NothingToUndo" false) rfl)⟩, here_n en_TooManyEdits ⟨isx_ok (xcs_at hx 57 (x := .isx "TooManyEdits") rfl), of_decide_eq_true (xcs_at hx 427 (x := .kit "TooManyEdits" "NothingToUndo" false) rfl)⟩, here_n en_Unlike ⟨isx_ok (xcs_at hx 59 (x := .isx "Unlike") rfl), of_decide_eq_true (xcs_at hx 428 (x := .kit "Unlike" "NothingToUndo" false) rfl)⟩, trivial⟩⟩,
    ⟨_, em_Rejected, AllT.all ⟨here_n en_FrankError ⟨isx_ok (xcs_at hx 15 (x := .isx "FrankError") rfl), of_decide_eq_true (xcs_at hx 429 (x := .kit "FrankError" "Rejected" false) rfl)⟩, here_n en_BadAnswers ⟨isx_ok (xcs_at hx 17 (x := .isx "BadAnswers") rfl), of_decide_eq_true (xcs_at hx 430 (x := .kit "BadAnswers" "Rejected" false) rfl)⟩, here_n en_BadBatch ⟨isx_ok (xcs_at hx 19 (x := .isx "BadBatch") rfl), of_decide_eq_true (xcs_at hx 431 (x := .kit "BadBatch" "Rejected" false) rfl)⟩, here_n en_BadBelief ⟨isx_ok (xcs_at hx 21 (x := .isx "BadBelief") rfl), of_decide_eq_true (xcs_at hx 432 (x := .kit "BadBelief" "Rejected" false) rfl)⟩, here_n en_BadMark ⟨isx_ok (xcs_at hx 23 (x := .isx "BadMark") rfl), of_decide_eq_true (xcs_at hx 433 (x := .kit "BadMark" "Rejected" false) rfl)⟩, here_n en_BadMenu ⟨isx_ok (xcs_at hx 25 (x := .isx "BadMenu") rfl), of_decide_eq_true (xcs_at hx 434 (x := .kit "BadMenu" "Rejected" false) rfl)⟩, here_n en_BadNumber ⟨isx_ok (xcs_at hx 27 (x := .isx "BadNumber") rfl), of_decide_eq_true (xcs_at hx 435 (x := .kit "BadNumber" "Rejected" false) rfl)⟩, here_n en_BadRow ⟨isx_ok (xcs_at hx 29 (x := .isx "BadRow") rfl), of_decide_eq_true (xcs_at hx 436 (x := .kit "BadRow" "Rejected" false) rfl)⟩, here_n en_BadText ⟨isx_ok (xcs_at hx 31 (x := .isx "BadText") rfl), of_decide_eq_true (xcs_at hx 437 (x := .kit "BadText" "Rejected" false) rfl)⟩, here_n en_Busy ⟨isx_ok (xcs_at hx 33 (x := .isx "Busy") rfl), of_decide_eq_true (xcs_at hx 438 (x := .kit "Busy" "Rejected" false) rfl)⟩, here_n en_LastWord ⟨isx_ok (xcs_at hx 35 (x := .isx "LastWord") rfl), of_decide_eq_true (xcs_at hx 439 (x := .kit "LastWord" "Rejected" false) rfl)⟩, here_n en_NoAnswer ⟨isx_ok (xcs_at hx 37 (x := .isx "NoAnswer") rfl), of_decide_eq_true (xcs_at hx 440 (x := .kit "NoAnswer" "Rejected" false) rfl)⟩, here_n en_NoCell ⟨isx_ok (xcs_at hx 39 (x := .isx "NoCell") rfl), of_decide_eq_true (xcs_at hx 441 (x := .kit "NoCell" "Rejected" false) rfl)⟩, here_n en_NotFrank ⟨isx_ok (xcs_at hx 41 (x := .isx "NotFrank") rfl), of_decide_eq_true (xcs_at hx 442 (x := .kit "NotFrank" "Rejected" false) rfl)⟩, here_n en_NothingToUndo ⟨isx_ok (xcs_at hx 43 (x := .isx "NothingToUndo") rfl), of_decide_eq_true (xcs_at hx 443 (x := .kit "NothingToUndo" "Rejected" false) rfl)⟩, here_n en_NoVersion ⟨isx_ok (xcs_at hx 45 (x := .isx "NoVersion") rfl), of_decide_eq_true (xcs_at hx 444 (x := .kit "NoVersion" "Rejected" false) rfl)⟩, here_n en_NoWord ⟨isx_ok (xcs_at hx 47 (x := .isx "NoWord") rfl), of_decide_eq_true (xcs_at hx 445 (x := .kit "NoWord" "Rejected" false) rfl)⟩, here_n en_Rejected ⟨isx_ok (xcs_at hx 49 (x := .isx "Rejected") rfl), of_decide_eq_true (xcs_at hx 446 (x := .kit "Rejected" "Rejected" true) rfl)⟩, here_n en_TooFew ⟨isx_ok (xcs_at hx 51 (x := .isx "TooFew") rfl), of_decide_eq_true (xcs_at hx 447 (x := .kit "TooFew" "Rejected" false) rfl)⟩, here_n en_TooGreat ⟨isx_ok (xcs_at hx 53 (x := .isx "TooGreat") rfl), of_decide_eq_true (xcs_at hx 448 (x := .kit "TooGreat" "Rejected" false) rfl)⟩, here_n en_TooMany ⟨isx_ok (xcs_at hx 55 (x := .isx "TooMany") rfl), of_decide_eq_true (xcs_at hx 449 (x := .kit "TooMany" "Rejected" false) rfl)⟩, here_n en_TooManyEdits ⟨isx_ok (xcs_at hx 57 (x := .isx "TooManyEdits") rfl), of_decide_eq_true (xcs_at hx 450 (x := .kit "TooManyEdits" "Rejected" false) rfl)⟩, here_n en_Unlike ⟨isx_ok (xcs_at hx 59 (x := .isx "Unlike") rfl), of_decide_eq_true (xcs_at hx 451 (x := .kit "Unlike" "Rejected" false) rfl)⟩, trivial⟩⟩,
    ⟨_, em_TooFew, AllT.all ⟨here_n en_FrankError ⟨isx_ok (xcs_at hx 15 (x := .isx "FrankError") rfl), of_decide_eq_true (xcs_at hx 452 (x := .kit "FrankError" "TooFew" false) rfl)⟩, here_n en_BadAnswers ⟨isx_ok (xcs_at hx 17 (x := .isx "BadAnswers") rfl), of_decide_eq_true (xcs_at hx 453 (x := .kit "BadAnswers" "TooFew" false) rfl)⟩, here_n en_BadBatch ⟨isx_ok (xcs_at hx 19 (x := .isx "BadBatch") rfl), of_decide_eq_true (xcs_at hx 454 (x := .kit "BadBatch" "TooFew" false) rfl)⟩, here_n en_BadBelief ⟨isx_ok (xcs_at hx 21 (x := .isx "BadBelief") rfl), of_decide_eq_true (xcs_at hx 455 (x := .kit "BadBelief" "TooFew" false) rfl)⟩, here_n en_BadMark ⟨isx_ok (xcs_at hx 23 (x := .isx "BadMark") rfl), of_decide_eq_true (xcs_at hx 456 (x := .kit "BadMark" "TooFew" false) rfl)⟩, here_n en_BadMenu ⟨isx_ok (xcs_at hx 25 (x := .isx "BadMenu") rfl), of_decide_eq_true (xcs_at hx 457 (x := .kit "BadMenu" "TooFew" false) rfl)⟩, here_n en_BadNumber ⟨isx_ok (xcs_at hx 27 (x := .isx "BadNumber") rfl), of_decide_eq_true (xcs_at hx 458 (x := .kit "BadNumber" "TooFew" false) rfl)⟩, here_n en_BadRow ⟨isx_ok (xcs_at hx 29 (x := .isx "BadRow") rfl), of_decide_eq_true (xcs_at hx 459 (x := .kit "BadRow" "TooFew" false) rfl)⟩, here_n en_BadText ⟨isx_ok (xcs_at hx 31 (x := .isx "BadText") rfl), of_decide_eq_true (xcs_at hx 460 (x := .kit "BadText" "TooFew" false) rfl)⟩, here_n en_Busy ⟨isx_ok (xcs_at hx 33 (x := .isx "Busy") rfl), of_decide_eq_true (xcs_at hx 461 (x := .kit "Busy" "TooFew" false) rfl)⟩, here_n en_LastWord ⟨isx_ok (xcs_at hx 35 (x := .isx "LastWord") rfl), of_decide_eq_true (xcs_at hx 462 (x := .kit "LastWord" "TooFew" false) rfl)⟩, here_n en_NoAnswer ⟨isx_ok (xcs_at hx 37 (x := .isx "NoAnswer") rfl), of_decide_eq_true (xcs_at hx 463 (x := .kit "NoAnswer" "TooFew" false) rfl)⟩, here_n en_NoCell ⟨isx_ok (xcs_at hx 39 (x := .isx "NoCell") rfl), of_decide_eq_true (xcs_at hx 464 (x := .kit "NoCell" "TooFew" false) rfl)⟩, here_n en_NotFrank ⟨isx_ok (xcs_at hx 41 (x := .isx "NotFrank") rfl), of_decide_eq_true (xcs_at hx 465 (x := .kit "NotFrank" "TooFew" false) rfl)⟩, here_n en_NothingToUndo ⟨isx_ok (xcs_at hx 43 (x := .isx "NothingToUndo") rfl), of_decide_eq_true (xcs_at hx 466 (x := .kit "NothingToUndo" "TooFew" false) rfl)⟩, here_n en_NoVersion ⟨isx_ok (xcs_at hx 45 (x := .isx "NoVersion") rfl), of_decide_eq_true (xcs_at hx 467 (x := .kit "NoVersion" "TooFew" false) rfl)⟩, here_n en_NoWord ⟨isx_ok (xcs_at hx 47 (x := .isx "NoWord") rfl), of_decide_eq_true (xcs_at hx 468 (x := .kit "NoWord" "TooFew" false) rfl)⟩, here_n en_Rejected ⟨isx_ok (xcs_at hx 49 (x := .isx "Rejected") rfl), of_decide_eq_true (xcs_at hx 469 (x := .kit "Rejected" "TooFew" false) rfl)⟩, here_n en_TooFew ⟨isx_ok (xcs_at hx 51 (x := .isx "TooFew") rfl), of_decide_eq_true (xcs_at hx 470 (x := .kit "TooFew" "TooFew" true) rfl)⟩, here_n en_TooGreat ⟨isx_ok (xcs_at hx 53 (x := .isx "TooGreat") rfl), of_decide_eq_true (xcs_at hx 471 (x := .kit "TooGreat" "TooFew" false) rfl)⟩, here_n en_TooMany ⟨isx_ok (xcs_at hx 55 (x := .isx "TooMany") rfl), of_decide_eq_true (xcs_at hx 472 (x := .kit "TooMany" "TooFew" false) rfl)⟩, here_n en_TooManyEdits ⟨isx_ok (xcs_at hx 57 (x := .isx "TooManyEdits") rfl), of_decide_eq_true (xcs_at hx 473 (x := .kit "TooManyEdits" "TooFew" false) rfl)⟩, here_n en_Unlike ⟨isx_ok (xcs_at hx 59 (x := .isx "Unlike") rfl), of_decide_eq_true (xcs_at hx 474 (x := .kit "Unlike" "TooFew" false) rfl)⟩, trivial⟩⟩,
    ⟨_, em_TooGreat, AllT.all ⟨here_n en_FrankError ⟨isx_ok (xcs_at hx 15 (x := .isx "FrankError") rfl), of_decide_eq_true (xcs_at hx 475 (x := .kit "FrankError" "TooGreat" false) rfl)⟩, here_n en_BadAnswers ⟨isx_ok (xcs_at hx 17 (x := .isx "BadAnswers") rfl), of_decide_eq_true (xcs_at hx 476 (x := .kit "BadAnswers" "TooGreat" false) rfl)⟩, here_n en_BadBatch ⟨isx_ok (xcs_at hx 19 (x := .isx "BadBatch") rfl), of_decide_eq_true (xcs_at hx 477 (x := .kit "BadBatch" "TooGreat" false) rfl)⟩, here_n en_BadBelief ⟨isx_ok (xcs_at hx 21 (x := .isx "BadBelief") rfl), of_decide_eq_true (xcs_at hx 478 (x := .kit "BadBelief" "TooGreat" false) rfl)⟩, here_n en_BadMark ⟨isx_ok (xcs_at hx 23 (x := .isx "BadMark") rfl), of_decide_eq_true (xcs_at hx 479 (x := .kit "BadMark" "TooGreat" false) rfl)⟩, here_n en_BadMenu ⟨isx_ok (xcs_at hx 25 (x := .isx "BadMenu") rfl), of_decide_eq_true (xcs_at hx 480 (x := .kit "BadMenu" "TooGreat" false) rfl)⟩, here_n en_BadNumber ⟨isx_ok (xcs_at hx 27 (x := .isx "BadNumber") rfl), of_decide_eq_true (xcs_at hx 481 (x := .kit "BadNumber" "TooGreat" false) rfl)⟩, here_n en_BadRow ⟨isx_ok (xcs_at hx 29 (x := .isx "BadRow") rfl), of_decide_eq_true (xcs_at hx 482 (x := .kit "BadRow" "TooGreat" false) rfl)⟩, here_n en_BadText ⟨isx_ok (xcs_at hx 31 (x := .isx "BadText") rfl), of_decide_eq_true (xcs_at hx 483 (x := .kit "BadText" "TooGreat" false) rfl)⟩, here_n en_Busy ⟨isx_ok (xcs_at hx 33 (x := .isx "Busy") rfl), of_decide_eq_true (xcs_at hx 484 (x := .kit "Busy" "TooGreat" false) rfl)⟩, here_n en_LastWord ⟨isx_ok (xcs_at hx 35 (x := .isx "LastWord") rfl), of_decide_eq_true (xcs_at hx 485 (x := .kit "LastWord" "TooGreat" false) rfl)⟩, here_n en_NoAnswer ⟨isx_ok (xcs_at hx 37 (x := .isx "NoAnswer") rfl), of_decide_eq_true (xcs_at hx 486 (x := .kit "NoAnswer" "TooGreat" false) rfl)⟩, here_n en_NoCell ⟨isx_ok (xcs_at hx 39 (x := .isx "NoCell") rfl), of_decide_eq_true (xcs_at hx 487 (x := .kit "NoCell" "TooGreat" false) rfl)⟩, here_n en_NotFrank ⟨isx_ok (xcs_at hx 41 (x := .isx "NotFrank") rfl), of_decide_eq_true (xcs_at hx 488 (x := .kit "NotFrank" "TooGreat" false) rfl)⟩, here_n en_NothingToUndo ⟨isx_ok (xcs_at hx 43 (x := .isx "NothingToUndo") rfl), of_decide_eq_true (xcs_at hx 489 (x := .kit "NothingToUndo" "TooGreat" false) rfl)⟩, here_n en_NoVersion ⟨isx_ok (xcs_at hx 45 (x := .isx "NoVersion") rfl), of_decide_eq_true (xcs_at hx 490 (x := .kit "NoVersion" "TooGreat" false) rfl)⟩, here_n en_NoWord ⟨isx_ok (xcs_at hx 47 (x := .isx "NoWord") rfl), of_decide_eq_true (xcs_at hx 491 (x := .kit "NoWord" "TooGreat" false) rfl)⟩, here_n en_Rejected ⟨isx_ok (xcs_at hx 49 (x := .isx "Rejected") rfl), of_decide_eq_true (xcs_at hx 492 (x := .kit "Rejected" "TooGreat" false) rfl)⟩, here_n en_TooFew ⟨isx_ok (xcs_at hx 51 (x := .isx "TooFew") rfl), of_decide_eq_true (xcs_at hx 493 (x := .kit "TooFew" "TooGreat" false) rfl)⟩, here_n en_TooGreat ⟨isx_ok (xcs_at hx 53 (x := .isx "TooGreat") rfl), of_decide_eq_true (xcs_at hx 494 (x := .kit "TooGreat" "TooGreat" true) rfl)⟩, here_n en_TooMany ⟨isx_ok (xcs_at hx 55 (x := .isx "TooMany") rfl), of_decide_eq_true (xcs_at hx 495 (x := .kit "TooMany" "TooGreat" false) rfl)⟩, here_n en_TooManyEdits ⟨isx_ok (xcs_at hx 57 (x := .isx "TooManyEdits") rfl), of_decide_eq_true (xcs_at hx 496 (x := .kit "TooManyEdits" "TooGreat" false) rfl)⟩, here_n en_Unlike ⟨isx_ok (xcs_at hx 59 (x := .isx "Unlike") rfl), of_decide_eq_true (xcs_at hx 497 (x := .kit "Unlike" "TooGreat" false) rfl)⟩, trivial⟩⟩,
    ⟨_, em_TooMany, AllT.all ⟨here_n en_FrankError ⟨isx_ok (xcs_at hx 15 (x := .isx "FrankError") rfl), of_decide_eq_true (xcs_at hx 498 (x := .kit "FrankError" "TooMany" false) rfl)⟩, here_n en_BadAnswers ⟨isx_ok (xcs_at hx 17 (x := .isx "BadAnswers") rfl), of_decide_eq_true (xcs_at hx 499 (x := .kit "BadAnswers" "TooMany" false) rfl)⟩, here_n en_BadBatch ⟨isx_ok (xcs_at hx 19 (x := .isx "BadBatch") rfl), of_decide_eq_true (xcs_at hx 500 (x := .kit "BadBatch" "TooMany" false) rfl)⟩, here_n en_BadBelief ⟨isx_ok (xcs_at hx 21 (x := .isx "BadBelief") rfl), of_decide_eq_true (xcs_at hx 501 (x := .kit "BadBelief" "TooMany" false) rfl)⟩, here_n en_BadMark ⟨isx_ok (xcs_at hx 23 (x := .isx "BadMark") rfl), of_decide_eq_true (xcs_at hx 502 (x := .kit "BadMark" "TooMany" false) rfl)⟩, here_n en_BadMenu ⟨isx_ok (xcs_at hx 25 (x := .isx "BadMenu") rfl), of_decide_eq_true (xcs_at hx 503 (x := .kit "BadMenu" "TooMany" false) rfl)⟩, here_n en_BadNumber ⟨isx_ok (xcs_at hx 27 (x := .isx "BadNumber") rfl), of_decide_eq_true (xcs_at hx 504 (x := .kit "BadNumber" "TooMany" false) rfl)⟩, here_n en_BadRow ⟨isx_ok (xcs_at hx 29 (x := .isx "BadRow") rfl), of_decide_eq_true (xcs_at hx 505 (x := .kit "BadRow" "TooMany" false) rfl)⟩, here_n en_BadText ⟨isx_ok (xcs_at hx 31 (x := .isx "BadText") rfl), of_decide_eq_true (xcs_at hx 506 (x := .kit "BadText" "TooMany" false) rfl)⟩, here_n en_Busy ⟨isx_ok (xcs_at hx 33 (x := .isx "Busy") rfl), of_decide_eq_true (xcs_at hx 507 (x := .kit "Busy" "TooMany" false) rfl)⟩, here_n en_LastWord ⟨isx_ok (xcs_at hx 35 (x := .isx "LastWord") rfl), of_decide_eq_true (xcs_at hx 508 (x := .kit "LastWord" "TooMany" false) rfl)⟩, here_n en_NoAnswer ⟨isx_ok (xcs_at hx 37 (x := .isx "NoAnswer") rfl), of_decide_eq_true (xcs_at hx 509 (x := .kit "NoAnswer" "TooMany" false) rfl)⟩, here_n en_NoCell ⟨isx_ok (xcs_at hx 39 (x := .isx "NoCell") rfl), of_decide_eq_true (xcs_at hx 510 (x := .kit "NoCell" "TooMany" false) rfl)⟩, here_n en_NotFrank ⟨isx_ok (xcs_at hx 41 (x := .isx "NotFrank") rfl), of_decide_eq_true (xcs_at hx 511 (x := .kit "NotFrank" "TooMany" false) rfl)⟩, here_n en_NothingToUndo ⟨isx_ok (xcs_at hx 43 (x := .isx "NothingToUndo") rfl), of_decide_eq_true (xcs_at hx 512 (x := .kit "NothingToUndo" "TooMany" false) rfl)⟩, here_n en_NoVersion ⟨isx_ok (xcs_at hx 45 (x := .isx "NoVersion") rfl), of_decide_eq_true (xcs_at hx 513 (x := .kit "NoVersion" "TooMany" false) rfl)⟩, here_n en_NoWord ⟨isx_ok (xcs_at hx 47 (x := .isx "NoWord") rfl), of_decide_eq_true (xcs_at hx 514 (x := .kit "NoWord" "TooMany" false) rfl)⟩, here_n en_Rejected ⟨isx_ok (xcs_at hx 49 (x := .isx "Rejected") rfl), of_decide_eq_true (xcs_at hx 515 (x := .kit "Rejected" "TooMany" false) rfl)⟩, here_n en_TooFew ⟨isx_ok (xcs_at hx 51 (x := .isx "TooFew") rfl), of_decide_eq_true (xcs_at hx 516 (x := .kit "TooFew" "TooMany" false) rfl)⟩, here_n en_TooGreat ⟨isx_ok (xcs_at hx 53 (x := .isx "TooGreat") rfl), of_decide_eq_true (xcs_at hx 517 (x := .kit "TooGreat" "TooMany" false) rfl)⟩, here_n en_TooMany ⟨isx_ok (xcs_at hx 55 (x := .isx "TooMany") rfl), of_decide_eq_true (xcs_at hx 518 (x := .kit "TooMany" "TooMany" true) rfl)⟩, here_n en_TooManyEdits ⟨isx_ok (xcs_at hx 57 (x := .isx "TooManyEdits") rfl), of_decide_eq_true (xcs_at hx 519 (x := .kit "TooManyEdits" "TooMany" false) rfl)⟩, here_n en_Unlike ⟨isx_ok (xcs_at hx 59 (x := .isx "Unlike") rfl), of_decide_eq_true (xcs_at hx 520 (x := .kit "Unlike" "TooMany" false) rfl)⟩, trivial⟩⟩,
    ⟨_, em_TooManyEdits, AllT.all ⟨here_n en_FrankError ⟨isx_ok (xcs_at hx 15 (x := .isx "FrankError") rfl), of_decide_eq_true (xcs_at hx 521 (x := .kit "FrankError" "TooManyEdits" false) rfl)⟩, here_n en_BadAnswers ⟨isx_ok (xcs_at hx 17 (x := .isx "BadAnswers") rfl), of_decide_eq_true (xcs_at hx 522 (x := .kit "BadAnswers" "TooManyEdits" false) rfl)⟩, here_n en_BadBatch ⟨isx_ok (xcs_at hx 19 (x := .isx "BadBatch") rfl), of_decide_eq_true (xcs_at hx 523 (x := .kit "BadBatch" "TooManyEdits" false) rfl)⟩, here_n en_BadBelief ⟨isx_ok (xcs_at hx 21 (x := .isx "BadBelief") rfl), of_decide_eq_true (xcs_at hx 524 (x := .kit "BadBelief" "TooManyEdits" false) rfl)⟩, here_n en_BadMark ⟨isx_ok (xcs_at hx 23 (x := .isx "BadMark") rfl), of_decide_eq_true (xcs_at hx 525 (x := .kit "BadMark" "TooManyEdits" false) rfl)⟩, here_n en_BadMenu ⟨isx_ok (xcs_at hx 25 (x := .isx "BadMenu") rfl), of_decide_eq_true (xcs_at hx 526 (x := .kit "BadMenu" "TooManyEdits" false) rfl)⟩, here_n en_BadNumber ⟨isx_ok (xcs_at hx 27 (x := .isx "BadNumber") rfl), of_decide_eq_true (xcs_at hx 527 (x := .kit "BadNumber" "TooManyEdits" false) rfl)⟩, here_n en_BadRow ⟨isx_ok (xcs_at hx 29 (x := .isx "BadRow") rfl), of_decide_eq_true (xcs_at hx 528 (x := .kit "BadRow" "TooManyEdits" false) rfl)⟩, here_n en_BadText ⟨isx_ok (xcs_at hx 31 (x := .isx "BadText") rfl), of_decide_eq_true (xcs_at hx 529 (x := .kit "BadText" "TooManyEdits" false) rfl)⟩, here_n en_Busy ⟨isx_ok (xcs_at hx 33 (x := .isx "Busy") rfl), of_decide_eq_true (xcs_at hx 530 (x := .kit "Busy" "TooManyEdits" false) rfl)⟩, here_n en_LastWord ⟨isx_ok (xcs_at hx 35 (x := .isx "LastWord") rfl), of_decide_eq_true (xcs_at hx 531 (x := .kit "LastWord" "TooManyEdits" false) rfl)⟩, here_n en_NoAnswer ⟨isx_ok (xcs_at hx 37 (x := .isx "NoAnswer") rfl), of_decide_eq_true (xcs_at hx 532 (x := .kit "NoAnswer" "TooManyEdits" false) rfl)⟩, here_n en_NoCell ⟨isx_ok (xcs_at hx 39 (x := .isx "NoCell") rfl), of_decide_eq_true (xcs_at hx 533 (x := .kit "NoCell" "TooManyEdits" false) rfl)⟩, here_n en_NotFrank ⟨isx_ok (xcs_at hx 41 (x := .isx "NotFrank") rfl), of_decide_eq_true (xcs_at hx 534 (x := .kit "NotFrank" "TooManyEdits" false) rfl)⟩, here_n en_NothingToUndo ⟨isx_ok (xcs_at hx 43 (x := .isx "NothingToUndo") rfl), of_decide_eq_true (xcs_at hx 535 (x := .kit "NothingToUndo" "TooManyEdits" false) rfl)⟩, here_n en_NoVersion ⟨isx_ok (xcs_at hx 45 (x := .isx "NoVersion") rfl), of_decide_eq_true (xcs_at hx 536 (x := .kit "NoVersion" "TooManyEdits" false) rfl)⟩, here_n en_NoWord ⟨isx_ok (xcs_at hx 47 (x := .isx "NoWord") rfl), of_decide_eq_true (xcs_at hx 537 (x := .kit "NoWord" "TooManyEdits" false) rfl)⟩, here_n en_Rejected ⟨isx_ok (xcs_at hx 49 (x := .isx "Rejected") rfl), of_decide_eq_true (xcs_at hx 538 (x := .kit "Rejected" "TooManyEdits" false) rfl)⟩, here_n en_TooFew ⟨isx_ok (xcs_at hx 51 (x := .isx "TooFew") rfl), of_decide_eq_true (xcs_at hx 539 (x := .kit "TooFew" "TooManyEdits" false) rfl)⟩, here_n en_TooGreat ⟨isx_ok (xcs_at hx 53 (x := .isx "TooGreat") rfl), of_decide_eq_true (xcs_at hx 540 (x := .kit "TooGreat" "TooManyEdits" false) rfl)⟩, here_n en_TooMany ⟨isx_ok (xcs_at hx 55 (x := .isx "TooMany") rfl), of_decide_eq_true (xcs_at hx 541 (x := .kit "TooMany" "TooManyEdits" false) rfl)⟩, here_n en_TooManyEdits ⟨isx_ok (xcs_at hx 57 (x := .isx "TooManyEdits") rfl), of_decide_eq_true (xcs_at hx 542 (x := .kit "TooManyEdits" "TooManyEdits" true) rfl)⟩, here_n en_Unlike ⟨isx_ok (xcs_at hx 59 (x := .isx "Unlike") rfl), of_decide_eq_true (xcs_at hx 543 (x := .kit "Unlike" "TooManyEdits" false) rfl)⟩, trivial⟩⟩,
    ⟨_, em_Unlike, AllT.all ⟨here_n en_FrankError ⟨isx_ok (xcs_at hx 15 (x := .isx "FrankError") rfl), of_decide_eq_true (xcs_at hx 544 (x := .kit "FrankError" "Unlike" false) rfl)⟩, here_n en_BadAnswers ⟨isx_ok (xcs_at hx 17 (x := .isx "BadAnswers") rfl), of_decide_eq_true (xcs_at hx 545 (x := .kit "BadAnswers" "Unlike" false) rfl)⟩, here_n en_BadBatch ⟨isx_ok (xcs_at hx 19 (x := .isx "BadBatch") rfl), of_decide_eq_true (xcs_at hx 546 (x := .kit "BadBatch" "Unlike" false) rfl)⟩, here_n en_BadBelief ⟨isx_ok (xcs_at hx 21 (x := .isx "BadBelief") rfl), of_decide_eq_true (xcs_at hx 547 (x := .kit "BadBelief" "Unlike" false) rfl)⟩, here_n en_BadMark ⟨isx_ok (xcs_at hx 23 (x := .isx "BadMark") rfl), of_decide_eq_true (xcs_at hx 548 (x := .kit "BadMark" "Unlike" false) rfl)⟩, here_n en_BadMenu ⟨isx_ok (xcs_at hx 25 (x := .isx "BadMenu") rfl), of_decide_eq_true (xcs_at hx 549 (x := .kit "BadMenu" "Unlike" false) rfl)⟩, here_n en_BadNumber ⟨isx_ok (xcs_at hx 27 (x := .isx "BadNumber") rfl), of_decide_eq_true (xcs_at hx 550 (x := .kit "BadNumber" "Unlike" false) rfl)⟩, here_n en_BadRow ⟨isx_ok (xcs_at hx 29 (x := .isx "BadRow") rfl), of_decide_eq_true (xcs_at hx 551 (x := .kit "BadRow" "Unlike" false) rfl)⟩, here_n en_BadText ⟨isx_ok (xcs_at hx 31 (x := .isx "BadText") rfl), of_decide_eq_true (xcs_at hx 552 (x := .kit "BadText" "Unlike" false) rfl)⟩, here_n en_Busy ⟨isx_ok (xcs_at hx 33 (x := .isx "Busy") rfl), of_decide_eq_true (xcs_at hx 553 (x := .kit "Busy" "Unlike" false) rfl)⟩, here_n en_LastWord ⟨isx_ok (xcs_at hx 35 (x := .isx "LastWord") rfl), of_decide_eq_true (xcs_at hx 554 (x := .kit "LastWord" "Unlike" false) rfl)⟩, here_n en_NoAnswer ⟨isx_ok (xcs_at hx 37 (x := .isx "NoAnswer") rfl), of_decide_eq_true (xcs_at hx 555 (x := .kit "NoAnswer" "Unlike" false) rfl)⟩, here_n en_NoCell ⟨isx_ok (xcs_at hx 39 (x := .isx "NoCell") rfl), of_decide_eq_true (xcs_at hx 556 (x := .kit "NoCell" "Unlike" false) rfl)⟩, here_n en_NotFrank ⟨isx_ok (xcs_at hx 41 (x := .isx "NotFrank") rfl), of_decide_eq_true (xcs_at hx 557 (x := .kit "NotFrank" "Unlike" false) rfl)⟩, here_n en_NothingToUndo ⟨isx_ok (xcs_at hx 43 (x := .isx "NothingToUndo") rfl), of_decide_eq_true (xcs_at hx 558 (x := .kit "NothingToUndo" "Unlike" false) rfl)⟩, here_n en_NoVersion ⟨isx_ok (xcs_at hx 45 (x := .isx "NoVersion") rfl), of_decide_eq_true (xcs_at hx 559 (x := .kit "NoVersion" "Unlike" false) rfl)⟩, here_n en_NoWord ⟨isx_ok (xcs_at hx 47 (x := .isx "NoWord") rfl), of_decide_eq_true (xcs_at hx 560 (x := .kit "NoWord" "Unlike" false) rfl)⟩, here_n en_Rejected ⟨isx_ok (xcs_at hx 49 (x := .isx "Rejected") rfl), of_decide_eq_true (xcs_at hx 561 (x := .kit "Rejected" "Unlike" false) rfl)⟩, here_n en_TooFew ⟨isx_ok (xcs_at hx 51 (x := .isx "TooFew") rfl), of_decide_eq_true (xcs_at hx 562 (x := .kit "TooFew" "Unlike" false) rfl)⟩, here_n en_TooGreat ⟨isx_ok (xcs_at hx 53 (x := .isx "TooGreat") rfl), of_decide_eq_true (xcs_at hx 563 (x := .kit "TooGreat" "Unlike" false) rfl)⟩, here_n en_TooMany ⟨isx_ok (xcs_at hx 55 (x := .isx "TooMany") rfl), of_decide_eq_true (xcs_at hx 564 (x := .kit "TooMany" "Unlike" false) rfl)⟩, here_n en_TooManyEdits ⟨isx_ok (xcs_at hx 57 (x := .isx "TooManyEdits") rfl), of_decide_eq_true (xcs_at hx 565 (x := .kit "TooManyEdits" "Unlike" false) rfl)⟩, here_n en_Unlike ⟨isx_ok (xcs_at hx 59 (x := .isx "Unlike") rfl), of_decide_eq_true (xcs_at hx 566 (x := .kit "Unlike" "Unlike" true) rfl)⟩, trivial⟩⟩,
    ⟨AllT.all ⟨here_n en_FrankError ⟨isx_ok (xcs_at hx 15 (x := .isx "FrankError") rfl), of_decide_eq_true (xctK_at ht 0 (p := .kve "FrankError") rfl)⟩, here_n en_BadAnswers ⟨isx_ok (xcs_at hx 17 (x := .isx "BadAnswers") rfl), of_decide_eq_true (xctK_at ht 1 (p := .kve "BadAnswers") rfl)⟩, here_n en_BadBatch ⟨isx_ok (xcs_at hx 19 (x := .isx "BadBatch") rfl), of_decide_eq_true (xctK_at ht 2 (p := .kve "BadBatch") rfl)⟩, here_n en_BadBelief ⟨isx_ok (xcs_at hx 21 (x := .isx "BadBelief") rfl), of_decide_eq_true (xctK_at ht 3 (p := .kve "BadBelief") rfl)⟩, here_n en_BadMark ⟨isx_ok (xcs_at hx 23 (x := .isx "BadMark") rfl), of_decide_eq_true (xctK_at ht 4 (p := .kve "BadMark") rfl)⟩, here_n en_BadMenu ⟨isx_ok (xcs_at hx 25 (x := .isx "BadMenu") rfl), of_decide_eq_true (xctK_at ht 5 (p := .kve "BadMenu") rfl)⟩, here_n en_BadNumber ⟨isx_ok (xcs_at hx 27 (x := .isx "BadNumber") rfl), of_decide_eq_true (xctK_at ht 6 (p := .kve "BadNumber") rfl)⟩, here_n en_BadRow ⟨isx_ok (xcs_at hx 29 (x := .isx "BadRow") rfl), of_decide_eq_true (xctK_at ht 7 (p := .kve "BadRow") rfl)⟩, here_n en_BadText ⟨isx_ok (xcs_at hx 31 (x := .isx "BadText") rfl), of_decide_eq_true (xctK_at ht 8 (p := .kve "BadText") rfl)⟩, here_n en_Busy ⟨isx_ok (xcs_at hx 33 (x := .isx "Busy") rfl), of_decide_eq_true (xctK_at ht 9 (p := .kve "Busy") rfl)⟩, here_n en_LastWord ⟨isx_ok (xcs_at hx 35 (x := .isx "LastWord") rfl), of_decide_eq_true (xctK_at ht 10 (p := .kve "LastWord") rfl)⟩, here_n en_NoAnswer ⟨isx_ok (xcs_at hx 37 (x := .isx "NoAnswer") rfl), of_decide_eq_true (xctK_at ht 11 (p := .kve "NoAnswer") rfl)⟩, here_n en_NoCell ⟨isx_ok (xcs_at hx 39 (x := .isx "NoCell") rfl), of_decide_eq_true (xctK_at ht 12 (p := .kve "NoCell") rfl)⟩, here_n en_NotFrank ⟨isx_ok (xcs_at hx 41 (x := .isx "NotFrank") rfl), of_decide_eq_true (xctK_at ht 13 (p := .kve "NotFrank") rfl)⟩, here_n en_NothingToUndo ⟨isx_ok (xcs_at hx 43 (x := .isx "NothingToUndo") rfl), of_decide_eq_true (xctK_at ht 14 (p := .kve "NothingToUndo") rfl)⟩, here_n en_NoVersion ⟨isx_ok (xcs_at hx 45 (x := .isx "NoVersion") rfl), of_decide_eq_true (xctK_at ht 15 (p := .kve "NoVersion") rfl)⟩, here_n en_NoWord ⟨isx_ok (xcs_at hx 47 (x := .isx "NoWord") rfl), of_decide_eq_true (xctK_at ht 16 (p := .kve "NoWord") rfl)⟩, here_n en_Rejected ⟨isx_ok (xcs_at hx 49 (x := .isx "Rejected") rfl), of_decide_eq_true (xctK_at ht 17 (p := .kve "Rejected") rfl)⟩, here_n en_TooFew ⟨isx_ok (xcs_at hx 51 (x := .isx "TooFew") rfl), of_decide_eq_true (xctK_at ht 18 (p := .kve "TooFew") rfl)⟩, here_n en_TooGreat ⟨isx_ok (xcs_at hx 53 (x := .isx "TooGreat") rfl), of_decide_eq_true (xctK_at ht 19 (p := .kve "TooGreat") rfl)⟩, here_n en_TooMany ⟨isx_ok (xcs_at hx 55 (x := .isx "TooMany") rfl), of_decide_eq_true (xctK_at ht 20 (p := .kve "TooMany") rfl)⟩, here_n en_TooManyEdits ⟨isx_ok (xcs_at hx 57 (x := .isx "TooManyEdits") rfl), of_decide_eq_true (xctK_at ht 21 (p := .kve "TooManyEdits") rfl)⟩, here_n en_Unlike ⟨isx_ok (xcs_at hx 59 (x := .isx "Unlike") rfl), of_decide_eq_true (xctK_at ht 22 (p := .kve "Unlike") rfl)⟩, trivial⟩⟩,
    ⟨AllT.all ⟨here_n en_BadMenu (xf_ok (xcs_at hx 567 (x := .xf "BadMenu" "error") rfl)), trivial⟩⟩,
    ⟨AllT.all ⟨here_n en_BadAnswers (xf_ok (xcs_at hx 568 (x := .xf "BadAnswers" "given") rfl)), here_n en_BadBelief (xf_ok (xcs_at hx 569 (x := .xf "BadBelief" "given") rfl)), here_n en_BadMark (xf_ok (xcs_at hx 570 (x := .xf "BadMark" "given") rfl)), here_n en_BadNumber (xf_ok (xcs_at hx 571 (x := .xf "BadNumber" "given") rfl)), here_n en_BadRow (xf_ok (xcs_at hx 572 (x := .xf "BadRow" "given") rfl)), here_n en_BadText (xf_ok (xcs_at hx 573 (x := .xf "BadText" "given") rfl)), here_n en_NoAnswer (xf_ok (xcs_at hx 574 (x := .xf "NoAnswer" "given") rfl)), here_n en_NoVersion (xf_ok (xcs_at hx 575 (x := .xf "NoVersion" "given") rfl)), here_n en_NoWord (xf_ok (xcs_at hx 576 (x := .xf "NoWord" "given") rfl)), trivial⟩⟩,
    ⟨AllT.all ⟨here_n en_Rejected (xf_ok (xcs_at hx 577 (x := .xf "Rejected" "index") rfl)), trivial⟩⟩,
    ⟨AllT.all ⟨here_n en_TooMany (xf_ok (xcs_at hx 578 (x := .xf "TooMany" "limit") rfl)), trivial⟩⟩,
    ⟨AllT.all ⟨here_n en_NotFrank (xf_ok (xcs_at hx 579 (x := .xf "NotFrank" "weights") rfl)), trivial⟩⟩,
    ⟨AllT.all ⟨here_n en_NoCell (xf_ok (xcs_at hx 580 (x := .xf "NoCell" "word") rfl)), here_n en_NotFrank (xf_ok (xcs_at hx 581 (x := .xf "NotFrank" "word") rfl)), trivial⟩⟩⟩
  have h__law_opened : Fn P w K mg base 1 "_law_opened" ["_law_script"] [] f__law_opened := Fn.allN F__law_opened m__law_opened (ok__law_opened G E B F__law_opened) (fun _ _ _ _ _ _ us hl => match us, hl with | [_], _ => rfl)
  have h__law_draw : Fn P w K mg base 1 "_law_draw" ["_law_box", "_law_many"] [] f__law_draw := Fn.allN F__law_draw m__law_draw (ok__law_draw G E B F__law_draw) (fun _ _ _ _ _ _ us hl => match us, hl with | [_, _], _ => rfl)
  have h__law_one : Fn P w K mg base 2 "_law_one" ["_law_box", "_law_items"] [] f__law_one := Fn.allN F__law_one m__law_one (ok__law_one G E B h__law_draw F__law_one) (fun _ _ _ _ _ _ us hl => match us, hl with | [_, _], _ => rfl)
  have h__law_flags : Fn P w K mg base 1 "_law_flags" ["_law_error"] [] f__law_flags := Fn.allN F__law_flags m__law_flags (ok__law_flags G E B F__law_flags) (fun _ _ _ _ _ _ us hl => match us, hl with | [_], _ => rfl)
  have h__law_bare : Fn P w K mg base 1 "_law_bare" [] [] f__law_bare := Fn.allN F__law_bare m__law_bare (ok__law_bare G E B F__law_bare) (fun _ _ _ _ _ _ us hl => match us, hl with | [], _ => rfl)
  have h__law_single : Fn P w K mg base 3 "_law_single" ["_law_value"] [] f__law_single := Fn.allN F__law_single m__law_single (ok__law_single G E B F__law_single) (fun _ _ _ _ _ _ us hl => match us, hl with | [_], _ => rfl)
  have h__law_kept : Fn P w K mg base 3 "_law_kept" ["_law_one_here", "_law_other"] [] f__law_kept := Fn.allN F__law_kept m__law_kept (ok__law_kept G E B F__law_kept) (fun _ _ _ _ _ _ us hl => match us, hl with | [_, _], _ => rfl)
  exact ok_law G E B h__law_bare h__law_flags h__law_kept h__law_one h__law_opened h__law_single F_law
end K01
end
set_option Elab.async false
set_option linter.all false
set_option maxRecDepth 100000
set_option maxHeartbeats 0
open PySem PySem.W PySem.Calls PyProof.Rows in
theorem PySem.Challenge.cw_frankmarks_k01_limits_and_errors_holds : PySem.Challenge.rw_frankmarks_k01_limits_and_errors.Holds := by
  w_on; o_law
  refine HandSHeadRun.head_any (r := OpenLaw.row PySem.Challenge.rw_frankmarks_k01_limits_and_errors) (q := view (OpenLaw.row PySem.Challenge.rw_frankmarks_k01_limits_and_errors).prog [38]) (H := K01.hk) (ob := K01.ob) (M := 20000) (loose := K01.loose) (d := HandSHeadRun.topDef (OpenLaw.row PySem.Challenge.rw_frankmarks_k01_limits_and_errors).prog 38) (kwd := []) K01.ob_eq
    (by kernel_rfl) (fun s => by kernel_rfl) K01.run (by kernel_rfl) (by kernel_rfl) (by kernel_rfl) (by rfl) (by first | assumption | decide +kernel) (by decide +kernel) ⟨rfl, rfl, rfl, rfl, rfl, by decide +kernel⟩ ?hw ?hc
  case hw => w_witness2
  case hc =>
    refine Fk.walk_ofG (l := PySem.Challenge.rw_frankmarks_k01_limits_and_errors) (n := 63) (k := 4) (x := "_law_script") (fs := Sm.f_law_k01) (tn := K01.tn) rfl (by decide) (by kernel_rfl) ⟨rfl, by decide, by decide⟩ (by intro x hx; revert x; decide +kernel) ?F K01.plain
    intro w mg fa h Y G hmg0
    obtain ⟨K, KX, c, hs, hp⟩ := Y
    have hmg : mg ("law" : PySem.Str) = some (.ref fa) := by
      have e : (HandSHeadRun.topDef (OpenLaw.row PySem.Challenge.rw_frankmarks_k01_limits_and_errors).prog 38).name = ("law" : PySem.Str) := by kernel_rfl
      rw [← e]
      exact hmg0
    obtain ⟨fd, hb, hF⟩ := K01.facts (P := PySem.Challenge.rw_frankmarks_k01_limits_and_errors.prog) (w := w) KX G hmg c hs hp
    exact ⟨K, fd, KX, (Bool.and_eq_true_iff.mp (Bool.and_eq_true_iff.mp (Bool.and_eq_true_iff.mp hs).2).1).1, hb, hF⟩
